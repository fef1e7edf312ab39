import PyProof.Rows.All
import HandS.ForMost
import HandS.Exc
import HandS.ExcInit
import HandS.Wide
import HandS.Deep
import HandS.TupAny
import HandS.SortInts
import HandS.IsInst
import PyProof.Rows.SortShellAny
import HandS.CallSlots
import HandS.Zip
import HandS.More
import KE.GoesEnum
import HandS.Flow
import HandS.Style
import HandS.Defaults
import HandS.Ends
import HandS.HeadHook2
import HandS.Head0
import HandS.Head1
import HandS.Head2
import HandS.HeadEnd
import HandS.HeadHook1
import KE.KStateDown
import Wide.All
import OpenK.AllK
import Wide.FinOn
import PySem.Challenge.RW_noidlegain_k55_whole_best_baskets
set_option Elab.async false
set_option linter.all false
set_option maxRecDepth 100000
set_option maxHeartbeats 4000000
/-! Pd1: plain data, a small language for defs, its evaluator. No machine in sight. -/
namespace Pd
open PySem PySem.Spec PyProof.Rows L2

/-- plain data -/
inductive D where
  | non | bl (b : Bool) | int (i : Int) | str (s : Str)
  | tup (xs : List D) | lst (xs : List D) | dic (kvs : List (D × D))
  | ins (c : Nat) (fs : List (Str × D)) | scr (ns : List Int)
  deriving Inhabited

/-- what a slot holds: data, data of a new object (an expression's outcome only), a cell -/
inductive Vl where
  | d (x : D) | new (x : D) | loc (n : Nat)
  deriving Inhabited
structure Cell where
  live : Bool
  d : D
  deriving Inhabited
abbrev Mem := List Cell
abbrev Vars := List (Option Vl)

inductive R (α : Type) where
  | ok (a : α) (M : Mem) | exc (c : Nat) (fs : List (Str × D)) (M : Mem) | no
def R.bind {α β : Type} (r : R α) (f : α → Mem → R β) : R β := match r with
  | .ok a M => f a M
  | .exc c fs M => .exc c fs M
  | .no => .no
def R.lift {α : Type} (o : Option α) (M : Mem) : R α := match o with
  | some a => .ok a M
  | none => .no
/-- the outcome of a statement -/
inductive RS where
  | nx (v : Vars) (M : Mem) | ret (r : Vl) (M : Mem) | brk (v : Vars) (M : Mem) | cnt (v : Vars) (M : Mem)
  | exc (c : Nat) (fs : List (Str × D)) (v : Vars) (M : Mem) | no
def R.thenS {α : Type} (r : R α) (v : Vars) (f : α → Mem → RS) : RS := match r with
  | .ok a M => f a M
  | .exc c fs M => .exc c fs v M
  | .no => .no
def RS.andThen (r : RS) (f : Vars → Mem → RS) : RS := match r with
  | .nx v M => f v M
  | .ret x M => .ret x M
  | .brk v M => .brk v M
  | .cnt v M => .cnt v M
  | .exc c fs v M => .exc c fs v M
  | .no => .no

inductive Op1 where
  | neg | isN | notN
  deriving DecidableEq
inductive Op2 where
  | add | sub | mul | fdiv | mod | pow | eq | ne | lt | le | gt | ge | inn | nin
  deriving DecidableEq
inductive Bi where
  | len | tuple | list | sum | max | min | abs | sorted | all | any | int | str
  deriving DecidableEq
inductive Bm where
  | append | extend | pop | reverse | insert | index | count | join
  deriving DecidableEq
/-- built-in types and own classes, for isinstance -/
inductive Ty where
  | int | bool | str | list | tuple | dict | cls (c : Nat)
  deriving DecidableEq
/-- targets: a slot; a tuple of targets (a row t0, tc) -/
inductive T where
  | n (i : Nat) | t (r : T) | t0 | tc (a r : T)

/-- expressions; nil and cons for rows of them -/
inductive E where
  | nil | cons (a r : E)
  | var (i : Nat)
  | k (d : D)
  | g (x : Str) (d : D)
  | op1 (o : Op1) (a : E)
  | op2 (o : Op2) (a b : E)
  | chain (o p : Op2) (a b c : E)
  | and (a b : E) | or (a b : E) | not (a : E)
  | ife (c a b : E)
  | tup (as : E) | lst (as : E)
  | idx (a i : E)
  | sl (a lo hi : E)
  | bi (b : Bi) (as : E)
  | bm (m : Bm) (o as : E)
  | call (f : Nat) (as : E)
  | isi (ts : List Ty) (a : E)
  | rng (lo hi : E) | enum (a : E) | zip (a b : E)
  | lc (own : List Nat) (t : T) (it c elt : E)

/-- statements -/
inductive S where
  | skip | seq (a b : S)
  | set (t : T) (e : E)
  | cell (i : Nat) (e : E)
  | par (is : List Nat) (cs : List Bool) (es : E)
  | setix (o i e : E)
  | aug (i : Nat) (o : Op2) (e : E)
  | ex (e : E)
  | ret (e : E) | retn
  | ite (c : E) (a b : S)
  | for (t : T) (it : E) (b : S)
  | whil (c : E) (b : S)
  | raise (c : Nat) (as : E)
  | brk | cnt | nev

/-! ### operations on data -/
def D.ints? : List D → Option (List Int)
  | [] => some []
  | .int i :: r => (D.ints? r).map (i :: ·)
  | _ :: _ => none
def D.strs? : List D → Option (List Str)
  | [] => some []
  | .str i :: r => (D.strs? r).map (i :: ·)
  | _ :: _ => none
def D.bls? : List D → Option (List Bool)
  | [] => some []
  | .bl i :: r => (D.bls? r).map (i :: ·)
  | _ :: _ => none

/-! == of plain data -/
def D.isTrueI (b : Bool) : Int := if b then 1 else 0
mutual
def D.eqv : D → D → Bool
  | .non, .non => true
  | .bl a, .bl b => a == b
  | .bl a, .int j => D.isTrueI a == j
  | .int i, .bl b => i == D.isTrueI b
  | .int i, .int j => i == j
  | .str x, .str y => x == y
  | .lst xs, .lst ys => D.eqvs xs ys
  | .tup xs, .tup ys => D.eqvs xs ys
  | _, _ => false
def D.eqvs : List D → List D → Bool
  | [], [] => true
  | x :: xs, y :: ys => D.eqv x y && D.eqvs xs ys
  | _, _ => false
end
/-! nested at most n deep, without dicts and instances -/
mutual
def D.flat : Nat → D → Bool
  | _, .non | _, .bl _ | _, .int _ | _, .str _ => true
  | n + 1, .lst xs | n + 1, .tup xs => D.flats n xs
  | _, _ => false
def D.flats : Nat → List D → Bool
  | _, [] => true
  | n, x :: xs => D.flat n x && D.flats n xs
end
def D.deep : Nat := 40

/-! the same data -/
mutual
def D.same : D → D → Bool
  | .non, .non => true
  | .bl a, .bl b => a == b
  | .int i, .int j => i == j
  | .str x, .str y => x == y
  | .lst xs, .lst ys => D.sames xs ys
  | .tup xs, .tup ys => D.sames xs ys
  | .dic xs, .dic ys => D.samek xs ys
  | .ins c xs, .ins d ys => c == d && D.samef xs ys
  | .scr a, .scr b => a == b
  | _, _ => false
def D.sames : List D → List D → Bool
  | [], [] => true
  | x :: xs, y :: ys => D.same x y && D.sames xs ys
  | _, _ => false
def D.samek : List (D × D) → List (D × D) → Bool
  | [], [] => true
  | (a, x) :: xs, (b, y) :: ys => D.same a b && (D.same x y && D.samek xs ys)
  | _, _ => false
def D.samef : List (Str × D) → List (Str × D) → Bool
  | [], [] => true
  | (a, x) :: xs, (b, y) :: ys => a == b && (D.same x y && D.samef xs ys)
  | _, _ => false
end

def D.truth : D → Option Bool
  | .non => some false
  | .bl b => some b
  | .int i => some (i != 0)
  | .str s => some (s.length != 0)
  | .lst xs => some (!xs.isEmpty)
  | .tup xs => some (!xs.isEmpty)
  | _ => none

def op1 : Op1 → D → Option Vl
  | .neg, .int i => some (.d (.int (-i)))
  | .isN, .non => some (.d (.bl true))
  | .isN, _ => some (.d (.bl false))
  | .notN, .non => some (.d (.bl false))
  | .notN, _ => some (.d (.bl true))
  | _, _ => none

def mulOk (i j : Int) : Bool := decide (i.natAbs.log2 + j.natAbs.log2 < 1000000)
def divOk (j : Int) : Bool := decide (0 < j) && decide (j.natAbs.log2 < 9000)
def powOk (i j : Int) : Bool := decide (0 ≤ j) && (decide (j ≤ 1000000) && decide (i.natAbs < 2 ^ 64))
def bool2 (b : Bool) : Option Vl := some (.d (.bl b))
def strLt (x y : Str) : Bool := decide (x.cps.toList < y.cps.toList)
def inStr (x y : Str) : Bool := !(Builtin.Str.occurrences y x 0 y.length 1).isEmpty
def cmpI : Op2 → Int → Int → Option Bool
  | .lt, i, j => some (decide (i < j))
  | .le, i, j => some (decide (i ≤ j))
  | .gt, i, j => some (decide (j < i))
  | .ge, i, j => some (decide (j ≤ i))
  | _, _, _ => none
def cmpS : Op2 → Str → Str → Option Bool
  | .lt, i, j => some (strLt i j)
  | .le, i, j => some (!strLt j i)
  | .gt, i, j => some (strLt j i)
  | .ge, i, j => some (!strLt i j)
  | _, _, _ => none
def opII : Op2 → Int → Int → Option Vl
  | .add, i, j => some (.d (.int (i + j)))
  | .sub, i, j => some (.d (.int (i - j)))
  | .mul, i, j => if mulOk i j then some (.d (.int (i * j))) else none
  | .fdiv, i, j => if divOk j then some (.d (.int (i / j))) else none
  | .mod, i, j => if 0 < j then some (.d (.int (i % j))) else none
  | .pow, i, j => if powOk i j then some (.d (.int (i ^ j.toNat))) else none
  | .eq, i, j => bool2 (i == j)
  | .ne, i, j => bool2 (!(i == j))
  | o, i, j => (cmpI o i j).bind bool2
def op2 : Op2 → D → D → Option Vl
  | o, .int i, .int j => opII o i j
  | .add, .str x, .str y => if x.length + y.length ≤ sizeLine then some (.d (.str (x ++ y))) else none
  | .add, .lst xs, .lst ys => if xs.length + ys.length ≤ sizeLine then some (.new (.lst (xs ++ ys))) else none
  | .add, .tup xs, .tup ys => if !xs.isEmpty && decide (xs.length + ys.length ≤ sizeLine) then some (.d (.tup (xs ++ ys))) else none
  | .mul, .lst xs, .int k => if decide (-(2 ^ 63) ≤ k) && (decide (k < 2 ^ 63) && decide (xs.length * k.toNat ≤ sizeLine)) then some (.new (.lst (List.replicate k.toNat xs).flatten)) else none
  | .eq, x, y => if D.flat D.deep x && D.flat D.deep y then bool2 (D.eqv x y) else none
  | .ne, x, y => if D.flat D.deep x && D.flat D.deep y then bool2 (!D.eqv x y) else none
  | .inn, .str x, .str y => bool2 (inStr x y)
  | .nin, .str x, .str y => bool2 (!inStr x y)
  | .inn, x, .lst ys => if D.flat D.deep x && D.flats D.deep ys then bool2 (ys.any fun y => D.eqv y x) else none
  | .nin, x, .lst ys => if D.flat D.deep x && D.flats D.deep ys then bool2 (!ys.any fun y => D.eqv y x) else none
  | .inn, x, .tup ys => if D.flat 0 x && D.flats 0 ys then bool2 (ys.any fun y => D.eqv y x) else none
  | .nin, x, .tup ys => if D.flat 0 x && D.flats 0 ys then bool2 (!ys.any fun y => D.eqv y x) else none
  | o, .str x, .str y => (cmpS o x y).bind bool2
  | _, _, _ => none

/-- xs[i] -/
def ixD (xs : List D) (i : Int) : Option Vl := (atI xs i).map Vl.d
def idx : D → D → Option Vl
  | .lst xs, .int i => ixD xs i
  | .tup xs, .int i => ixD xs i
  | .scr ns, .int i => (atI ns i).map fun n => Vl.d (.int n)
  | .str z, .int i => (atI z.cps.toList i).map fun c => Vl.d (.str ⟨#[c]⟩)
  | _, _ => none
/-- xs[lo:hi] -/
def cutD {α : Type} (xs : List α) (lo hi : Option Int) : List α := (xs.drop (HT.sIx xs.length 0 lo)).take (HT.sIx xs.length xs.length hi - HT.sIx xs.length 0 lo)
def slice : D → Option Int → Option Int → Option Vl
  | .lst xs, lo, hi => some (.new (.lst (cutD xs lo hi)))
  | .tup xs, lo, hi => some (.d (.tup (cutD xs lo hi)))
  | .str z, lo, hi => some (.d (.str ⟨(cutD z.cps.toList lo hi).toArray⟩))
  | _, _, _ => none

/-- insertion into a sorted row -/
def insI (x : Int) : List Int → List Int
  | [] => [x]
  | y :: r => if x ≤ y then x :: y :: r else y :: insI x r
def isortI : List Int → List Int
  | [] => []
  | x :: r => insI x (isortI r)
def insS (x : Str) : List Str → List Str
  | [] => [x]
  | y :: r => if strLt y x then y :: insS x r else x :: y :: r
def isortS : List Str → List Str
  | [] => []
  | x :: r => insS x (isortS r)
def maxL : List Int → Int
  | [] => 0
  | x :: r => r.foldl (fun a b => if a < b then b else a) x
def minL : List Int → Int
  | [] => 0
  | x :: r => r.foldl (fun a b => if b < a then b else a) x

def bi : Bi → List D → Option Vl
  | .len, [.lst xs] => some (.d (.int xs.length))
  | .len, [.tup xs] => some (.d (.int xs.length))
  | .len, [.scr xs] => some (.d (.int xs.length))
  | .len, [.str z] => some (.d (.int z.length))
  | .tuple, [.lst xs] => some (.d (.tup xs))
  | .tuple, [.tup xs] => some (.d (.tup xs))
  | .list, [.lst xs] => some (.new (.lst xs))
  | .list, [.tup xs] => some (.new (.lst xs))
  | .sum, [.lst xs] => (D.ints? xs).map fun ns => .d (.int ns.sum)
  | .max, [.lst xs] => (D.ints? xs).bind fun ns => if ns.isEmpty then none else some (.d (.int (maxL ns)))
  | .min, [.lst xs] => (D.ints? xs).bind fun ns => if ns.isEmpty then none else some (.d (.int (minL ns)))
  | .max, [.int i, .int j] => some (.d (.int (if j > i then j else i)))
  | .min, [.int i, .int j] => some (.d (.int (if j < i then j else i)))
  | .abs, [.int i] => some (.d (.int (if i < 0 then -i else i)))
  | .sorted, [.lst []] => some (.new (.lst []))
  | .sorted, [.lst (.int i :: xs)] => (D.ints? xs).map fun ns => .new (.lst ((isortI (i :: ns)).map .int))
  | .sorted, [.lst (.str i :: xs)] => (D.strs? xs).map fun ns => .new (.lst ((isortS (i :: ns)).map .str))
  | .all, [.lst xs] => (D.bls? xs).map fun bs => .d (.bl (bs.all id))
  | .any, [.lst xs] => (D.bls? xs).map fun bs => .d (.bl (bs.any id))
  | .int, [.int i] => some (.d (.int i))
  | .int, [.bl b] => some (.d (.int (D.isTrueI b)))
  | _, _ => none

/-- methods that change a list: the list behind, the outcome -/
def bmM : Bm → List D → List D → Option (List D × D)
  | .append, xs, [y] => if xs.length < sizeLine then some (xs ++ [y], .non) else none
  | .extend, xs, [.lst ys] => if xs.length + ys.length ≤ sizeLine then some (xs ++ ys, .non) else none
  | .pop, xs, [] => (xs[xs.length - 1]?).map fun y => (xs.dropLast, y)
  | .pop, xs, [.int i] => if decide (-(2 ^ 63) ≤ i) && decide (i < 2 ^ 63) then (seqIndex? i xs.length).bind fun k => (xs[k]?).map fun y => (xs.eraseIdx k, y) else none
  | .reverse, xs, [] => some (xs.reverse, .non)
  | .insert, xs, [.int i, y] => if decide (xs.length < sizeLine) && (decide (0 ≤ i) && decide (i < 2 ^ 63)) then some (xs.take i.toNat ++ [y] ++ xs.drop i.toNat, .non) else none
  | _, _, _ => none
def Bm.mut : Bm → Bool
  | .append | .extend | .pop | .reverse | .insert => true
  | _ => false
def findD (y : D) (xs : List D) : Option Nat := xs.findIdx? fun x => D.eqv x y
def ixP : D → List D → Option Vl
  | .lst xs, [y] => if D.flat D.deep y && D.flats D.deep xs then (findD y xs).map fun (k : Nat) => Vl.d (.int (k : Int)) else none
  | _, _ => none
def cntP : D → List D → Option Vl
  | .lst xs, [y] => if D.flat D.deep y && D.flats D.deep xs then some (.d (.int ((xs.countP fun x => D.eqv x y : Nat) : Int))) else none
  | _, _ => none
def joinP : D → List D → Option Vl
  | .str a, [.lst xs] => (D.strs? xs).bind fun ys => if (ys.map (·.length)).sum + ys.length * a.length ≤ 16777216 then some (.d (.str (Str.join a ys))) else none
  | _, _ => none
def bmP : Bm → D → List D → Option Vl
  | .index => ixP
  | .count => cntP
  | .join => joinP
  | _ => fun _ _ => none

def Ty.has : Ty → D → Bool
  | .int, .int _ | .int, .bl _ | .bool, .bl _ | .str, .str _ | .list, .lst _ | .tuple, .tup _ | .dict, .dic _ => true
  | .cls c, .ins c' _ => c == c'
  | _, _ => false
def D.plainTy : D → Bool
  | .non | .bl _ | .int _ | .str _ | .lst _ | .tup _ | .dic _ => true
  | _ => false
def isi (ts : List Ty) (x : D) : Option Vl := if x.plainTy then some (.d (.bl (ts.any fun t => t.has x))) else none

/-! ### cells -/
def der (M : Mem) : Vl → Option D
  | .d x => some x
  | .new x => some x
  | .loc n => (M[n]?).map (·.d)
def frz : Vl → Vl
  | .new x => .d x
  | v => v
/-- as data: a cell is frozen -/
def toD (M : Mem) : Vl → Option (D × Mem)
  | .d x => some (x, M)
  | .new x => some (x, M)
  | .loc n => match M[n]? with
    | some c => some (c.d, M.set n ⟨false, c.d⟩)
    | none => none
def toDs : Mem → List Vl → Option (List D × Mem)
  | M, [] => some ([], M)
  | M, v :: r => (toD M v).bind fun p => (toDs p.2 r).map fun q => (p.1 :: q.1, q.2)
def ders (M : Mem) : List Vl → Option (List D)
  | [] => some []
  | v :: r => (der M v).bind fun x => (ders M r).map (x :: ·)
/-- a changing method upon a live cell -/
def mutate (m : Bm) (M : Mem) (o : Vl) (as : List D) : R Vl := match o with
  | .loc n => match M[n]? with
    | some ⟨true, .lst xs⟩ => match bmM m xs as with
      | some (ys, r) => .ok (.d r) (M.set n ⟨true, .lst ys⟩)
      | none => .no
    | _ => .no
  | _ => .no

/-! ### targets -/
mutual
def bindT : T → D → Vars → Option Vars
  | .n i, x, v => if i < v.length then some (v.set i (some (.d x))) else none
  | .t r, .tup xs, v => bindTs r xs v
  | _, _, _ => none
def bindTs : T → List D → Vars → Option Vars
  | .t0, [], v => some v
  | .tc a r, x :: xs, v => (bindT a x v).bind fun v1 => bindTs r xs v1
  | _, _, _ => none
end
end Pd

/-! Pd2: the evaluator. -/
namespace Pd
open PySem PySem.Spec PyProof.Rows L2

/-- live cells that are walked stay as they are -/
abbrev Gd := List (Nat × Cell)
def chk1 (M : Mem) (g : Nat × Cell) : Bool := match M[g.1]? with
  | some c => c.live && D.same g.2.d c.d
  | none => false
def chkG (g : Gd) (M : Mem) : Bool := g.all (chk1 M)
def chars (z : Str) : List D := z.cps.toList.map fun c => D.str ⟨#[c]⟩
/-- lists and tuples: is it a tuple, its items, what must stay -/
def seqOf (M : Mem) : Vl → Option (Bool × List D × Gd)
  | .d (.lst xs) | .new (.lst xs) => some (false, xs, [])
  | .d (.tup xs) => some (true, xs, [])
  | .loc n => match M[n]? with
    | some ⟨l, .lst xs⟩ => some (false, xs, if l then [(n, ⟨l, .lst xs⟩)] else [])
    | _ => none
  | _ => none
/-- the items of what is walked -/
def iterOf (M : Mem) : Vl → Option (List D × Gd)
  | .d (.str z) => some (chars z, [])
  | x => (seqOf M x).map (·.2)
def rangeD (lo hi : Int) : List D := (List.range (hi - lo).toNat).map fun (k : Nat) => D.int (lo + (k : Int))
def rngOk (lo hi : Int) : Bool := decide (-(2 ^ 62) ≤ lo) && (decide (lo < 2 ^ 62) && (decide (-(2 ^ 62) ≤ hi) && (decide (hi < 2 ^ 62) && decide ((hi - lo).toNat ≤ sizeLine))))
def enumFrom (k : Nat) : List D → List D
  | [] => []
  | x :: r => .tup [.int k, x] :: enumFrom (k + 1) r
def zipD : List D → List D → List D
  | x :: xs, y :: ys => .tup [x, y] :: zipD xs ys
  | _, _ => []

/-- what an expression does: as a value, as a row, as a row with cells, as a test, as what is walked -/
structure Den where
  v : Vars → Mem → R Vl
  a : Vars → Mem → R (List Vl)
  p : List Bool → Vars → Mem → R (List Vl)
  t : Vars → Mem → R Bool
  i : Vars → Mem → R (List D × Gd)
def Den.ofV (v : Vars → Mem → R Vl) : Den where
  v := v
  a := fun _ _ => .no
  p := fun _ _ _ => .no
  t := fun vs M => (v vs M).bind fun x M1 => R.lift ((der M1 x).bind D.truth) M1
  i := fun vs M => (v vs M).bind fun x M1 => R.lift (iterOf M1 (frz x)) M1
def Den.none : Den := ⟨fun _ _ => .no, fun _ _ => .no, fun _ _ _ => .no, fun _ _ => .no, fun _ _ => .no⟩

def asCell (M : Mem) : Vl → R Vl
  | .new x => .ok (.loc M.length) (M ++ [⟨true, x⟩])
  | _ => .no
def wipeV (v : Vars) : List Nat → Vars
  | [] => v
  | i :: r => (wipeV v r).set i none
/-- a comprehension's turns -/
def lcGo (t : T) (g : Gd) (c : Vars → Mem → R Bool) (e : Vars → Mem → R Vl) (vs : Vars) : List D → Mem → R (List D)
  | [], M => if chkG g M then .ok [] M else .no
  | x :: r, M => if chkG g M then (match bindT t x vs with
    | none => .no
    | some v1 => match c v1 M with
      | .ok true M1 => (match e v1 M1 with
        | .ok y M2 => (match toD M2 y with
          | some (yd, M3) => (match lcGo t g c e vs r M3 with
            | .ok ys M4 => .ok (yd :: ys) M4
            | _ => .no)
          | none => .no)
        | _ => .no)
      | .ok false M1 => lcGo t g c e vs r M1
      | _ => .no) else .no
def isTrueE : E → Bool
  | .nil => true
  | _ => false
def optI : R Vl → Bool → Mem → R (Option Int)
  | _, true, M => .ok Option.none M
  | r, false, _ => r.bind fun x M1 => match x with
    | .d (.int i) => .ok (some i) M1
    | _ => .no
def bmTy (m : Bm) : Option D → Bool
  | some (.lst _) => m != .join
  | some (.str _) => m == .join
  | _ => false
def asB : Vl → Option Bool
  | .d (.bl b) => some b
  | _ => none

def den (C : Nat → List Vl → Mem → R Vl) : E → Den
  | .nil => { Den.none with a := fun _ M => .ok [] M, p := fun cs _ M => match cs with
      | [] => .ok [] M
      | _ => .no }
  | .cons x r => { Den.none with
      a := fun vs M => ((den C x).v vs M).bind fun y M1 => ((den C r).a vs M1).bind fun ys M2 => .ok (frz y :: ys) M2
      p := fun cs vs M => match cs with
        | [] => .no
        | c :: cs => ((den C x).v vs M).bind fun y M1 => (if c then asCell M1 y else .ok (frz y) M1).bind fun z M2 => ((den C r).p cs vs M2).bind fun zs M3 => .ok (z :: zs) M3 }
  | .var i => .ofV fun vs M => match vs[i]? with
      | some (some x) => .ok x M
      | _ => .no
  | .k d => .ofV fun _ M => .ok (.d d) M
  | .g _ d => .ofV fun _ M => .ok (.d d) M
  | .op1 o a => .ofV fun vs M => ((den C a).v vs M).bind fun x M1 => R.lift ((der M1 x).bind (op1 o)) M1
  | .op2 o a b => .ofV fun vs M => ((den C a).v vs M).bind fun x M1 => ((den C b).v vs M1).bind fun y M2 => R.lift ((der M2 x).bind fun x => (der M2 y).bind fun y => op2 o x y) M2
  | .chain o p a b c => .ofV fun vs M => ((den C a).v vs M).bind fun x M1 => ((den C b).v vs M1).bind fun y M2 =>
      match (der M2 x).bind fun x => (der M2 y).bind fun y => (op2 o x y).bind asB with
      | some true => ((den C c).v vs M2).bind fun z M3 => R.lift ((der M3 y).bind fun y => (der M3 z).bind fun z => op2 p y z) M3
      | some false => .ok (.d (.bl false)) M2
      | none => .no
  | .and a b => { Den.ofV (fun vs M => ((den C a).v vs M).bind fun x M1 => match asB x with
        | some true => (den C b).v vs M1
        | some false => .ok (.d (.bl false)) M1
        | none => .no) with
      t := fun vs M => ((den C a).t vs M).bind fun x M1 => if x then (den C b).t vs M1 else .ok false M1 }
  | .or a b => { Den.ofV (fun vs M => ((den C a).v vs M).bind fun x M1 => match asB x with
        | some false => (den C b).v vs M1
        | some true => .ok (.d (.bl true)) M1
        | none => .no) with
      t := fun vs M => ((den C a).t vs M).bind fun x M1 => if x then .ok true M1 else (den C b).t vs M1 }
  | .not a => { Den.ofV (fun vs M => ((den C a).v vs M).bind fun x M1 => match (der M1 x).bind D.truth with
        | some b => .ok (.d (.bl (!b))) M1
        | none => .no) with
      t := fun vs M => ((den C a).t vs M).bind fun x M1 => .ok (!x) M1 }
  | .ife c a b => .ofV fun vs M => ((den C c).t vs M).bind fun x M1 => if x then (den C a).v vs M1 else (den C b).v vs M1
  | .tup as => .ofV fun vs M => ((den C as).a vs M).bind fun xs M1 => match toDs M1 xs with
      | some (ds, M2) => if ds.length ≤ 1000 then .ok (.d (.tup ds)) M2 else .no
      | none => .no
  | .lst as => .ofV fun vs M => ((den C as).a vs M).bind fun xs M1 => match toDs M1 xs with
      | some (ds, M2) => if ds.length ≤ 1000 then .ok (.new (.lst ds)) M2 else .no
      | none => .no
  | .idx a i => .ofV fun vs M => ((den C a).v vs M).bind fun x M1 => ((den C i).v vs M1).bind fun y M2 => R.lift ((der M2 x).bind fun x => (der M2 y).bind fun y => idx x y) M2
  | .sl a lo hi => .ofV fun vs M => ((den C a).v vs M).bind fun x M1 => (optI ((den C lo).v vs M1) (isTrueE lo) M1).bind fun l M2 => (optI ((den C hi).v vs M2) (isTrueE hi) M2).bind fun u M3 =>
      R.lift ((der M3 x).bind fun x => slice x l u) M3
  | .bi b as => .ofV fun vs M => ((den C as).a vs M).bind fun xs M1 => R.lift ((ders M1 xs).bind fun ds => bi b ds) M1
  | .bm m o as => .ofV fun vs M => ((den C o).v vs M).bind fun x M1 => if bmTy m (der M1 x) then (((den C as).a vs M1).bind fun xs M2 =>
      if m.mut then (match toDs M2 xs with
        | some (ds, M3) => mutate m M3 (frz x) ds
        | none => .no)
      else R.lift ((der M2 x).bind fun x => (ders M2 xs).bind fun ds => bmP m x ds) M2) else .no
  | .call f as => .ofV fun vs M => ((den C as).a vs M).bind fun xs M1 => C f xs M1
  | .isi ts a => .ofV fun vs M => ((den C a).v vs M).bind fun x M1 => R.lift ((der M1 x).bind (isi ts)) M1
  | .rng lo hi => { Den.none with i := fun vs M => ((den C lo).v vs M).bind fun x M1 => ((den C hi).v vs M1).bind fun y M2 => match x, y with
      | .d (.int l), .d (.int h) => if rngOk l h then .ok (rangeD l h, []) M2 else .no
      | _, _ => .no }
  | .enum a => { Den.none with i := fun vs M => ((den C a).v vs M).bind fun x M1 => R.lift ((seqOf M1 (frz x)).map fun p => (enumFrom 0 p.2.1, p.2.2)) M1 }
  | .zip a b => { Den.none with i := fun vs M => ((den C a).v vs M).bind fun x M1 => ((den C b).v vs M1).bind fun y M2 => R.lift ((seqOf M2 (frz x)).bind fun p => (seqOf M2 (frz y)).bind fun q => if p.1 == q.1 then some (zipD p.2.1 q.2.1, p.2.2 ++ q.2.2) else none) M2 }
  | .lc own t it c e => .ofV fun vs M => ((den C it).i vs M).bind fun xs M1 =>
      match lcGo t xs.2 (if isTrueE c then fun _ M => .ok true M else (den C c).t) (den C e).v (wipeV vs own) xs.1 M1 with
      | .ok ys M2 => .ok (.new (.lst ys)) M2
      | _ => .no

/-! ### statements -/
def setAll (v : Vars) : List Nat → List Vl → Option Vars
  | [], [] => some v
  | i :: is, x :: xs => if i < v.length then setAll (v.set i (some x)) is xs else none
  | _, _ => none
def forGo (t : T) (g : Gd) (b : Vars → Mem → RS) : List D → Vars → Mem → RS
  | [], v, M => if chkG g M then .nx v M else .no
  | x :: r, v, M => if chkG g M then (match bindT t x v with
    | none => .no
    | some v1 => match b v1 M with
      | .nx v2 M2 => forGo t g b r v2 M2
      | .cnt v2 M2 => forGo t g b r v2 M2
      | .brk v2 M2 => .nx v2 M2
      | o => o) else .no
def whGo (c : Vars → Mem → R Bool) (b : Vars → Mem → RS) : Nat → Vars → Mem → RS
  | 0, _, _ => .no
  | n + 1, v, M => (c v M).thenS v fun x M1 => if x then (match b v M1 with
      | .nx v2 M2 => whGo c b n v2 M2
      | .cnt v2 M2 => whGo c b n v2 M2
      | .brk v2 M2 => .nx v2 M2
      | o => o) else .nx v M1
def setIx (M : Mem) (o : Vl) (i y : D) : Option Mem := match o, i with
  | .loc n, .int k => match M[n]? with
    | some ⟨true, .lst xs⟩ => (ixN xs.length k).bind fun j => if j < xs.length then some (M.set n ⟨true, .lst (xs.set j y)⟩) else none
    | _ => none
  | _, _ => none
def augOk : Op2 → D → D → Bool
  | .add, .int _, .int _ | .sub, .int _, .int _ | .mul, .int _, .int _ => true
  | _, _, _ => false
structure Sm where
  C : Nat → List Vl → Mem → R Vl
  W : Nat
  X : Nat → List Str
def exFields : List Str → List D → Option (List (Str × D))
  | [], [] => some []
  | f :: fs, x :: xs => (exFields fs xs).map ((f, x) :: ·)
  | _, _ => none
def evS (Z : Sm) : S → Vars → Mem → RS
  | .skip, v, M => .nx v M
  | .seq a b, v, M => (evS Z a v M).andThen fun v M => evS Z b v M
  | .set t e, v, M => ((den Z.C e).v v M).thenS v fun x M1 => match t with
      | .n i => if i < v.length then .nx (v.set i (some (frz x))) M1 else .no
      | t => match frz x with
        | .d x => (match bindT t x v with
          | some v1 => .nx v1 M1
          | none => .no)
        | _ => .no
  | .cell i e, v, M => ((den Z.C e).v v M).thenS v fun x M1 => match asCell M1 x with
      | .ok y M2 => if i < v.length then .nx (v.set i (some y)) M2 else .no
      | _ => .no
  | .par is cs es, v, M => ((den Z.C es).p cs v M).thenS v fun xs M1 => match setAll v is xs with
      | some v1 => .nx v1 M1
      | none => .no
  | .setix o i e, v, M => ((den Z.C e).v v M).thenS v fun y M1 => match toD M1 y with
      | some (yd, M2) => ((den Z.C o).v v M2).thenS v fun x M3 => ((den Z.C i).v v M3).thenS v fun k M4 => match k with
        | .d kd => (match setIx M4 x kd yd with
          | some M5 => .nx v M5
          | none => .no)
        | _ => .no
      | none => .no
  | .aug i o e, v, M => match v[i]? with
      | some (some (.d x)) => ((den Z.C e).v v M).thenS v fun y M1 => match y with
        | .d y => if augOk o x y then (match op2 o x y with
          | some z => .nx (v.set i (some z)) M1
          | none => .no) else .no
        | _ => .no
      | _ => .no
  | .ex e, v, M => ((den Z.C e).v v M).thenS v fun _ M1 => .nx v M1
  | .ret e, v, M => ((den Z.C e).v v M).thenS v fun x M1 => .ret x M1
  | .retn, _, M => .ret (.d .non) M
  | .ite c a b, v, M => ((den Z.C c).t v M).thenS v fun x M1 => if x then evS Z a v M1 else evS Z b v M1
  | .for t it b, v, M => ((den Z.C it).i v M).thenS v fun xs M1 => forGo t xs.2 (evS Z b) xs.1 v M1
  | .whil c b, v, M => whGo (den Z.C c).t (evS Z b) Z.W v M
  | .raise c as, v, M => ((den Z.C as).a v M).thenS v fun xs M1 => match toDs M1 xs with
      | some (ds, M2) => (match exFields (Z.X c) ds with
        | some fs => .exc c fs v M2
        | none => .no)
      | none => .no
  | .brk, v, M => .brk v M
  | .cnt, v, M => .cnt v M
  | .nev, _, _ => .no

/-! ### defs -/
structure Fn where
  np : Nat
  dfl : List D
  ns : Nat
  body : S
structure Pg where
  fns : List Fn
  exs : List (List Str)
  W : Nat
def Pg.X (P : Pg) (c : Nat) : List Str := P.exs.getD c []
def finish (base : Nat) : RS → R Vl
  | .nx _ M => .ok (.d .non) (M.take base)
  | .ret (.loc n) M => if n < base then .ok (.loc n) (M.take base) else match M[n]? with
    | some c => .ok (if c.live then .new c.d else .d c.d) (M.take base)
    | none => .no
  | .ret x M => .ok x (M.take base)
  | .exc c fs _ M => .exc c fs (M.take base)
  | _ => .no
def startV (f : Fn) (as : List Vl) : Vars := (as ++ (f.dfl.drop (as.length + f.dfl.length - f.np)).map Vl.d).map some ++ List.replicate (f.ns - f.np) none
def Fn.fits (f : Fn) (as : List Vl) : Bool := decide (as.length ≤ f.np) && decide (f.np ≤ as.length + f.dfl.length)
def evF (P : Pg) : Nat → Nat → List Vl → Mem → R Vl
  | 0, _, _, _ => .no
  | n + 1, f, as, M => match P.fns[f]? with
    | none => .no
    | some fn => if fn.fits as then finish M.length (evS ⟨evF P n, P.W, P.X⟩ fn.body (startV fn as) M) else .no
end Pd

/-! Pd3: how plain data lies in the abstract heap. -/
namespace Pd
open PySem PySem.Spec L2

def okS (s : Str) : Bool := PyData.strOk s && decide (s.length ≤ sizeLine)
/-- the written part and the classes' places -/
structure Wr where
  K : PySem.W.Frag
  ca : Nat → Addr

def Fle (F F' : Hp) : Prop := ∀ a o, F a = some o → F' a = some o
theorem Fle.refl {F : Hp} : Fle F F := fun _ _ h => h
theorem Fle.trans {F F' F'' : Hp} (h : Fle F F') (h' : Fle F' F'') : Fle F F'' := fun a o q => h' a o (h a o q)
theorem Fle.upd {F : Hp} {a : Addr} {o : HO} (h : F a = none) : Fle F (upd F a o) := fun b u q => by
  rw [upd_ne (ne_of_none q h)]
  exact q
theorem SqT.le {K : PySem.W.Frag} {F F' : Hp} {a : Addr} {vs : List V} (l : Fle F F') (h : SqT K F a vs) : SqT K F' a vs := by
  rcases h with (h | ⟨o, h⟩) | h
  · exact .inl (.inl (l _ _ h))
  · exact .inl (.inr ⟨o, l _ _ h⟩)
  · exact .inr h
theorem SqL.le {K : PySem.W.Frag} {F F' : Hp} {a : Addr} {vs : List V} (l : Fle F F') (h : SqL K F a vs) : SqL K F' a vs := by
  rcases h with (h | ⟨o, h⟩) | h
  · exact .inl (.inl (l _ _ h))
  · exact .inl (.inr ⟨o, l _ _ h⟩)
  · exact .inr h

section
variable (w : Wr)
mutual
def DR (F : Hp) : D → V → Prop
  | .non, v => v = .non
  | .bl b, v => v = .bl b
  | .int i, v => v = .int i
  | .str s, v => v = .str s ∧ okS s = true
  | .tup xs, v => ∃ a vs, v = .ref a ∧ SqT w.K F a vs ∧ xs.length ≤ sizeLine ∧ DRs F xs vs
  | .lst xs, v => ∃ a vs, v = .ref a ∧ F a = some (.lst vs) ∧ xs.length ≤ sizeLine ∧ DRs F xs vs
  | .dic _, _ => False
  | .ins c fs, v => ∃ a dx gs, v = .ref a ∧ F a = some (.ins (w.ca c) dx gs) ∧ DRf F fs gs
  | .scr ns, v => ∃ a, v = .ref a ∧ SqL w.K F a (ns.map V.int)
def DRs (F : Hp) : List D → List V → Prop
  | [], vs => vs = []
  | x :: xs, vs => ∃ v r, vs = v :: r ∧ DR F x v ∧ DRs F xs r
def DRf (F : Hp) : List (Str × D) → List (Str × V) → Prop
  | [], gs => gs = []
  | (f, x) :: fs, gs => ∃ v r, gs = (f, v) :: r ∧ DR F x v ∧ DRf F fs r
end
/-- an object's own content -/
def OR (F : Hp) : D → HO → Prop
  | .lst xs, o => ∃ vs, o = .lst vs ∧ xs.length ≤ sizeLine ∧ DRs w F xs vs
  | .ins c fs, o => ∃ dx gs, o = .ins (w.ca c) dx gs ∧ DRf w F fs gs
  | _, _ => False
/-- what may be read of data at a value, the topmost object as it stands -/
def Top (F H : Hp) : D → V → Prop
  | .lst xs, v => ∃ a vs, v = .ref a ∧ H a = some (.lst vs) ∧ xs.length ≤ sizeLine ∧ DRs w F xs vs
  | .ins c fs, v => ∃ a dx gs, v = .ref a ∧ H a = some (.ins (w.ca c) dx gs) ∧ DRf w F fs gs
  | d, v => DR w F d v

mutual
theorem DR.le {F F' : Hp} (l : Fle F F') : ∀ {x : D} {v : V}, DR w F x v → DR w F' x v
  | .non, _, h => by simp only [DR] at h ⊢; exact h
  | .bl _, _, h => by simp only [DR] at h ⊢; exact h
  | .int _, _, h => by simp only [DR] at h ⊢; exact h
  | .str _, _, h => by simp only [DR] at h ⊢; exact h
  | .tup xs, _, h => by
    simp only [DR] at h ⊢
    obtain ⟨a, vs, e, s, z, r⟩ := h
    exact ⟨a, vs, e, SqT.le l s, z, DRs.le l r⟩
  | .lst xs, _, h => by
    simp only [DR] at h ⊢
    obtain ⟨a, vs, e, s, z, r⟩ := h
    exact ⟨a, vs, e, l _ _ s, z, DRs.le l r⟩
  | .dic _, _, h => by simp only [DR] at h
  | .ins c fs, _, h => by
    simp only [DR] at h ⊢
    obtain ⟨a, dx, gs, e, s, r⟩ := h
    exact ⟨a, dx, gs, e, l _ _ s, DRf.le l r⟩
  | .scr ns, _, h => by
    simp only [DR] at h ⊢
    obtain ⟨a, e, s⟩ := h
    exact ⟨a, e, SqL.le l s⟩
theorem DRs.le {F F' : Hp} (l : Fle F F') : ∀ {xs : List D} {vs : List V}, DRs w F xs vs → DRs w F' xs vs
  | [], _, h => by simp only [DRs] at h ⊢; exact h
  | x :: xs, _, h => by
    simp only [DRs] at h ⊢
    obtain ⟨v, r, e, h1, h2⟩ := h
    exact ⟨v, r, e, DR.le l h1, DRs.le l h2⟩
theorem DRf.le {F F' : Hp} (l : Fle F F') : ∀ {xs : List (Str × D)} {vs : List (Str × V)}, DRf w F xs vs → DRf w F' xs vs
  | [], _, h => by simp only [DRf] at h ⊢; exact h
  | (f, x) :: xs, _, h => by
    simp only [DRf] at h ⊢
    obtain ⟨v, r, e, h1, h2⟩ := h
    exact ⟨v, r, e, DR.le l h1, DRf.le l h2⟩
end
theorem OR.le {F F' : Hp} (l : Fle F F') {x : D} {o : HO} (h : OR w F x o) : OR w F' x o := by
  cases x with
  | lst xs =>
    obtain ⟨vs, e, z, r⟩ := h
    exact ⟨vs, e, z, r.le w l⟩
  | ins c fs =>
    obtain ⟨dx, gs, e, r⟩ := h
    exact ⟨dx, gs, e, r.le w l⟩
  | _ => exact h.elim
theorem DRs.length {F : Hp} : ∀ {xs : List D} {vs : List V}, DRs w F xs vs → xs.length = vs.length
  | [], _, h => by simp only [DRs] at h; subst h; rfl
  | x :: xs, _, h => by
    simp only [DRs] at h
    obtain ⟨v, r, e, _, h2⟩ := h
    subst e
    simp [DRs.length h2]
theorem DRs.nil {F : Hp} : DRs w F [] [] := by simp only [DRs]
theorem DRs.cons {F : Hp} {x : D} {v : V} {xs : List D} {vs : List V} (h : DR w F x v) (r : DRs w F xs vs) : DRs w F (x :: xs) (v :: vs) := by
  simp only [DRs]
  exact ⟨v, vs, rfl, h, r⟩
theorem DRs.app {F : Hp} : ∀ {xs : List D} {vs : List V} {ys : List D} {us : List V}, DRs w F xs vs → DRs w F ys us → DRs w F (xs ++ ys) (vs ++ us)
  | [], _, _, _, h, k => by simp only [DRs] at h; subst h; exact k
  | x :: xs, _, _, _, h, k => by
    simp only [DRs] at h
    obtain ⟨v, r, e, h1, h2⟩ := h
    subst e
    exact DRs.cons w h1 (DRs.app h2 k)
theorem DRs.get {F : Hp} : ∀ {xs : List D} {vs : List V} {i : Nat} {x : D}, DRs w F xs vs → xs[i]? = some x → ∃ v, vs[i]? = some v ∧ DR w F x v
  | [], _, i, _, _, e => by simp at e
  | x :: xs, _, 0, _, h, e => by
    simp only [DRs] at h
    obtain ⟨v, r, q, h1, _⟩ := h
    subst q
    simp at e
    subst e
    exact ⟨v, rfl, h1⟩
  | x :: xs, _, i + 1, y, h, e => by
    simp only [DRs] at h
    obtain ⟨v, r, q, _, h2⟩ := h
    subst q
    obtain ⟨u, e1, e2⟩ := DRs.get (i := i) h2 (by simpa using e)
    exact ⟨u, by simpa using e1, e2⟩
theorem DRs.take {F : Hp} : ∀ {xs : List D} {vs : List V} (n : Nat), DRs w F xs vs → DRs w F (xs.take n) (vs.take n)
  | [], _, _, h => by simp only [DRs] at h; subst h; simp only [List.take_nil]; exact DRs.nil w
  | _ :: _, _, 0, _ => by simp only [List.take_zero]; exact DRs.nil w
  | x :: xs, _, n + 1, h => by
    simp only [DRs] at h
    obtain ⟨v, r, q, h1, h2⟩ := h
    subst q
    exact DRs.cons w h1 (DRs.take n h2)
theorem DRs.drop {F : Hp} : ∀ {xs : List D} {vs : List V} (n : Nat), DRs w F xs vs → DRs w F (xs.drop n) (vs.drop n)
  | [], _, _, h => by simp only [DRs] at h; subst h; simp only [List.drop_nil]; exact DRs.nil w
  | _ :: _, _, 0, h => h
  | x :: xs, _, n + 1, h => by
    simp only [DRs] at h
    obtain ⟨v, r, q, h1, h2⟩ := h
    subst q
    exact DRs.drop n h2
theorem DRs.set {F : Hp} {y : D} {u : V} (hy : DR w F y u) : ∀ {xs : List D} {vs : List V} (n : Nat), DRs w F xs vs → DRs w F (xs.set n y) (vs.set n u)
  | [], _, _, h => by simp only [DRs] at h; subst h; simp only [List.set_nil]; exact DRs.nil w
  | x :: xs, _, 0, h => by
    simp only [DRs] at h
    obtain ⟨v, r, q, h1, h2⟩ := h
    subst q
    exact DRs.cons w hy h2
  | x :: xs, _, n + 1, h => by
    simp only [DRs] at h
    obtain ⟨v, r, q, h1, h2⟩ := h
    subst q
    exact DRs.cons w h1 (DRs.set hy n h2)
theorem DRs.erase {F : Hp} : ∀ {xs : List D} {vs : List V} (n : Nat), DRs w F xs vs → DRs w F (xs.eraseIdx n) (vs.eraseIdx n)
  | [], _, _, h => by simp only [DRs] at h; subst h; simp only [List.eraseIdx_nil]; exact DRs.nil w
  | x :: xs, _, 0, h => by
    simp only [DRs] at h
    obtain ⟨v, r, q, h1, h2⟩ := h
    subst q
    exact h2
  | x :: xs, _, n + 1, h => by
    simp only [DRs] at h
    obtain ⟨v, r, q, h1, h2⟩ := h
    subst q
    exact DRs.cons w h1 (DRs.erase n h2)
theorem DRs.rev {F : Hp} : ∀ {xs : List D} {vs : List V}, DRs w F xs vs → DRs w F xs.reverse vs.reverse
  | [], _, h => by simp only [DRs] at h; subst h; exact DRs.nil w
  | x :: xs, _, h => by
    simp only [DRs] at h
    obtain ⟨v, r, q, h1, h2⟩ := h
    subst q
    rw [List.reverse_cons, List.reverse_cons]
    exact DRs.app w (DRs.rev h2) (DRs.cons w h1 (DRs.nil w))
theorem DRs.rep {F : Hp} {xs : List D} {vs : List V} (h : DRs w F xs vs) : ∀ k : Nat, DRs w F (List.replicate k xs).flatten (List.replicate k vs).flatten
  | 0 => DRs.nil w
  | k + 1 => by
    rw [List.replicate_succ, List.replicate_succ, List.flatten_cons, List.flatten_cons]
    exact DRs.app w h (DRs.rep h k)
theorem DRs.ints {F : Hp} : ∀ {xs : List D} {vs : List V} {ns : List Int}, DRs w F xs vs → D.ints? xs = some ns → vs = ns.map V.int
  | [], _, _, h, e => by
    simp only [DRs] at h
    simp only [D.ints?] at e
    cases e
    exact h
  | x :: xs, _, ns, h, e => by
    simp only [DRs] at h
    obtain ⟨v, r, q, h1, h2⟩ := h
    subst q
    cases x with
    | int i =>
      simp only [D.ints?, Option.map_eq_some_iff] at e
      obtain ⟨ms, e1, e2⟩ := e
      subst e2
      simp only [DR] at h1
      rw [h1, DRs.ints h2 e1]
      rfl
    | _ => simp [D.ints?] at e
theorem DRs.strs {F : Hp} : ∀ {xs : List D} {vs : List V} {ns : List Str}, DRs w F xs vs → D.strs? xs = some ns → vs = ns.map V.str ∧ ∀ s ∈ ns, okS s = true
  | [], _, _, h, e => by
    simp only [DRs] at h
    simp only [D.strs?] at e
    cases e
    exact ⟨h, by simp⟩
  | x :: xs, _, ns, h, e => by
    simp only [DRs] at h
    obtain ⟨v, r, q, h1, h2⟩ := h
    subst q
    cases x with
    | str i =>
      simp only [D.strs?, Option.map_eq_some_iff] at e
      obtain ⟨ms, e1, e2⟩ := e
      subst e2
      simp only [DR] at h1
      obtain ⟨k1, k2⟩ := DRs.strs h2 e1
      rw [h1.1, k1]
      refine ⟨rfl, fun s hs => ?_⟩
      rcases List.mem_cons.mp hs with z | z
      · rw [z]
        exact h1.2
      · exact k2 s z
    | _ => simp [D.strs?] at e
theorem DRs.bls {F : Hp} : ∀ {xs : List D} {vs : List V} {ns : List Bool}, DRs w F xs vs → D.bls? xs = some ns → vs = ns.map V.bl
  | [], _, _, h, e => by
    simp only [DRs] at h
    simp only [D.bls?] at e
    cases e
    exact h
  | x :: xs, _, ns, h, e => by
    simp only [DRs] at h
    obtain ⟨v, r, q, h1, h2⟩ := h
    subst q
    cases x with
    | bl i =>
      simp only [D.bls?, Option.map_eq_some_iff] at e
      obtain ⟨ms, e1, e2⟩ := e
      subst e2
      simp only [DR] at h1
      rw [h1, DRs.bls h2 e1]
      rfl
    | _ => simp [D.bls?] at e
theorem DRs.ofInts {F : Hp} : ∀ ns : List Int, DRs w F (ns.map .int) (ns.map .int)
  | [] => DRs.nil w
  | n :: r => DRs.cons w (by simp only [DR]) (DRs.ofInts r)
theorem DRs.ofStrs {F : Hp} : ∀ ns : List Str, (∀ s ∈ ns, okS s = true) → DRs w F (ns.map .str) (ns.map .str)
  | [], _ => DRs.nil w
  | n :: r, h => DRs.cons w (by simp only [DR]; exact ⟨trivial, h n List.mem_cons_self⟩) (DRs.ofStrs r fun s hs => h s (List.mem_cons_of_mem _ hs))

/-! ### the ghost state -/
abbrev Sub (F H : Hp) : Prop := Fle F H
def CellR (F G H : Hp) (a : Addr) (c : Cell) : Prop :=
  (c.live = true → F a = none ∧ G a = none ∧ ∃ o, H a = some o ∧ OR w F c.d o) ∧ (c.live = false → (∃ o, F a = some o) ∧ DR w F c.d (.ref a))
structure GR (F G H : Hp) (μ : List Addr) (M : Mem) : Prop where
  sub : Fle F H
  gsub : Fle G H
  disj : ∀ a o, G a = some o → F a = none
  len : μ.length = M.length
  nd : μ.Nodup
  cell : ∀ (n : Nat) (c : Cell), M[n]? = some c → ∃ a, μ[n]? = some a ∧ CellR w F G H a c
/-- a slot's, an outcome's content -/
def VR (F : Hp) (μ : List Addr) : Vl → V → Prop
  | .d x, v => DR w F x v
  | .loc n, v => ∃ a, μ[n]? = some a ∧ v = .ref a
  | .new _, _ => False
def RR (F G : Hp) (μ : List Addr) (H : Hp) : Vl → V → Prop
  | .new x, v => ∃ a o, v = .ref a ∧ F a = none ∧ G a = none ∧ a ∉ μ ∧ H a = some o ∧ OR w F x o
  | .d x, v => DR w F x v
  | .loc n, v => ∃ a, μ[n]? = some a ∧ v = .ref a
structure SR (F : Hp) (μ : List Addr) (vs : Vars) (σ : St) : Prop where
  len : vs.length = σ.length
  at_ : ∀ (i : Nat) (x : Vl), vs[i]? = some (some x) → ∃ v, σ[i]? = some (some v) ∧ VR w F μ x v

variable {w}
theorem VR.le {F F' : Hp} {μ : List Addr} (l : Fle F F') {x : Vl} {v : V} (h : VR w F μ x v) : VR w F' μ x v := by
  cases x with
  | d x => exact DR.le w l h
  | loc n => exact h
  | new x => exact h
theorem VR.ext {F : Hp} {μ : List Addr} {ν : List Addr} {x : Vl} {v : V} (h : VR w F μ x v) : VR w F (μ ++ ν) x v := by
  cases x with
  | d x => exact h
  | loc n =>
    obtain ⟨a, e, q⟩ := h
    exact ⟨a, by rw [List.getElem?_append_left]; exact e; exact (List.getElem?_eq_some_iff.mp e).1, q⟩
  | new x => exact h
theorem SR.le {F F' : Hp} {μ : List Addr} {vs : Vars} {σ : St} (l : Fle F F') (h : SR w F μ vs σ) : SR w F' μ vs σ := ⟨h.len, fun i x e => by
  obtain ⟨v, e1, r⟩ := h.at_ i x e
  exact ⟨v, e1, r.le l⟩⟩
theorem SR.ext {F : Hp} {μ ν : List Addr} {vs : Vars} {σ : St} (h : SR w F μ vs σ) : SR w F (μ ++ ν) vs σ := ⟨h.len, fun i x e => by
  obtain ⟨v, e1, r⟩ := h.at_ i x e
  exact ⟨v, e1, r.ext⟩⟩
theorem SR.set {F : Hp} {μ : List Addr} {vs : Vars} {σ : St} {i : Nat} {x : Vl} {v : V} (h : SR w F μ vs σ) (hx : VR w F μ x v) : SR w F μ (vs.set i (some x)) (σ.set i (some v)) := by
  refine ⟨by rw [List.length_set, List.length_set]; exact h.len, fun j y e => ?_⟩
  by_cases hj : i = j
  · subst hj
    by_cases hl : i < vs.length
    · rw [List.getElem?_set_self hl] at e
      cases e
      exact ⟨v, by rw [List.getElem?_set_self (by rw [← h.len]; exact hl)], hx⟩
    · rw [List.getElem?_eq_none (by rw [List.length_set]; omega)] at e
      cases e
  · rw [List.getElem?_set_ne hj] at e ⊢
    exact h.at_ j y e
theorem SR.unset {F : Hp} {μ : List Addr} {vs : Vars} {σ : St} {i : Nat} (h : SR w F μ vs σ) : SR w F μ (vs.set i none) (σ.set i none) := by
  refine ⟨by rw [List.length_set, List.length_set]; exact h.len, fun j y e => ?_⟩
  by_cases hj : i = j
  · subst hj
    by_cases hl : i < vs.length
    · rw [List.getElem?_set_self hl] at e
      cases e
    · rw [List.getElem?_eq_none (by rw [List.length_set]; omega)] at e
      cases e
  · rw [List.getElem?_set_ne hj] at e ⊢
    exact h.at_ j y e

theorem nodup_ix : ∀ {l : List Addr} {i j : Nat} {a : Addr}, l.Nodup → l[i]? = some a → l[j]? = some a → i = j
  | [], i, _, _, _, e, _ => by simp at e
  | x :: r, 0, 0, _, _, _, _ => rfl
  | x :: r, 0, j + 1, a, nd, e, e' => by
    simp at e e'
    subst e
    exact absurd (List.mem_of_getElem? e') (List.nodup_cons.mp nd).1
  | x :: r, i + 1, 0, a, nd, e, e' => by
    simp at e e'
    subst e'
    exact absurd (List.mem_of_getElem? e) (List.nodup_cons.mp nd).1
  | x :: r, i + 1, j + 1, a, nd, e, e' => by
    simp at e e'
    rw [nodup_ix (List.nodup_cons.mp nd).2 e e']
theorem CellR.dead {F G H : Hp} {a : Addr} {x : D} (h : ∃ o, F a = some o) (r : DR w F x (.ref a)) : CellR w F G H a ⟨false, x⟩ := ⟨fun z => Bool.noConfusion z, fun _ => ⟨h, r⟩⟩
theorem CellR.alive {F G H : Hp} {a : Addr} {x : D} {o : HO} (f : F a = none) (k : G a = none) (ho : H a = some o) (r : OR w F x o) : CellR w F G H a ⟨true, x⟩ := ⟨fun _ => ⟨f, k, o, ho, r⟩, fun z => Bool.noConfusion z⟩
/-- the heap grows by an object that nobody speaks of -/
theorem GR.grow {F G H : Hp} {μ : List Addr} {M : Mem} (g : GR w F G H μ M) {p : Addr} {o : HO} (hp : H p = none) : GR w F G (upd H p o) μ M := by
  refine ⟨fun a u e => ?_, fun a u e => ?_, g.disj, g.len, g.nd, fun n c e => ?_⟩
  · rw [upd_ne (ne_of_none (g.sub _ _ e) hp)]
    exact g.sub _ _ e
  · rw [upd_ne (ne_of_none (g.gsub _ _ e) hp)]
    exact g.gsub _ _ e
  · obtain ⟨a, e1, h1, h2⟩ := g.cell n c e
    refine ⟨a, e1, fun hl => ?_, h2⟩
    obtain ⟨f, k, u, hu, r⟩ := h1 hl
    exact ⟨f, k, u, by rw [upd_ne (ne_of_none hu hp)]; exact hu, r⟩
theorem GR.cellAt {F G H : Hp} {μ : List Addr} {M : Mem} (g : GR w F G H μ M) {n : Nat} {a : Addr} (e : μ[n]? = some a) : ∃ o, H a = some o := by
  have hn : n < M.length := by
    rw [← g.len]
    exact (List.getElem?_eq_some_iff.mp e).1
  obtain ⟨b, e1, h1, h2⟩ := g.cell n M[n] (List.getElem?_eq_getElem hn)
  rw [e] at e1
  cases e1
  cases hc : M[n].live with
  | true =>
    obtain ⟨_, _, o, ho, _⟩ := h1 hc
    exact ⟨o, ho⟩
  | false =>
    obtain ⟨⟨o, ho⟩, _⟩ := h2 hc
    exact ⟨o, g.sub _ _ ho⟩
theorem GR.away {F G H : Hp} {μ : List Addr} {M : Mem} (g : GR w F G H μ M) {p : Addr} (hp : H p = none) : F p = none ∧ G p = none ∧ p ∉ μ := by
  refine ⟨?_, ?_, fun hm => ?_⟩
  · cases e : F p with
    | none => rfl
    | some o => rw [g.sub _ _ e] at hp; cases hp
  · cases e : G p with
    | none => rfl
    | some o => rw [g.gsub _ _ e] at hp; cases hp
  · obtain ⟨n, hn, e⟩ := List.getElem_of_mem hm
    obtain ⟨o, ho⟩ := g.cellAt (n := n) (a := p) (by rw [List.getElem?_eq_getElem hn, e])
    rw [ho] at hp
    cases hp
/-- what stands apart is taken into the frozen part -/
theorem GR.freeze {F G H : Hp} {μ : List Addr} {M : Mem} (g : GR w F G H μ M) {a : Addr} {o : HO} (f : F a = none) (k : G a = none) (m : a ∉ μ) (ho : H a = some o) : GR w (upd F a o) G H μ M := by
  refine ⟨fun b u e => ?_, g.gsub, fun b u e => ?_, g.len, g.nd, fun n c e => ?_⟩
  · by_cases hb : b = a
    · subst hb
      rw [upd_same] at e
      cases e
      exact ho
    · rw [upd_ne hb] at e
      exact g.sub _ _ e
  · rw [upd_ne (ne_of_none e k)]
    exact g.disj _ _ e
  · obtain ⟨b, e1, h1, h2⟩ := g.cell n c e
    have hb : b ≠ a := fun z => m (by rw [← z]; exact List.mem_of_getElem? e1)
    refine ⟨b, e1, fun hl => ?_, fun hl => ?_⟩
    · obtain ⟨f1, k1, u, hu, r⟩ := h1 hl
      exact ⟨by rw [upd_ne hb]; exact f1, k1, u, hu, r.le w (Fle.upd f)⟩
    · obtain ⟨⟨u, hu⟩, r⟩ := h2 hl
      exact ⟨⟨u, by rw [upd_ne hb]; exact hu⟩, r.le w (Fle.upd f)⟩
theorem OR.dr {F : Hp} {x : D} {o : HO} {a : Addr} (h : OR w F x o) (f : F a = none) : DR w (upd F a o) x (.ref a) := by
  cases x with
  | lst xs =>
    obtain ⟨vs, e, z, r⟩ := h
    subst e
    simp only [DR]
    exact ⟨a, vs, rfl, upd_same, z, r.le w (Fle.upd f)⟩
  | ins c fs =>
    obtain ⟨dx, gs, e, r⟩ := h
    subst e
    simp only [DR]
    exact ⟨a, dx, gs, rfl, upd_same, r.le w (Fle.upd f)⟩
  | _ => exact h.elim
theorem GR.frz {F G H : Hp} {μ : List Addr} {M : Mem} (g : GR w F G H μ M) {x : Vl} {v : V} (r : RR w F G μ H x v) : ∃ F', Fle F F' ∧ GR w F' G H μ M ∧ VR w F' μ (frz x) v := by
  cases x with
  | d x => exact ⟨F, Fle.refl, g, r⟩
  | loc n => exact ⟨F, Fle.refl, g, r⟩
  | new x =>
    obtain ⟨a, o, e, f, k, m, ho, q⟩ := r
    subst e
    exact ⟨upd F a o, Fle.upd f, g.freeze f k m ho, q.dr f⟩
/-- a cell is frozen -/
theorem GR.freezeCell {F G H : Hp} {μ : List Addr} {M : Mem} (g : GR w F G H μ M) {n : Nat} {c : Cell} {a : Addr} (e : M[n]? = some c) (ea : μ[n]? = some a) : ∃ F', Fle F F' ∧ GR w F' G H μ (M.set n ⟨false, c.d⟩) ∧ DR w F' c.d (.ref a) := by
  obtain ⟨b, e1, h1, h2⟩ := g.cell n c e
  rw [ea] at e1
  cases e1
  cases hl : c.live with
  | false =>
    have ec : (⟨false, c.d⟩ : Cell) = c := by
      obtain ⟨l, x⟩ := c
      simp only at hl
      rw [hl]
    have es : M.set n c = M := by
      apply List.ext_getElem?
      intro i
      by_cases hi : n = i
      · subst hi
        rw [List.getElem?_set_self (List.getElem?_eq_some_iff.mp e).1, e]
      · rw [List.getElem?_set_ne hi]
    rw [ec, es]
    exact ⟨F, Fle.refl, g, (h2 hl).2⟩
  | true =>
    obtain ⟨f, k, o, ho, q⟩ := h1 hl
    refine ⟨upd F a o, Fle.upd f, ⟨fun b u z => ?_, g.gsub, fun b u z => ?_, by rw [List.length_set]; exact g.len, g.nd, fun m c' z => ?_⟩, q.dr f⟩
    · by_cases hb : b = a
      · subst hb
        rw [upd_same] at z
        cases z
        exact ho
      · rw [upd_ne hb] at z
        exact g.sub _ _ z
    · rw [upd_ne (ne_of_none z k)]
      exact g.disj _ _ z
    · by_cases hm : n = m
      · subst hm
        rw [List.getElem?_set_self (List.getElem?_eq_some_iff.mp e).1] at z
        cases z
        exact ⟨a, ea, CellR.dead ⟨o, upd_same⟩ (q.dr f)⟩
      · rw [List.getElem?_set_ne hm] at z
        obtain ⟨b, e1, h1, h2⟩ := g.cell m c' z
        have hb : b ≠ a := fun zz => hm (by
          subst zz
          exact nodup_ix g.nd ea e1)
        refine ⟨b, e1, fun hl => ?_, fun hl => ?_⟩
        · obtain ⟨f1, k1, u, hu, r⟩ := h1 hl
          exact ⟨by rw [upd_ne hb]; exact f1, k1, u, hu, r.le w (Fle.upd f)⟩
        · obtain ⟨⟨u, hu⟩, r⟩ := h2 hl
          exact ⟨⟨u, by rw [upd_ne hb]; exact hu⟩, r.le w (Fle.upd f)⟩
/-- a live cell is written -/
theorem GR.write {F G H : Hp} {μ : List Addr} {M : Mem} (g : GR w F G H μ M) {n : Nat} {x y : D} {o : HO} {a : Addr} (e : M[n]? = some ⟨true, x⟩) (ea : μ[n]? = some a) (r : OR w F y o) : GR w F G (upd H a o) μ (M.set n ⟨true, y⟩) := by
  obtain ⟨b, e1, h1, _⟩ := g.cell n _ e
  rw [ea] at e1
  cases e1
  obtain ⟨f, k, _⟩ := h1 rfl
  refine ⟨fun b u z => ?_, fun b u z => ?_, g.disj, by rw [List.length_set]; exact g.len, g.nd, fun m c' z => ?_⟩
  · rw [upd_ne (ne_of_none z f)]
    exact g.sub _ _ z
  · rw [upd_ne (ne_of_none z k)]
    exact g.gsub _ _ z
  · by_cases hm : n = m
    · subst hm
      rw [List.getElem?_set_self (List.getElem?_eq_some_iff.mp e).1] at z
      cases z
      exact ⟨a, ea, CellR.alive f k upd_same r⟩
    · rw [List.getElem?_set_ne hm] at z
      obtain ⟨b, e1, h1, h2⟩ := g.cell m c' z
      have hb : b ≠ a := fun zz => hm (by
        subst zz
        exact nodup_ix g.nd ea e1)
      refine ⟨b, e1, fun hl => ?_, h2⟩
      obtain ⟨f1, k1, u, hu, r⟩ := h1 hl
      exact ⟨f1, k1, u, by rw [upd_ne hb]; exact hu, r⟩
/-- a new object becomes a cell -/
theorem GR.addCell {F G H : Hp} {μ : List Addr} {M : Mem} (g : GR w F G H μ M) {a : Addr} {o : HO} {x : D} (f : F a = none) (k : G a = none) (m : a ∉ μ) (ho : H a = some o) (r : OR w F x o) : GR w F G H (μ ++ [a]) (M ++ [⟨true, x⟩]) := by
  refine ⟨g.sub, g.gsub, g.disj, by simp [g.len], ?_, fun n c e => ?_⟩
  · rw [List.nodup_append]
    exact ⟨g.nd, by simp, fun b hb c hc z => by
      rw [List.mem_singleton] at hc
      exact m (by rw [← hc, ← z]; exact hb)⟩
  · by_cases hn : n < M.length
    · rw [List.getElem?_append_left hn] at e
      obtain ⟨b, e1, q⟩ := g.cell n c e
      exact ⟨b, by rw [List.getElem?_append_left (by rw [g.len]; exact hn)]; exact e1, q⟩
    · rw [List.getElem?_append_right (by omega)] at e
      have hz : n - M.length = 0 := by
        have := (List.getElem?_eq_some_iff.mp e).1
        simp at this
        omega
      rw [hz] at e
      simp at e
      subst e
      refine ⟨a, ?_, CellR.alive f k ho r⟩
      rw [List.getElem?_append_right (by rw [g.len]; omega), g.len, hz]
      rfl
/-- the younger cells are dropped -/
theorem GR.drop {F G H : Hp} {μ : List Addr} {M : Mem} (g : GR w F G H μ M) (b : Nat) : GR w F G H (μ.take b) (M.take b) := by
  refine ⟨g.sub, g.gsub, g.disj, by rw [List.length_take, List.length_take, g.len], g.nd.sublist (List.take_sublist _ _), fun n c e => ?_⟩
  have hn : n < b := by
    have := (List.getElem?_eq_some_iff.mp e).1
    rw [List.length_take] at this
    omega
  rw [List.getElem?_take_of_lt hn] at e ⊢
  exact g.cell n c e
theorem top_of {F G H : Hp} {μ : List Addr} {M : Mem} (g : GR w F G H μ M) {x : Vl} {v : V} {y : D} (r : VR w F μ x v) (e : der M x = some y) : Top w F H y v := by
  cases x with
  | d x =>
    have e' : x = y := Option.some.inj e
    subst e'
    have r' : DR w F x v := r
    cases x with
    | lst xs =>
      simp only [DR] at r'
      obtain ⟨a, vs, e, h, z, q⟩ := r'
      exact ⟨a, vs, e, g.sub _ _ h, z, q⟩
    | ins c fs =>
      simp only [DR] at r'
      obtain ⟨a, dx, gs, e, h, q⟩ := r'
      exact ⟨a, dx, gs, e, g.sub _ _ h, q⟩
    | _ => exact r'
  | new x => exact r.elim
  | loc n =>
    obtain ⟨a, ea, ev⟩ := r
    subst ev
    simp only [der, Option.map_eq_some_iff] at e
    obtain ⟨c, ec, ed⟩ := e
    subst ed
    obtain ⟨b, e1, h1, h2⟩ := g.cell n c ec
    rw [ea] at e1
    cases e1
    cases hl : c.live with
    | true =>
      obtain ⟨_, _, o, ho, q⟩ := h1 hl
      cases hd : c.d with
      | lst xs =>
        rw [hd] at q
        obtain ⟨vs, e, z, r⟩ := q
        subst e
        exact ⟨a, vs, rfl, ho, z, r⟩
      | ins c fs =>
        rw [hd] at q
        obtain ⟨dx, gs, e, r⟩ := q
        subst e
        exact ⟨a, dx, gs, rfl, ho, r⟩
      | _ => rw [hd] at q; exact q.elim
    | false =>
      obtain ⟨_, q⟩ := h2 hl
      cases hd : c.d with
      | lst xs =>
        rw [hd] at q
        simp only [DR] at q
        obtain ⟨a', vs, e, h, z, r⟩ := q
        cases e
        exact ⟨a, vs, rfl, g.sub _ _ h, z, r⟩
      | ins c fs =>
        rw [hd] at q
        simp only [DR] at q
        obtain ⟨a', dx, gs, e, h, r⟩ := q
        cases e
        exact ⟨a, dx, gs, rfl, g.sub _ _ h, r⟩
      | _ => rw [hd] at q; exact q
end
end Pd

/-! Pd4: operations by values, from their rules over the abstract heap. -/
namespace Pd
open PySem PySem.Spec L2

/-! ### == of plain data, over the library's own -/
mutual
def D.py : D → PyData
  | .non => .none
  | .bl b => .bool b
  | .int i => .int i
  | .str s => .str s
  | .tup xs => .tuple (D.pys xs)
  | .lst xs => .list (D.pys xs)
  | .dic _ | .ins _ _ | .scr _ => .none
def D.pys : List D → List PyData
  | [] => []
  | x :: xs => D.py x :: D.pys xs
end
theorem pys_length : ∀ xs : List D, (D.pys xs).length = xs.length
  | [] => rfl
  | x :: xs => by simp only [D.pys, List.length_cons, pys_length xs]
theorem pys_map : ∀ xs : List D, D.pys xs = xs.map D.py
  | [] => rfl
  | x :: xs => by simp only [D.pys, List.map_cons, pys_map xs]
mutual
theorem eqv_py : ∀ (n m : Nat) (x y : D), D.flat n x = true → D.flat m y = true → PyData.eqv x.py y.py = D.eqv x y
  | n, m, .non, y, _, hy => by cases y <;> simp_all [D.py, PyData.eqv, D.eqv, D.flat]
  | n, m, .bl b, y, _, hy => by cases y <;> simp_all [D.py, PyData.eqv, D.eqv, D.flat, D.isTrueI]
  | n, m, .int i, y, _, hy => by cases y <;> simp_all [D.py, PyData.eqv, D.eqv, D.flat, D.isTrueI]
  | n, m, .str s, y, _, hy => by cases y <;> simp_all [D.py, PyData.eqv, D.eqv, D.flat]
  | 0, m, .tup xs, y, hx, hy => by simp [D.flat] at hx
  | 0, m, .lst xs, y, hx, hy => by simp [D.flat] at hx
  | n + 1, m, .tup xs, y, hx, hy => by
    cases y with
    | tup ys =>
      cases m with
      | zero => simp [D.flat] at hy
      | succ m =>
        simp only [D.flat] at hx hy
        simp only [D.py, PyData.eqv, D.eqv]
        exact eqvs_py n m xs ys hx hy
    | _ => simp_all [D.py, PyData.eqv, D.eqv, D.flat]
  | n + 1, m, .lst xs, y, hx, hy => by
    cases y with
    | lst ys =>
      cases m with
      | zero => simp [D.flat] at hy
      | succ m =>
        simp only [D.flat] at hx hy
        simp only [D.py, PyData.eqv, D.eqv]
        exact eqvs_py n m xs ys hx hy
    | _ => simp_all [D.py, PyData.eqv, D.eqv, D.flat]
  | n, m, .dic _, y, hx, _ => by cases n <;> simp [D.flat] at hx
  | n, m, .ins _ _, y, hx, _ => by cases n <;> simp [D.flat] at hx
  | n, m, .scr _, y, hx, _ => by cases n <;> simp [D.flat] at hx
theorem eqvs_py : ∀ (n m : Nat) (xs ys : List D), D.flats n xs = true → D.flats m ys = true → PyData.eqvAll (D.pys xs) (D.pys ys) = D.eqvs xs ys
  | _, _, [], [], _, _ => by simp [D.pys, PyData.eqvAll, D.eqvs]
  | _, _, [], _ :: _, _, _ => by simp [D.pys, PyData.eqvAll, D.eqvs]
  | _, _, _ :: _, [], _, _ => by simp [D.pys, PyData.eqvAll, D.eqvs]
  | n, m, x :: xs, y :: ys, hx, hy => by
    simp only [D.flats, Bool.and_eq_true] at hx hy
    simp only [D.pys, PyData.eqvAll, D.eqvs]
    rw [eqv_py n m x y hx.1 hy.1, eqvs_py n m xs ys hx.2 hy.2]
end
mutual
theorem depth_py : ∀ (n : Nat) (x : D), D.flat n x = true → x.py.depth ≤ n
  | n, .non, _ | n, .bl _, _ | n, .int _, _ | n, .str _, _ | n, .dic _, _ | n, .ins _ _, _ | n, .scr _, _ => by simp [D.py, PyData.depth]
  | 0, .tup xs, hx => by simp [D.flat] at hx
  | 0, .lst xs, hx => by simp [D.flat] at hx
  | n + 1, .tup xs, hx => by
    simp only [D.flat] at hx
    simp only [D.py, PyData.depth]
    have := depths_py n xs hx
    omega
  | n + 1, .lst xs, hx => by
    simp only [D.flat] at hx
    simp only [D.py, PyData.depth]
    have := depths_py n xs hx
    omega
theorem depths_py : ∀ (n : Nat) (xs : List D), D.flats n xs = true → PyData.depthAll (D.pys xs) ≤ n
  | n, [], _ => by simp [D.pys, PyData.depthAll]
  | n, x :: xs, hx => by
    simp only [D.flats, Bool.and_eq_true] at hx
    simp only [D.pys, PyData.depthAll]
    have h1 := depth_py n x hx.1
    have h2 := depths_py n xs hx.2
    omega
end
theorem okS_strOk {s : Str} (h : okS s = true) : PyData.strOk s = true := (Bool.and_eq_true_iff.mp h).1
theorem okS_len {s : Str} (h : okS s = true) : s.length ≤ sizeLine := of_decide_eq_true (Bool.and_eq_true_iff.mp h).2

section
variable {w : Wr}
theorem Fle.sqT {F H : Hp} (l : Fle F H) {a : Addr} {vs : List V} (h : SqT w.K F a vs) : SqT w.K H a vs := SqT.le l h
mutual
theorem canLay_of {F : Hp} : ∀ (n : Nat) (x : D) (v : V), D.flat n x = true → DR w F x v → x.py.canLay0 = true
  | n, .non, _, _, _ | n, .bl _, _, _, _ | n, .int _, _, _, _ => by simp [D.py, PyData.canLay0]
  | n, .str s, _, _, h => by
    simp only [DR] at h
    simp only [D.py, PyData.canLay0]
    exact okS_strOk h.2
  | 0, .tup xs, _, hx, _ => by simp [D.flat] at hx
  | 0, .lst xs, _, hx, _ => by simp [D.flat] at hx
  | n + 1, .tup xs, _, hx, h => by
    simp only [D.flat] at hx
    simp only [DR] at h
    obtain ⟨_, vs, _, _, _, r⟩ := h
    simp only [D.py, PyData.canLay0]
    exact canLays_of n xs vs hx r
  | n + 1, .lst xs, _, hx, h => by
    simp only [D.flat] at hx
    simp only [DR] at h
    obtain ⟨_, vs, _, _, _, r⟩ := h
    simp only [D.py, PyData.canLay0]
    exact canLays_of n xs vs hx r
  | n, .dic _, _, hx, _ => by cases n <;> simp [D.flat] at hx
  | n, .ins _ _, _, hx, _ => by cases n <;> simp [D.flat] at hx
  | n, .scr _, _, hx, _ => by cases n <;> simp [D.flat] at hx
theorem canLays_of {F : Hp} : ∀ (n : Nat) (xs : List D) (vs : List V), D.flats n xs = true → DRs w F xs vs → PyData.canLayAll0 (D.pys xs) = true
  | n, [], _, _, _ => by simp [D.pys, PyData.canLayAll0]
  | n, x :: xs, _, hx, h => by
    simp only [D.flats, Bool.and_eq_true] at hx
    simp only [DRs] at h
    obtain ⟨v, r, e, h1, h2⟩ := h
    simp only [D.pys, PyData.canLayAll0, Bool.and_eq_true]
    exact ⟨canLay_of n x v hx.1 h1, canLays_of n xs r hx.2 h2⟩
end
mutual
theorem dp_of {F H : Hp} (l : Fle F H) : ∀ (n : Nat) (x : D) (v : V), D.flat n x = true → DR w F x v → Dp w.K H v x.py
  | n, .non, _, _, h => by simp only [DR] at h; subst h; simp only [D.py]; exact .non
  | n, .bl b, _, _, h => by simp only [DR] at h; subst h; simp only [D.py]; exact .bl b
  | n, .int b, _, _, h => by simp only [DR] at h; subst h; simp only [D.py]; exact .int b
  | n, .str b, _, _, h => by simp only [DR] at h; rw [h.1]; simp only [D.py]; exact .str b
  | 0, .tup xs, _, hx, _ => by simp [D.flat] at hx
  | 0, .lst xs, _, hx, _ => by simp [D.flat] at hx
  | n + 1, .tup xs, _, hx, h => by
    simp only [D.flat] at hx
    simp only [DR] at h
    obtain ⟨a, vs, e, s, _, r⟩ := h
    subst e
    simp only [D.py]
    exact .tup (SqT.le l s) (dps_of l n xs vs hx r)
  | n + 1, .lst xs, _, hx, h => by
    simp only [D.flat] at hx
    simp only [DR] at h
    obtain ⟨a, vs, e, s, _, r⟩ := h
    subst e
    simp only [D.py]
    exact .lst (.of (l _ _ s)) (dps_of l n xs vs hx r)
  | n, .dic _, _, hx, _ => by cases n <;> simp [D.flat] at hx
  | n, .ins _ _, _, hx, _ => by cases n <;> simp [D.flat] at hx
  | n, .scr _, _, hx, _ => by cases n <;> simp [D.flat] at hx
theorem dps_of {F H : Hp} (l : Fle F H) : ∀ (n : Nat) (xs : List D) (vs : List V), D.flats n xs = true → DRs w F xs vs → DpAll w.K H vs (D.pys xs)
  | n, [], _, _, h => by simp only [DRs] at h; subst h; simp only [D.pys]; exact .nil
  | n, x :: xs, _, hx, h => by
    simp only [D.flats, Bool.and_eq_true] at hx
    simp only [DRs] at h
    obtain ⟨v, r, e, h1, h2⟩ := h
    subst e
    simp only [D.pys]
    exact .cons (dp_of l n x v hx.1 h1) (dps_of l n xs r hx.2 h2)
end
/-- of the topmost object as it stands -/
theorem dp_top {F H : Hp} (l : Fle F H) {n : Nat} {x : D} {v : V} (hx : D.flat n x = true) (h : Top w F H x v) : Dp w.K H v x.py ∧ x.py.canLay0 = true := by
  cases x with
  | lst xs =>
    obtain ⟨a, vs, e, s, _, r⟩ := h
    subst e
    cases n with
    | zero => simp [D.flat] at hx
    | succ n =>
      simp only [D.flat] at hx
      simp only [D.py, PyData.canLay0]
      exact ⟨.lst (.of s) (dps_of l n xs vs hx r), canLays_of n xs vs hx r⟩
  | ins c fs => cases n <;> simp [D.flat] at hx
  | _ => exact ⟨dp_of (w := w) l n _ v hx h, canLay_of (w := w) (F := F) n _ v hx h⟩
theorem shaped_top {F H : Hp} (l : Fle F H) {x : D} {v : V} (hx : D.flat D.deep x = true) (h : Top w F H x v) : Dp w.K H v x.py ∧ SeqAt.shaped x.py = true := by
  obtain ⟨h1, h2⟩ := dp_top l hx h
  refine ⟨h1, Bool.and_eq_true_iff.mpr ⟨h2, decide_eq_true ?_⟩⟩
  have := depth_py _ _ hx
  unfold D.deep at this
  omega

/-! ### the outcomes -/
/-- what is to be shown of an operation that hands back z: whatever the caller wants of it -/
abbrev Wish (w : Wr) (F G : Hp) (μ : List Addr) (M : Mem) (z : Vl) (Q : VK) : Prop := ∀ F' H' v, Fle F F' → GR w F' G H' μ M → RR w F' G μ H' z v → Q v H'
theorem Wish.d {F G H : Hp} {μ : List Addr} {M : Mem} {x : D} {v : V} {Q : VK} (k : Wish w F G μ M (.d x) Q) (g : GR w F G H μ M) (h : DR w F x v) : Q v H := k F H v Fle.refl g h
theorem Wish.int {F G H : Hp} {μ : List Addr} {M : Mem} {i : Int} {Q : VK} (k : Wish w F G μ M (.d (.int i)) Q) (g : GR w F G H μ M) : Q (.int i) H := k.d g (by simp only [DR])
theorem Wish.bl {F G H : Hp} {μ : List Addr} {M : Mem} {b : Bool} {Q : VK} (k : Wish w F G μ M (.d (.bl b)) Q) (g : GR w F G H μ M) : Q (.bl b) H := k.d g (by simp only [DR])
theorem Wish.non {F G H : Hp} {μ : List Addr} {M : Mem} {Q : VK} (k : Wish w F G μ M (.d .non) Q) (g : GR w F G H μ M) : Q .non H := k.d g (by simp only [DR])
theorem Wish.str {F G H : Hp} {μ : List Addr} {M : Mem} {s : Str} {Q : VK} (k : Wish w F G μ M (.d (.str s)) Q) (g : GR w F G H μ M) (h : okS s = true) : Q (.str s) H := k.d g (by simp only [DR]; exact ⟨trivial, h⟩)
theorem Wish.tup {F G H : Hp} {μ : List Addr} {M : Mem} {xs : List D} {vs : List V} {Q : VK} (k : Wish w F G μ M (.d (.tup xs)) Q) (g : GR w F G H μ M) (hz : xs.length ≤ sizeLine) (h : DRs w F xs vs) :
    ∀ p, H p = none → Q (.ref p) (upd H p (.tup vs)) := fun p hp => by
  obtain ⟨f, q, m⟩ := g.away hp
  refine k (upd F p (.tup vs)) _ _ (Fle.upd f) ((g.grow hp).freeze f q m upd_same) ?_
  show DR w _ _ _
  simp only [DR]
  exact ⟨p, vs, rfl, .of upd_same, hz, DRs.le w (Fle.upd f) h⟩
theorem Wish.lst {F G H : Hp} {μ : List Addr} {M : Mem} {xs : List D} {vs : List V} {Q : VK} (k : Wish w F G μ M (.new (.lst xs)) Q) (g : GR w F G H μ M) (hz : xs.length ≤ sizeLine) (h : DRs w F xs vs) :
    ∀ p, H p = none → Q (.ref p) (upd H p (.lst vs)) := fun p hp => by
  obtain ⟨f, q, m⟩ := g.away hp
  exact k F _ _ Fle.refl (g.grow hp) ⟨p, .lst vs, rfl, f, q, m, upd_same, vs, rfl, hz, h⟩
theorem Top.lst {F H : Hp} {xs : List D} {v : V} (h : Top w F H (.lst xs) v) : ∃ a vs, v = .ref a ∧ H a = some (.lst vs) ∧ xs.length ≤ sizeLine ∧ DRs w F xs vs := h
theorem Top.tup {F H : Hp} {xs : List D} {v : V} (l : Fle F H) (h : Top w F H (.tup xs) v) : ∃ a vs, v = .ref a ∧ SqT w.K H a vs ∧ xs.length ≤ sizeLine ∧ DRs w F xs vs := by
  have h' : DR w F (.tup xs) v := h
  simp only [DR] at h'
  obtain ⟨a, vs, e, s, z, r⟩ := h'
  exact ⟨a, vs, e, SqT.le l s, z, r⟩
theorem Top.scr {F H : Hp} {ns : List Int} {v : V} (l : Fle F H) (h : Top w F H (.scr ns) v) : ∃ a, v = .ref a ∧ SqL w.K H a (ns.map V.int) := by
  have h' : DR w F (.scr ns) v := h
  simp only [DR] at h'
  obtain ⟨a, e, s⟩ := h'
  exact ⟨a, e, SqL.le l s⟩
theorem Top.int {F H : Hp} {i : Int} {v : V} (h : Top w F H (.int i) v) : v = .int i := by
  have h' : DR w F (.int i) v := h
  simpa only [DR] using h'
theorem Top.bl {F H : Hp} {i : Bool} {v : V} (h : Top w F H (.bl i) v) : v = .bl i := by
  have h' : DR w F (.bl i) v := h
  simpa only [DR] using h'
theorem Top.non {F H : Hp} {v : V} (h : Top w F H .non v) : v = .non := by
  have h' : DR w F .non v := h
  simpa only [DR] using h'
theorem Top.str {F H : Hp} {s : Str} {v : V} (h : Top w F H (.str s) v) : v = .str s ∧ okS s = true := by
  have h' : DR w F (.str s) v := h
  simpa only [DR] using h'

/-! ### operators -/
def opOf : Op2 → Value → Value → Sem Value
  | .add => binaryOp .Add | .sub => binaryOp .Sub | .mul => binaryOp .Mult | .fdiv => binaryOp .FloorDiv | .mod => binaryOp .Mod | .pow => binaryOp .Pow
  | .eq => compareOp .Eq | .ne => compareOp .NotEq | .lt => compareOp .Lt | .le => compareOp .LtE | .gt => compareOp .Gt | .ge => compareOp .GtE
  | .inn => compareOp .In | .nin => compareOp .NotIn
def rStrAdd : R2 := fun x y H Q => ∃ i j, x = .str i ∧ y = .str j ∧ i.length + j.length ≤ sizeLine ∧ Q (.str (i ++ j)) H
def rStrCmp (f : Str → Str → Bool) : R2 := fun x y H Q => ∃ i j, x = .str i ∧ y = .str j ∧ Q (.bl (f i j)) H
def rOp (K : PySem.W.Frag) : Op2 → R2
  | .add => fun x y H Q => rI0 (fun i j => .int (i + j)) x y H Q ∨ rStrAdd x y H Q ∨ rCat x y H Q ∨ rCatT K x y H Q
  | .sub => rI0 fun i j => .int (i - j)
  | .mul => fun x y H Q => rI CMulW (fun i j => .int (i * j)) x y H Q ∨ rRep x y H Q
  | .fdiv => rI CDivW fun i j => .int (i / j)
  | .mod => rI (fun _ j => 0 < j) fun i j => .int (i % j)
  | .pow => rI CPow fun i j => .int (i ^ j.toNat)
  | .eq => rEqD K
  | .ne => rNeD K
  | .lt => fun x y H Q => rI0 (fun i j => .bl (decide (i < j))) x y H Q ∨ rStrCmp strLt x y H Q
  | .le => fun x y H Q => rI0 (fun i j => .bl (decide (i ≤ j))) x y H Q ∨ rStrCmp (fun i j => !strLt j i) x y H Q
  | .gt => fun x y H Q => rI0 (fun i j => .bl (decide (j < i))) x y H Q ∨ rStrCmp (fun i j => strLt j i) x y H Q
  | .ge => fun x y H Q => rI0 (fun i j => .bl (decide (j ≤ i))) x y H Q ∨ rStrCmp (fun i j => !strLt i j) x y H Q
  | .inn => fun x y H Q => rStrCmp inStr x y H Q ∨ rInD K x y H Q ∨ rIn K false x y H Q
  | .nin => fun x y H Q => rStrCmp (fun i j => !inStr i j) x y H Q ∨ rNotInD K x y H Q ∨ rIn K true x y H Q
theorem opR {X : Cx} (hu : X.A.units + 65 < cLine) (o : Op2) : OpR X (opOf o) (rOp X.K o) := by
  cases o with
  | add => exact op_add.or (op_add_str.or (op_cat.or op_catT))
  | sub => exact op_sub
  | mul => exact op_mulW.or op_rep
  | fdiv => exact op_fdivW
  | mod => exact op_mod
  | pow => exact op_pow
  | eq => exact op_eqD (show X.A.units + 64 < cLine by omega)
  | ne => exact op_neD (show X.A.units + 64 < cLine by omega)
  | lt => exact op_lt.or op_lt_str
  | le => exact op_le.or op_le_str
  | gt => exact op_gt.or op_gt_str
  | ge => exact op_ge.or op_ge_str
  | inn => exact op_in_str.or ((op_inD hu).or op_in_seq)
  | nin => exact op_notin_str.or ((op_notInD hu).or op_notIn_seq)

theorem okS_add {x y : Str} (hx : okS x = true) (hy : okS y = true) (h : x.length + y.length ≤ sizeLine) : okS (x ++ y) = true := by
  refine Bool.and_eq_true_iff.mpr ⟨?_, decide_eq_true ?_⟩
  · have h1 := okS_strOk hx
    have h2 := okS_strOk hy
    unfold PyData.strOk at h1 h2 ⊢
    show (x.cps ++ y.cps).all _ = true
    rw [Array.all_append, h1, h2]
    rfl
  · show (x.cps ++ y.cps).size ≤ _
    rw [Array.size_append]
    exact h
theorem flat0_V {F H : Hp} (l : Fle F H) {x : D} {v : V} (hx : D.flat 0 x = true) (h : DR w F x v) : flatV v = true ∧ ∀ (y : D) (u : V), D.flat 0 y = true → DR w F y u → eqV u v = D.eqv y x := by
  cases x with
  | tup xs => simp [D.flat] at hx
  | lst xs => simp [D.flat] at hx
  | dic xs => simp [D.flat] at hx
  | ins c xs => simp [D.flat] at hx
  | scr xs => simp [D.flat] at hx
  | non =>
    simp only [DR] at h
    subst h
    refine ⟨rfl, fun y u hy hu => ?_⟩
    cases y <;> simp_all [D.flat, DR, eqV, D.eqv]
  | bl b =>
    simp only [DR] at h
    subst h
    refine ⟨rfl, fun y u hy hu => ?_⟩
    cases y <;> simp_all [D.flat, DR, eqV, D.eqv, D.isTrueI]
  | int b =>
    simp only [DR] at h
    subst h
    refine ⟨rfl, fun y u hy hu => ?_⟩
    cases y <;> simp_all [D.flat, DR, eqV, D.eqv, D.isTrueI]
  | str b =>
    simp only [DR] at h
    obtain ⟨h, _⟩ := h
    subst h
    refine ⟨rfl, fun y u hy hu => ?_⟩
    cases y <;> simp_all [D.flat, DR, eqV, D.eqv]
theorem flats0_V {F H : Hp} (l : Fle F H) {x : D} {v : V} (hx : D.flat 0 x = true) (h : DR w F x v) : ∀ {ys : List D} {us : List V}, D.flats 0 ys = true → DRs w F ys us → us.all flatV = true ∧ inV v us = ys.any fun y => D.eqv y x
  | [], _, _, hr => by
    simp only [DRs] at hr
    subst hr
    exact ⟨rfl, rfl⟩
  | y :: ys, _, hy, hr => by
    simp only [DRs] at hr
    obtain ⟨u, r, e, h1, h2⟩ := hr
    subst e
    simp only [D.flats, Bool.and_eq_true] at hy
    obtain ⟨k1, k2⟩ := flats0_V l hx h hy.2 h2
    refine ⟨?_, ?_⟩
    · rw [List.all_cons, (flat0_V l hy.1 h1).1, k1]
      rfl
    · unfold inV at k2 ⊢
      rw [List.any_cons, List.any_cons, k2, (flat0_V l hx h).2 y u hy.1 h1]
theorem top_dr {F H : Hp} {x : D} {v : V} (hx : D.flat 0 x = true) (h : Top w F H x v) : DR w F x v := by
  cases x with
  | lst xs => simp [D.flat] at hx
  | ins c fs => simp [D.flat] at hx
  | _ => exact h

/-- a rule for an operation of two values -/
def Prim2 (w : Wr) (f : D → D → Option Vl) (r : R2) : Prop := ∀ (F G H : Hp) (μ : List Addr) (M : Mem) (dx dy : D) (vx vy : V) (z : Vl) (Q : VK),
  GR w F G H μ M → Top w F H dx vx → Top w F H dy vy → f dx dy = some z → Wish w F G μ M z Q → r vx vy H Q
theorem bool2_some {b : Bool} {z : Vl} (h : bool2 b = some z) : z = .d (.bl b) := (Option.some.inj h).symm
theorem prim_opII (o : Op2) {F G H : Hp} {μ : List Addr} {M : Mem} {i j : Int} {z : Vl} {Q : VK} (g : GR w F G H μ M) (h : opII o i j = some z) (k : Wish w F G μ M z Q) : rOp w.K o (.int i) (.int j) H Q := by
  have dpi : ∀ n : Int, Dp w.K H (.int n) (.int n) := fun n => .int n
  have shi : ∀ n : Int, SeqAt.shaped (.int n) = true := fun n => rfl
  cases o with
  | add =>
    cases Option.some.inj h
    exact .inl ⟨i, j, rfl, rfl, k.int g⟩
  | sub =>
    cases Option.some.inj h
    exact ⟨i, j, rfl, rfl, k.int g⟩
  | mul =>
    simp only [opII] at h
    split at h
    · rename_i hc
      cases Option.some.inj h
      exact .inl ⟨i, j, rfl, rfl, of_decide_eq_true (p := i.natAbs.log2 + j.natAbs.log2 < 1000000) hc, k.int g⟩
    · cases h
  | fdiv =>
    simp only [opII] at h
    split at h
    · rename_i hc
      cases Option.some.inj h
      obtain ⟨h1, h2⟩ := Bool.and_eq_true_iff.mp hc
      exact ⟨i, j, rfl, rfl, ⟨of_decide_eq_true h1, of_decide_eq_true h2⟩, k.int g⟩
    · cases h
  | mod =>
    simp only [opII] at h
    split at h
    · rename_i hc
      cases Option.some.inj h
      exact ⟨i, j, rfl, rfl, hc, k.int g⟩
    · cases h
  | pow =>
    simp only [opII] at h
    split at h
    · rename_i hc
      cases Option.some.inj h
      obtain ⟨h1, h2⟩ := Bool.and_eq_true_iff.mp hc
      obtain ⟨h2, h3⟩ := Bool.and_eq_true_iff.mp h2
      exact ⟨i, j, rfl, rfl, ⟨of_decide_eq_true h1, of_decide_eq_true h2, of_decide_eq_true h3⟩, k.int g⟩
    · cases h
  | eq =>
    cases bool2_some h
    exact ⟨_, _, dpi i, dpi j, shi i, shi j, by simp only [PyData.eqv]; exact k.bl g⟩
  | ne =>
    cases bool2_some h
    exact ⟨_, _, dpi i, dpi j, shi i, shi j, by simp only [PyData.eqv]; exact k.bl g⟩
  | lt =>
    cases bool2_some h
    exact .inl ⟨i, j, rfl, rfl, k.bl g⟩
  | le =>
    cases bool2_some h
    exact .inl ⟨i, j, rfl, rfl, k.bl g⟩
  | gt =>
    cases bool2_some h
    exact .inl ⟨i, j, rfl, rfl, k.bl g⟩
  | ge =>
    cases bool2_some h
    exact .inl ⟨i, j, rfl, rfl, k.bl g⟩
  | inn => simp [opII, cmpI] at h
  | nin => simp [opII, cmpI] at h
theorem prim_eq {F G H : Hp} {μ : List Addr} {M : Mem} {x y : D} {vx vy : V} {Q : VK} (g : GR w F G H μ M) (tx : Top w F H x vx) (ty : Top w F H y vy) (hx : D.flat D.deep x = true) (hy : D.flat D.deep y = true)
    (k : Q (.bl (D.eqv x y)) H) : rEqD w.K vx vy H Q := by
  obtain ⟨p1, s1⟩ := shaped_top g.sub hx tx
  obtain ⟨p2, s2⟩ := shaped_top g.sub hy ty
  exact ⟨_, _, p1, p2, s1, s2, by rw [eqv_py _ _ _ _ hx hy]; exact k⟩
theorem prim_ne {F G H : Hp} {μ : List Addr} {M : Mem} {x y : D} {vx vy : V} {Q : VK} (g : GR w F G H μ M) (tx : Top w F H x vx) (ty : Top w F H y vy) (hx : D.flat D.deep x = true) (hy : D.flat D.deep y = true)
    (k : Q (.bl (!D.eqv x y)) H) : rNeD w.K vx vy H Q := by
  obtain ⟨p1, s1⟩ := shaped_top g.sub hx tx
  obtain ⟨p2, s2⟩ := shaped_top g.sub hy ty
  exact ⟨_, _, p1, p2, s1, s2, by rw [eqv_py _ _ _ _ hx hy]; exact k⟩
theorem flats_at : ∀ {n : Nat} {xs : List D} {y : D}, D.flats n xs = true → y ∈ xs → D.flat n y = true
  | n, [], y, _, h => by cases h
  | n, x :: xs, y, hf, h => by
    simp only [D.flats, Bool.and_eq_true] at hf
    rcases List.mem_cons.mp h with e | e
    · rw [e]
      exact hf.1
    · exact flats_at hf.2 e
theorem any_py {x : D} (hx : D.flat D.deep x = true) : ∀ {ys : List D}, D.flats D.deep ys = true → ((D.pys ys).any fun z => PyData.eqv z x.py) = ys.any fun y => D.eqv y x
  | [], _ => rfl
  | y :: ys, h => by
    simp only [D.flats, Bool.and_eq_true] at h
    simp only [D.pys, List.any_cons]
    rw [any_py hx h.2, eqv_py _ _ _ _ h.1 hx]
theorem flats_up : ∀ {n : Nat} {xs : List D}, D.flats n xs = true → D.flat (n + 1) (.lst xs) = true := fun h => by simp only [D.flat]; exact h
theorem shaped_list {F H : Hp} (l : Fle F H) {xs : List D} {v : V} (hx : D.flats D.deep xs = true) (h : Top w F H (.lst xs) v) : Dp w.K H v (.list (D.pys xs)) ∧ SeqAt.shaped (.list (D.pys xs)) = true := by
  obtain ⟨h1, h2⟩ := dp_top (n := D.deep + 1) l (flats_up hx) h
  simp only [D.py] at h1 h2
  refine ⟨h1, Bool.and_eq_true_iff.mpr ⟨h2, decide_eq_true ?_⟩⟩
  have := depths_py _ _ hx
  simp only [PyData.depth]
  unfold D.deep at this
  omega
theorem prim_op2 (o : Op2) : Prim2 w (op2 o) (rOp w.K o) := by
  intro F G H μ M dx dy vx vy z Q g tx ty h k
  unfold op2 at h
  split at h
  · -- ints
    cases tx.int
    cases ty.int
    exact prim_opII _ g h k
  · -- texts
    rename_i x y
    obtain ⟨e1, o1⟩ := tx.str
    obtain ⟨e2, o2⟩ := ty.str
    subst e1 e2
    split at h
    · rename_i hc
      cases Option.some.inj h
      exact .inr (.inl ⟨x, y, rfl, rfl, hc, k.str g (okS_add o1 o2 hc)⟩)
    · cases h
  · rename_i xs ys
    obtain ⟨a, vs, e1, h1, z1, r1⟩ := tx.lst
    obtain ⟨b, us, e2, h2, z2, r2⟩ := ty.lst
    subst e1 e2
    split at h
    · rename_i hc
      cases Option.some.inj h
      refine .inr (.inr (.inl ⟨a, b, vs, us, rfl, rfl, h1, h2, by rw [← r1.length, ← r2.length]; exact hc, k.lst g (by rw [List.length_append]; exact hc) (DRs.app w r1 r2)⟩))
    · cases h
  · rename_i xs ys
    obtain ⟨a, vs, e1, h1, z1, r1⟩ := tx.tup g.sub
    obtain ⟨b, us, e2, h2, z2, r2⟩ := ty.tup g.sub
    subst e1 e2
    split at h
    · rename_i hc
      cases Option.some.inj h
      obtain ⟨hne, hz⟩ := Bool.and_eq_true_iff.mp hc
      have hz := of_decide_eq_true hz
      have hvs : vs ≠ [] := fun z => by
        subst z
        have := r1.length
        cases xs with
        | nil => cases hne
        | cons _ _ => cases this
      refine .inr (.inr (.inr ⟨a, b, vs, us, rfl, rfl, h1, h2, hvs, by rw [← r1.length, ← r2.length]; exact hz, fun e => ?_, fun _ => ?_⟩))
      · subst e
        have hy : ys = [] := by
          have := r2.length
          cases ys with
          | nil => rfl
          | cons _ _ => cases this
        subst hy
        rw [List.append_nil] at k
        have tx' : DR w F (.tup xs) (.ref a) := tx
        exact k.d g tx'
      · exact k.tup g (by rw [List.length_append]; exact hz) (DRs.app w r1 r2)
    · cases h
  · rename_i xs n
    obtain ⟨a, vs, e1, h1, z1, r1⟩ := tx.lst
    cases ty.int
    subst e1
    split at h
    · rename_i hc
      cases Option.some.inj h
      obtain ⟨c1, hc⟩ := Bool.and_eq_true_iff.mp hc
      obtain ⟨c2, c3⟩ := Bool.and_eq_true_iff.mp hc
      have c3 := of_decide_eq_true c3
      have hl : (List.replicate n.toNat xs).flatten.length ≤ sizeLine := by
        rw [List.length_flatten, List.map_replicate, List.sum_replicate_nat, Nat.mul_comm]
        exact c3
      exact .inr ⟨a, n, vs, rfl, rfl, h1, of_decide_eq_true c1, of_decide_eq_true c2, by rw [← r1.length]; exact c3, k.lst g hl (DRs.rep w r1 n.toNat)⟩
    · cases h
  · rename_i x y _ _
    split at h
    · rename_i hc
      obtain ⟨c1, c2⟩ := Bool.and_eq_true_iff.mp hc
      cases bool2_some h
      exact prim_eq g tx ty c1 c2 (k.bl g)
    · cases h
  · split at h
    · rename_i hc
      obtain ⟨c1, c2⟩ := Bool.and_eq_true_iff.mp hc
      cases bool2_some h
      exact prim_ne g tx ty c1 c2 (k.bl g)
    · cases h
  · rename_i x y
    obtain ⟨e1, o1⟩ := tx.str
    obtain ⟨e2, o2⟩ := ty.str
    subst e1 e2
    cases bool2_some h
    exact .inl ⟨x, y, rfl, rfl, k.bl g⟩
  · rename_i x y
    obtain ⟨e1, o1⟩ := tx.str
    obtain ⟨e2, o2⟩ := ty.str
    subst e1 e2
    cases bool2_some h
    exact .inl ⟨x, y, rfl, rfl, k.bl g⟩
  · split at h
    · rename_i hc
      obtain ⟨c1, c2⟩ := Bool.and_eq_true_iff.mp hc
      cases bool2_some h
      obtain ⟨p1, s1⟩ := shaped_top g.sub c1 tx
      obtain ⟨p2, s2⟩ := shaped_list g.sub c2 ty
      exact .inr (.inl ⟨_, _, p1, p2, s1, s2, by rw [any_py c1 c2]; exact k.bl g⟩)
    · cases h
  · split at h
    · rename_i hc
      obtain ⟨c1, c2⟩ := Bool.and_eq_true_iff.mp hc
      cases bool2_some h
      obtain ⟨p1, s1⟩ := shaped_top g.sub c1 tx
      obtain ⟨p2, s2⟩ := shaped_list g.sub c2 ty
      exact .inr (.inl ⟨_, _, p1, p2, s1, s2, by rw [any_py c1 c2]; exact k.bl g⟩)
    · cases h
  · split at h
    · rename_i hc
      obtain ⟨c1, c2⟩ := Bool.and_eq_true_iff.mp hc
      cases bool2_some h
      obtain ⟨b, us, e2, h2, z2, r2⟩ := ty.tup g.sub
      subst e2
      have d1 := top_dr c1 tx
      obtain ⟨f1, f2⟩ := flats0_V g.sub c1 d1 c2 r2
      exact .inr (.inr ⟨b, us, rfl, .inr h2, (flat0_V g.sub c1 d1).1, f1, by rw [if_neg (by decide), f2]; exact k.bl g⟩)
    · cases h
  · split at h
    · rename_i hc
      obtain ⟨c1, c2⟩ := Bool.and_eq_true_iff.mp hc
      cases bool2_some h
      obtain ⟨b, us, e2, h2, z2, r2⟩ := ty.tup g.sub
      subst e2
      have d1 := top_dr c1 tx
      obtain ⟨f1, f2⟩ := flats0_V g.sub c1 d1 c2 r2
      exact .inr (.inr ⟨b, us, rfl, .inr h2, (flat0_V g.sub c1 d1).1, f1, by rw [if_pos rfl, f2]; exact k.bl g⟩)
    · cases h
  · rename_i x y _ _ _ _ _
    obtain ⟨e1, o1⟩ := tx.str
    obtain ⟨e2, o2⟩ := ty.str
    subst e1 e2
    cases o <;> first | (simp [cmpS] at h; done) | (cases bool2_some h; exact .inr ⟨x, y, rfl, rfl, k.bl g⟩)
  · cases h
end
end Pd

/-! Pd5: built-in functions, subscripts, slices, methods, isinstance by values. -/
namespace Pd
open PySem PySem.Spec L2

/-! ### sorting -/
theorem insI_perm (x : Int) : ∀ l : List Int, (insI x l).Perm (x :: l)
  | [] => .refl _
  | y :: r => by
    unfold insI
    split
    · exact .refl _
    · exact ((insI_perm x r).cons y).trans (.swap x y r)
theorem isortI_perm : ∀ l : List Int, (isortI l).Perm l
  | [] => .refl _
  | x :: r => by
    unfold isortI
    exact (insI_perm x _).trans ((isortI_perm r).cons x)
theorem insI_sorted (x : Int) : ∀ l : List Int, l.Pairwise (· ≤ ·) → (insI x l).Pairwise (· ≤ ·)
  | [], _ => by simp [insI]
  | y :: r, h => by
    unfold insI
    split
    · rename_i hxy
      refine List.Pairwise.cons (fun z hz => ?_) h
      rcases List.mem_cons.mp hz with e | e
      · rw [e]; exact hxy
      · exact Int.le_trans hxy ((List.pairwise_cons.mp h).1 z e)
    · rename_i hxy
      refine List.Pairwise.cons (fun z hz => ?_) (insI_sorted x r (List.pairwise_cons.mp h).2)
      rcases List.mem_cons.mp ((insI_perm x r).mem_iff.mp hz) with e | e
      · rw [e]; omega
      · exact (List.pairwise_cons.mp h).1 z e
theorem isortI_sorted : ∀ l : List Int, (isortI l).Pairwise (· ≤ ·)
  | [] => by simp [isortI]
  | x :: r => by
    unfold isortI
    exact insI_sorted x _ (isortI_sorted r)
theorem isortI_eq {a l : List Int} (p : a.Perm l) (h : a.Pairwise (· ≤ ·)) : a = isortI l :=
  (p.trans (isortI_perm l).symm).eq_of_pairwise (fun _ _ _ _ h1 h2 => Int.le_antisymm h1 h2) h (isortI_sorted l)
/-- not greater, as texts -/
def leS (x y : Str) : Prop := strLt y x = false
theorem leS_total (x y : Str) : leS x y ∨ leS y x := by
  unfold leS strLt
  rcases Decidable.em (y.cps.toList < x.cps.toList) with h | h
  · right
    exact decide_eq_false (fun h2 => List.lt_asymm h h2)
  · left
    exact decide_eq_false h
theorem leS_anti {x y : Str} (h1 : leS x y) (h2 : leS y x) : x = y := by
  have a := of_decide_eq_false (p := y.cps.toList < x.cps.toList) h1
  have b := of_decide_eq_false (p := x.cps.toList < y.cps.toList) h2
  have e : x.cps.toList = y.cps.toList := List.le_antisymm (List.not_lt.mp a) (List.not_lt.mp b)
  obtain ⟨⟨x⟩⟩ := x
  obtain ⟨⟨y⟩⟩ := y
  have e' : x = y := e
  rw [e']
theorem leS_trans {x y z : Str} (h1 : leS x y) (h2 : leS y z) : leS x z := by
  have a := of_decide_eq_false (p := y.cps.toList < x.cps.toList) h1
  have b := of_decide_eq_false (p := z.cps.toList < y.cps.toList) h2
  exact decide_eq_false (List.not_lt.mpr (List.le_trans (List.not_lt.mp a) (List.not_lt.mp b)))
theorem insS_perm (x : Str) : ∀ l : List Str, (insS x l).Perm (x :: l)
  | [] => .refl _
  | y :: r => by
    unfold insS
    split
    · exact ((insS_perm x r).cons y).trans (.swap x y r)
    · exact .refl _
theorem isortS_perm : ∀ l : List Str, (isortS l).Perm l
  | [] => .refl _
  | x :: r => by
    unfold isortS
    exact (insS_perm x _).trans ((isortS_perm r).cons x)
theorem insS_sorted (x : Str) : ∀ l : List Str, l.Pairwise leS → (insS x l).Pairwise leS
  | [], _ => by simp [insS]
  | y :: r, h => by
    unfold insS
    split
    · rename_i hyx
      refine List.Pairwise.cons (fun z hz => ?_) (insS_sorted x r (List.pairwise_cons.mp h).2)
      rcases List.mem_cons.mp ((insS_perm x r).mem_iff.mp hz) with e | e
      · rw [e]
        rcases leS_total y x with q | q
        · exact q
        · unfold leS at q
          rw [hyx] at q
          cases q
      · exact (List.pairwise_cons.mp h).1 z e
    · rename_i hyx
      have hxy : leS x y := by
        unfold leS
        cases e : strLt y x with
        | false => rfl
        | true => exact absurd e hyx
      refine List.Pairwise.cons (fun z hz => ?_) h
      rcases List.mem_cons.mp hz with e | e
      · rw [e]; exact hxy
      · exact leS_trans hxy ((List.pairwise_cons.mp h).1 z e)
theorem isortS_sorted : ∀ l : List Str, (isortS l).Pairwise leS
  | [] => by simp [isortS]
  | x :: r => by
    unfold isortS
    exact insS_sorted x _ (isortS_sorted r)
theorem ltCps_eq (x y : List Nat) : ltCps x y = decide (x < y) := by
  induction x generalizing y with
  | nil => cases y <;> simp [ltCps]
  | cons a r ih =>
    cases y with
    | nil => simp [ltCps]
    | cons b s =>
      unfold ltCps
      rw [ih]
      by_cases h1 : a < b
      · simp [h1, List.cons_lt_cons_iff]
      · by_cases h2 : a = b
        · subst h2
          simp [List.cons_lt_cons_iff]
        · simp [h1, h2, List.cons_lt_cons_iff]

theorem rising_le : ∀ (p : Str) (l : List Str), PyProof.Rows.risingS p l = true → (p :: l).Pairwise leS
  | p, [], _ => by simp
  | p, x :: r, h => by
    unfold PyProof.Rows.risingS at h
    obtain ⟨h1, h2⟩ := Bool.and_eq_true_iff.mp h
    have ih := rising_le x r h2
    have hpx : leS p x := by
      unfold leS strLt
      rw [← ltCps_eq]
      cases e : ltCps x.cps.toList p.cps.toList with
      | false => rfl
      | true => rw [e] at h1; cases h1
    refine List.Pairwise.cons (fun z hz => ?_) ih
    rcases List.mem_cons.mp hz with e | e
    · rw [e]; exact hpx
    · exact leS_trans hpx ((List.pairwise_cons.mp ih).1 z e)
theorem sortedS_le : ∀ l : List Str, PyProof.Rows.sortedS l = true → l.Pairwise leS
  | [], _ => by simp
  | x :: r, h => rising_le x r h
theorem isortS_eq {a l : List Str} (p : a.Perm l) (h : PyProof.Rows.sortedS a = true) : a = isortS l :=
  (p.trans (isortS_perm l).symm).eq_of_pairwise (fun _ _ _ _ h1 h2 => leS_anti h1 h2) (sortedS_le a h) (isortS_sorted l)
theorem foldl_max (r : List Int) : ∀ x : Int, (r.foldl (fun a b => if a < b then b else a) x = x ∨ r.foldl (fun a b => if a < b then b else a) x ∈ r) ∧ x ≤ r.foldl (fun a b => if a < b then b else a) x ∧ ∀ y ∈ r, y ≤ r.foldl (fun a b => if a < b then b else a) x := by
  induction r with
  | nil => intro x; simp
  | cons z r ih =>
    intro x
    simp only [List.foldl_cons]
    obtain ⟨h1, h2, h3⟩ := ih (if x < z then z else x)
    by_cases hz : x < z
    · rw [if_pos hz] at h1 h2 h3 ⊢
      refine ⟨.inr ?_, by omega, fun y hy => ?_⟩
      · rcases h1 with e | e
        · rw [e]; exact List.mem_cons_self
        · exact List.mem_cons_of_mem _ e
      · rcases List.mem_cons.mp hy with e | e
        · rw [e]; exact h2
        · exact h3 y e
    · rw [if_neg hz] at h1 h2 h3 ⊢
      refine ⟨?_, h2, fun y hy => ?_⟩
      · rcases h1 with e | e
        · exact .inl e
        · exact .inr (List.mem_cons_of_mem _ e)
      · rcases List.mem_cons.mp hy with e | e
        · rw [e]; omega
        · exact h3 y e
theorem foldl_min (r : List Int) : ∀ x : Int, (r.foldl (fun a b => if b < a then b else a) x = x ∨ r.foldl (fun a b => if b < a then b else a) x ∈ r) ∧ r.foldl (fun a b => if b < a then b else a) x ≤ x ∧ ∀ y ∈ r, r.foldl (fun a b => if b < a then b else a) x ≤ y := by
  induction r with
  | nil => intro x; simp
  | cons z r ih =>
    intro x
    simp only [List.foldl_cons]
    obtain ⟨h1, h2, h3⟩ := ih (if z < x then z else x)
    by_cases hz : z < x
    · rw [if_pos hz] at h1 h2 h3 ⊢
      refine ⟨.inr ?_, by omega, fun y hy => ?_⟩
      · rcases h1 with e | e
        · rw [e]; exact List.mem_cons_self
        · exact List.mem_cons_of_mem _ e
      · rcases List.mem_cons.mp hy with e | e
        · rw [e]; exact h2
        · exact h3 y e
    · rw [if_neg hz] at h1 h2 h3 ⊢
      refine ⟨?_, h2, fun y hy => ?_⟩
      · rcases h1 with e | e
        · exact .inl e
        · exact .inr (List.mem_cons_of_mem _ e)
      · rcases List.mem_cons.mp hy with e | e
        · rw [e]; omega
        · exact h3 y e
theorem maxL_mem : ∀ {l : List Int}, l ≠ [] → maxL l ∈ l
  | [], h => absurd rfl h
  | x :: r, _ => by
    show r.foldl (fun a b => if a < b then b else a) x ∈ x :: r
    rcases (foldl_max r x).1 with e | e
    · rw [e]; exact List.mem_cons_self
    · exact List.mem_cons_of_mem _ e
theorem maxL_le : ∀ {l : List Int} {y : Int}, y ∈ l → y ≤ maxL l
  | [], _, h => by cases h
  | x :: r, y, h => by
    unfold maxL
    rcases List.mem_cons.mp h with e | e
    · rw [e]; exact (foldl_max r x).2.1
    · exact (foldl_max r x).2.2 y e
theorem minL_mem : ∀ {l : List Int}, l ≠ [] → minL l ∈ l
  | [], h => absurd rfl h
  | x :: r, _ => by
    show r.foldl (fun a b => if b < a then b else a) x ∈ x :: r
    rcases (foldl_min r x).1 with e | e
    · rw [e]; exact List.mem_cons_self
    · exact List.mem_cons_of_mem _ e
theorem minL_le : ∀ {l : List Int} {y : Int}, y ∈ l → minL l ≤ y
  | [], _, h => by cases h
  | x :: r, y, h => by
    unfold minL
    rcases List.mem_cons.mp h with e | e
    · rw [e]; exact (foldl_min r x).2.1
    · exact (foldl_min r x).2.2 y e

section
variable {w : Wr}
/-- sorted(xs), strs, any number of them -/
def rSortedSA (K : PySem.W.Frag) : List V → Hp → VK → Prop := fun vs H Q => ∃ (a : Addr) (xs : List Str), vs = [V.ref a] ∧ SqL K H a (xs.map V.str) ∧
  ∀ (ys : List Str) (p : Addr), ys.Perm xs → PyProof.Rows.sortedS ys = true → H p = none → Q (.ref p) (upd H p (.lst (ys.map V.str)))
theorem cr_sortedSA {X : Cx} : CallR X (.builtin "sorted") (rSortedSA X.K) := by
  intro pins s σ H vs us Q I r h
  obtain ⟨a, xs, rfl, hs, q⟩ := h
  obtain ⟨its, rv, hl, hz⟩ := I.list hs
  rw [Vals.ref1 r]
  refine PyProof.Rows.sorted_strsAny hl.isList rv.strs (by rw [← rv.length]; exact hz) fun out ys h1 h2 h3 => ?_
  obtain ⟨ep, he'⟩ := PyProof.Rows.sortedAll_at s.heap its out
  have hlen : (ys.map V.str).length ≤ sizeLine := by
    rw [List.length_map, h2.length_eq]
    rw [List.length_map] at hz
    exact hz
  exact ⟨.ref _, upd H (s.heap.objs.size + 1) (.lst (ys.map V.str)), I.laid (t' := s.toks) (fun _ _ => PyProof.Rows.sortedAll_old) (Nat.le_succ _) ⟨hlen, out.toList, ep, vals_of_strs h1, he'⟩, rfl, q ys _ h2 h3 (I.hok.fresh (Nat.le_succ _))⟩
/-! ### built-in functions -/
def Tops (w : Wr) (F H : Hp) : List D → List V → Prop
  | [], vs => vs = []
  | x :: xs, vs => ∃ v r, vs = v :: r ∧ Top w F H x v ∧ Tops w F H xs r
theorem Tops.one {F H : Hp} {x : D} {vs : List V} (h : Tops w F H [x] vs) : ∃ v, vs = [v] ∧ Top w F H x v := by
  obtain ⟨v, r, e, t, h⟩ := h
  have h' : r = [] := h
  subst h'
  exact ⟨v, e, t⟩
theorem Tops.two {F H : Hp} {x y : D} {vs : List V} (h : Tops w F H [x, y] vs) : ∃ v u, vs = [v, u] ∧ Top w F H x v ∧ Top w F H y u := by
  obtain ⟨v, r, e, t, h⟩ := h
  obtain ⟨u, e2, t2⟩ := h.one
  subst e2
  exact ⟨v, u, e, t, t2⟩
def biFn : Bi → Value
  | .len => .builtin "len" | .tuple => .type "tuple" | .list => .type "list" | .sum => .builtin "sum" | .max => .builtin "max" | .min => .builtin "min"
  | .abs => .builtin "abs" | .sorted => .builtin "sorted" | .all => .builtin "all" | .any => .builtin "any" | .int => .type "int" | .str => .type "str"
abbrev RN := List V → Hp → VK → Prop
def rLenSeq (K : PySem.W.Frag) : RN := fun xs H Q => ∃ p ys, xs = [.ref p] ∧ (SqL K H p ys ∨ SqT K H p ys) ∧ Q (.int ys.length) H
def rLenStr : RN := fun xs H Q => ∃ z, xs = [.str z] ∧ z.length ≤ sizeLine ∧ Q (.int z.length) H
def rTupOf (K : PySem.W.Frag) : RN := fun xs H Q => ∃ p ys, xs = [.ref p] ∧ ((SqL K H p ys ∧ ∀ l, H l = none → Q (.ref l) (upd H l (.tup ys))) ∨ (SqT K H p ys ∧ Q (.ref p) H))
def rLstOf (K : PySem.W.Frag) : RN := fun xs H Q => ∃ p ys, xs = [.ref p] ∧ (SqL K H p ys ∨ SqT K H p ys) ∧ ∀ l, H l = none → Q (.ref l) (upd H l (.lst ys))
def rMax2 : RN := fun xs H Q => ∃ i j, xs = [.int i, .int j] ∧ Q (.int (if j > i then j else i)) H
def rMin2 : RN := fun xs H Q => ∃ i j, xs = [.int i, .int j] ∧ Q (.int (if j < i then j else i)) H
def rAbs : RN := fun xs H Q => ∃ i, xs = [.int i] ∧ Q (.int (if i < 0 then -i else i)) H
def rInt1 : RN := fun xs H Q => (∃ i, xs = [.int i] ∧ Q (.int i) H) ∨ ∃ k, xs = [.bl k] ∧ Q (.int (if k then 1 else 0)) H
def rNot : RN := fun _ _ _ => False
def rBi (K : PySem.W.Frag) : Bi → RN
  | .len => fun xs H Q => rLenSeq K xs H Q ∨ rLenStr xs H Q
  | .tuple => rTupOf K
  | .list => rLstOf K
  | .sum => rSum K
  | .max => fun xs H Q => rMax K xs H Q ∨ rMax2 xs H Q
  | .min => fun xs H Q => rMin K xs H Q ∨ rMin2 xs H Q
  | .abs => rAbs
  | .sorted => fun xs H Q => rSortedI K xs H Q ∨ rSortedSA K xs H Q
  | .all => rAll K
  | .any => rAny K
  | .int => rInt1
  | .str => rNot
theorem biR {X : Cx} (hc : X.calm = true) (b : Bi) : CallR X (biFn b) (rBi X.K b) := by
  cases b with
  | len => exact call_len_seq.or call_len_str
  | tuple => exact call_tuple_of
  | list => exact call_list_of
  | sum => exact cr_sum hc
  | max => exact (cr_max hc).or (call_max2 hc)
  | min => exact (cr_min hc).or (call_min2 hc)
  | abs => exact call_abs
  | sorted => exact cr_sortedI.or cr_sortedSA
  | all => exact cr_all hc
  | any => exact cr_any hc
  | int => exact call_int1
  | str => exact fun _ _ _ _ _ _ _ _ _ h => h.elim
def PrimN (w : Wr) (f : List D → Option Vl) (r : RN) : Prop := ∀ (F G H : Hp) (μ : List Addr) (M : Mem) (ds : List D) (vs : List V) (z : Vl) (Q : VK),
  GR w F G H μ M → Tops w F H ds vs → f ds = some z → Wish w F G μ M z Q → r vs H Q
theorem isortI_len (l : List Int) : (isortI l).length = l.length := (isortI_perm l).length_eq
theorem isortS_len (l : List Str) : (isortS l).length = l.length := (isortS_perm l).length_eq
theorem ints_len : ∀ {xs : List D} {ns : List Int}, D.ints? xs = some ns → ns.length = xs.length
  | [], ns, e => by cases e; rfl
  | x :: xs, ns, e => by
    cases x with
    | int i =>
      simp only [D.ints?, Option.map_eq_some_iff] at e
      obtain ⟨ms, e1, e2⟩ := e
      subst e2
      simp [ints_len e1]
    | _ => simp [D.ints?] at e
theorem strs_len : ∀ {xs : List D} {ns : List Str}, D.strs? xs = some ns → ns.length = xs.length
  | [], ns, e => by cases e; rfl
  | x :: xs, ns, e => by
    cases x with
    | str i =>
      simp only [D.strs?, Option.map_eq_some_iff] at e
      obtain ⟨ms, e1, e2⟩ := e
      subst e2
      simp [strs_len e1]
    | _ => simp [D.strs?] at e
theorem prim_bi (b : Bi) : PrimN w (bi b) (rBi w.K b) := by
  intro F G H μ M ds vs z Q g t h k
  unfold bi at h
  split at h
  · obtain ⟨v, e, t⟩ := t.one
    obtain ⟨a, us, e1, h1, z1, r1⟩ := t.lst
    subst e e1
    cases Option.some.inj h
    exact .inl ⟨a, us, rfl, .inl (.of h1), by rw [← r1.length]; exact k.int g⟩
  · obtain ⟨v, e, t⟩ := t.one
    obtain ⟨a, us, e1, h1, z1, r1⟩ := t.tup g.sub
    subst e e1
    cases Option.some.inj h
    exact .inl ⟨a, us, rfl, .inr h1, by rw [← r1.length]; exact k.int g⟩
  · obtain ⟨v, e, t⟩ := t.one
    obtain ⟨a, e1, h1⟩ := t.scr g.sub
    subst e e1
    cases Option.some.inj h
    exact .inl ⟨a, _, rfl, .inl h1, by rw [List.length_map]; exact k.int g⟩
  · obtain ⟨v, e, t⟩ := t.one
    obtain ⟨e1, o1⟩ := t.str
    subst e e1
    cases Option.some.inj h
    exact .inr ⟨_, rfl, okS_len o1, k.int g⟩
  · obtain ⟨v, e, t⟩ := t.one
    obtain ⟨a, us, e1, h1, z1, r1⟩ := t.lst
    subst e e1
    cases Option.some.inj h
    exact ⟨a, us, rfl, .inl ⟨.of h1, k.tup g z1 r1⟩⟩
  · obtain ⟨v, e, t⟩ := t.one
    have t' : DR w F (.tup _) v := t
    obtain ⟨a, us, e1, h1, z1, r1⟩ := t.tup g.sub
    subst e e1
    cases Option.some.inj h
    exact ⟨a, us, rfl, .inr ⟨h1, k.d g t'⟩⟩
  · obtain ⟨v, e, t⟩ := t.one
    obtain ⟨a, us, e1, h1, z1, r1⟩ := t.lst
    subst e e1
    cases Option.some.inj h
    exact ⟨a, us, rfl, .inl (.of h1), k.lst g z1 r1⟩
  · obtain ⟨v, e, t⟩ := t.one
    obtain ⟨a, us, e1, h1, z1, r1⟩ := t.tup g.sub
    subst e e1
    cases Option.some.inj h
    exact ⟨a, us, rfl, .inr h1, k.lst g z1 r1⟩
  · obtain ⟨v, e, t⟩ := t.one
    obtain ⟨a, us, e1, h1, z1, r1⟩ := t.lst
    subst e e1
    obtain ⟨ns, e2, e3⟩ := Option.map_eq_some_iff.mp h
    subst e3
    have e4 := DRs.ints w r1 e2
    subst e4
    exact ⟨a, ns, rfl, .of h1, k.int g⟩
  · obtain ⟨v, e, t⟩ := t.one
    obtain ⟨a, us, e1, h1, z1, r1⟩ := t.lst
    subst e e1
    obtain ⟨ns, e2, e3⟩ := Option.bind_eq_some_iff.mp h
    have e4 := DRs.ints w r1 e2
    subst e4
    split at e3
    · cases e3
    · rename_i hne
      cases Option.some.inj e3
      have hne' : ns ≠ [] := fun q => hne (by rw [q]; rfl)
      refine .inl ⟨a, ns, rfl, .of h1, List.length_pos_iff.mpr hne', fun m hm hb => ?_⟩
      have em : m = maxL ns := Int.le_antisymm (maxL_le hm) (hb _ (maxL_mem hne'))
      rw [em]
      exact k.int g
  · obtain ⟨v, e, t⟩ := t.one
    obtain ⟨a, us, e1, h1, z1, r1⟩ := t.lst
    subst e e1
    obtain ⟨ns, e2, e3⟩ := Option.bind_eq_some_iff.mp h
    have e4 := DRs.ints w r1 e2
    subst e4
    split at e3
    · cases e3
    · rename_i hne
      cases Option.some.inj e3
      have hne' : ns ≠ [] := fun q => hne (by rw [q]; rfl)
      refine .inl ⟨a, ns, rfl, .of h1, List.length_pos_iff.mpr hne', fun m hm hb => ?_⟩
      have em : m = minL ns := Int.le_antisymm (hb _ (minL_mem hne')) (minL_le hm)
      rw [em]
      exact k.int g
  · obtain ⟨v, u, e, t1, t2⟩ := t.two
    cases t1.int
    cases t2.int
    subst e
    cases Option.some.inj h
    exact .inr ⟨_, _, rfl, k.int g⟩
  · obtain ⟨v, u, e, t1, t2⟩ := t.two
    cases t1.int
    cases t2.int
    subst e
    cases Option.some.inj h
    exact .inr ⟨_, _, rfl, k.int g⟩
  · obtain ⟨v, e, t1⟩ := t.one
    cases t1.int
    subst e
    cases Option.some.inj h
    exact ⟨_, rfl, k.int g⟩
  · obtain ⟨v, e, t⟩ := t.one
    obtain ⟨a, us, e1, h1, z1, r1⟩ := t.lst
    subst e e1
    cases Option.some.inj h
    simp only [DRs] at r1
    subst r1
    refine .inl ⟨a, [], rfl, .of h1, fun ns' p hp _ hn => ?_⟩
    have e0 : ns' = [] := hp.eq_nil
    subst e0
    exact k.lst g (Nat.zero_le _) (DRs.nil w) p hn
  · rename_i i xs
    obtain ⟨v, e, t⟩ := t.one
    obtain ⟨a, us, e1, h1, z1, r1⟩ := t.lst
    subst e e1
    obtain ⟨ns, e2, e3⟩ := Option.map_eq_some_iff.mp h
    subst e3
    have e4 := DRs.ints w r1 (ns := i :: ns) (by simp only [D.ints?, e2]; rfl)
    subst e4
    refine .inl ⟨a, i :: ns, rfl, .of h1, fun ns' p hp hs hn => ?_⟩
    rw [isortI_eq hp hs]
    refine k.lst g ?_ (DRs.ofInts w _) p hn
    rw [List.length_map, isortI_len]
    have e5 := ints_len e2
    simp only [List.length_cons] at z1 ⊢
    omega
  · rename_i i xs
    obtain ⟨v, e, t⟩ := t.one
    obtain ⟨a, us, e1, h1, z1, r1⟩ := t.lst
    subst e e1
    obtain ⟨ns, e2, e3⟩ := Option.map_eq_some_iff.mp h
    subst e3
    obtain ⟨e4, e5⟩ := DRs.strs w r1 (ns := i :: ns) (by simp only [D.strs?, e2]; rfl)
    subst e4
    refine .inr ⟨a, i :: ns, rfl, .of h1, fun ns' p hp hs hn => ?_⟩
    rw [isortS_eq hp hs]
    refine k.lst g ?_ (DRs.ofStrs w _ fun s hs => e5 s ((isortS_perm _).mem_iff.mp hs)) p hn
    rw [List.length_map, isortS_len]
    have e6 := strs_len e2
    simp only [List.length_cons] at z1 ⊢
    omega
  · obtain ⟨v, e, t⟩ := t.one
    obtain ⟨a, us, e1, h1, z1, r1⟩ := t.lst
    subst e e1
    obtain ⟨ns, e2, e3⟩ := Option.map_eq_some_iff.mp h
    subst e3
    have e4 := DRs.bls w r1 e2
    subst e4
    exact ⟨a, ns, rfl, .of h1, k.bl g⟩
  · obtain ⟨v, e, t⟩ := t.one
    obtain ⟨a, us, e1, h1, z1, r1⟩ := t.lst
    subst e e1
    obtain ⟨ns, e2, e3⟩ := Option.map_eq_some_iff.mp h
    subst e3
    have e4 := DRs.bls w r1 e2
    subst e4
    exact ⟨a, ns, rfl, .of h1, k.bl g⟩
  · obtain ⟨v, e, t1⟩ := t.one
    cases t1.int
    subst e
    cases Option.some.inj h
    exact .inl ⟨_, rfl, k.int g⟩
  · obtain ⟨v, e, t1⟩ := t.one
    cases t1.bl
    subst e
    cases Option.some.inj h
    exact .inr ⟨_, rfl, k.int g⟩
  · cases h

/-! ### subscripts, slices -/
theorem atI_rel {F : Hp} {xs : List D} {vs : List V} {i : Int} {x : D} (r : DRs w F xs vs) (h : atI xs i = some x) : ∃ v, atI vs i = some v ∧ DR w F x v := by
  unfold atI at h ⊢
  rw [← DRs.length w r]
  obtain ⟨j, e1, e2⟩ := Option.bind_eq_some_iff.mp h
  obtain ⟨v, e3, d⟩ := DRs.get w r e2
  exact ⟨v, by rw [e1]; exact e3, d⟩
theorem okS_one {c : Nat} (h : c < 0x110000) : okS ⟨#[c]⟩ = true := by
  refine Bool.and_eq_true_iff.mpr ⟨?_, decide_eq_true ?_⟩
  · unfold PyData.strOk
    simp [h]
  · show 1 ≤ sizeLine
    rw [sizeLine_eq]
    omega
theorem okS_cp {z : Str} (h : okS z = true) {c : Nat} (hc : c ∈ z.cps.toList) : c < 0x110000 := by
  have h1 := okS_strOk h
  unfold PyData.strOk at h1
  rw [← Array.all_toList] at h1
  exact of_decide_eq_true (List.all_eq_true.mp h1 c hc)
theorem atI_mem {α : Type} {xs : List α} {i : Int} {x : α} (h : atI xs i = some x) : x ∈ xs := by
  unfold atI at h
  obtain ⟨j, _, e2⟩ := Option.bind_eq_some_iff.mp h
  exact List.mem_of_getElem? e2
theorem prim_idx : Prim2 w idx (rIx w.K) := by
  intro F G H μ M dx dy vx vy z Q g tx ty h k
  unfold idx at h
  split at h
  · rename_i xs i
    cases ty.int
    obtain ⟨a, us, e1, h1, z1, r1⟩ := tx.lst
    subst e1
    obtain ⟨x, e2, e3⟩ := Option.map_eq_some_iff.mp h
    subst e3
    obtain ⟨v, e4, d⟩ := atI_rel r1 e2
    exact .inl ⟨a, us, i, v, rfl, rfl, .of h1, e4, k.d g d⟩
  · rename_i xs i
    cases ty.int
    obtain ⟨a, us, e1, h1, z1, r1⟩ := tx.tup g.sub
    subst e1
    obtain ⟨x, e2, e3⟩ := Option.map_eq_some_iff.mp h
    subst e3
    obtain ⟨v, e4, d⟩ := atI_rel r1 e2
    exact .inr (.inl ⟨a, us, i, v, rfl, rfl, h1, e4, k.d g d⟩)
  · rename_i ns i
    cases ty.int
    obtain ⟨a, e1, h1⟩ := tx.scr g.sub
    subst e1
    obtain ⟨x, e2, e3⟩ := Option.map_eq_some_iff.mp h
    subst e3
    refine .inl ⟨a, _, i, .int x, rfl, rfl, h1, ?_, k.int g⟩
    unfold atI at e2 ⊢
    rw [List.length_map]
    obtain ⟨j, e5, e6⟩ := Option.bind_eq_some_iff.mp e2
    rw [e5]
    show (ns.map V.int)[j]? = _
    rw [List.getElem?_map, e6]
    rfl
  · rename_i s i
    cases ty.int
    obtain ⟨e1, o1⟩ := tx.str
    subst e1
    obtain ⟨c, e2, e3⟩ := Option.map_eq_some_iff.mp h
    subst e3
    exact .inr (.inr ⟨s, i, c, rfl, rfl, okS_len o1, e2, k.str g (okS_one (okS_cp o1 (atI_mem e2)))⟩)
  · cases h
def rSlAny (K : PySem.W.Frag) : V → Option Int → Option Int → Hp → VK → Prop := fun x lo hi H Q => rSlL K x lo hi H Q ∨ rSlA K x lo hi H Q ∨ rSlS x lo hi H Q
theorem slAny {X : Cx} : SlR X (rSlAny X.K) := sl_list.or (sl_tupA.or sl_str)
theorem cutD_len {α : Type} (xs : List α) (lo hi : Option Int) : (cutD xs lo hi).length ≤ xs.length := by
  unfold cutD
  rw [List.length_take, List.length_drop]
  omega
theorem cut_rel {F : Hp} {xs : List D} {vs : List V} (r : DRs w F xs vs) (lo hi : Option Int) : DRs w F (cutD xs lo hi) (cutV vs lo hi) := by
  unfold cutD cutV
  rw [← DRs.length w r]
  exact DRs.take w _ (DRs.drop w _ r)
theorem cut_mem {α : Type} {xs : List α} {lo hi : Option Int} {x : α} (h : x ∈ cutD xs lo hi) : x ∈ xs := List.mem_of_mem_drop (List.mem_of_mem_take h)
theorem prim_slice {F G H : Hp} {μ : List Addr} {M : Mem} {x : D} {v : V} {lo hi : Option Int} {z : Vl} {Q : VK} (g : GR w F G H μ M) (t : Top w F H x v) (h : slice x lo hi = some z) (k : Wish w F G μ M z Q) : rSlAny w.K v lo hi H Q := by
  unfold slice at h
  split at h
  · obtain ⟨a, us, e1, h1, z1, r1⟩ := t.lst
    subst e1
    cases Option.some.inj h
    exact .inl ⟨a, us, rfl, .of h1, k.lst g (Nat.le_trans (cutD_len _ _ _) z1) (cut_rel r1 _ _)⟩
  · rename_i xs
    have t' : DR w F (.tup _) v := t
    obtain ⟨a, us, e1, h1, z1, r1⟩ := t.tup g.sub
    subst e1
    cases Option.some.inj h
    refine .inr (.inl ⟨a, us, rfl, h1, fun hw => ?_, fun _ => k.tup g (Nat.le_trans (cutD_len _ _ _) z1) (cut_rel r1 _ _)⟩)
    have e : cutD xs lo hi = xs := by
      unfold cutD
      rw [← DRs.length w r1] at hw
      rw [hw.1, hw.2, List.drop_zero, Nat.sub_zero, List.take_length]
    rw [e] at k
    exact k.d g t'
  · rename_i s
    obtain ⟨e1, o1⟩ := t.str
    subst e1
    cases Option.some.inj h
    refine .inr (.inr ⟨s, rfl, okS_len o1, k.str g ?_⟩)
    refine Bool.and_eq_true_iff.mpr ⟨?_, decide_eq_true ?_⟩
    · unfold PyData.strOk
      rw [← Array.all_toList, List.toList_toArray]
      exact List.all_eq_true.mpr fun c hc => decide_eq_true (okS_cp o1 (cut_mem hc))
    · show (cutD s.cps.toList lo hi).toArray.size ≤ sizeLine
      rw [List.size_toArray]
      refine Nat.le_trans (cutD_len _ _ _) ?_
      rw [Array.length_toList]
      exact okS_len o1
  · cases h

/-! ### isinstance -/
def tyName : Ty → String
  | .int => "int" | .bool => "bool" | .str => "str" | .list => "list" | .tuple => "tuple" | .dict => "dict" | .cls _ => "?"
def dName : D → String
  | .non => "NoneType" | .bl _ => "bool" | .int _ => "int" | .str _ => "str" | .lst _ => "list" | .tup _ => "tuple" | .dic _ => "dict" | _ => "?"
def Ty.blt : Ty → Bool
  | .cls _ => false
  | _ => true
theorem ty_of {F H : Hp} (l : Fle F H) {x : D} {v : V} (hx : x.plainTy = true) (t : Top w F H x v) : TyX w.K H v (.type (dName x)) := by
  cases x with
  | non => cases t.non; exact .base .non
  | bl b => cases t.bl; exact .base (.bl b)
  | int i => cases t.int; exact .base (.int i)
  | str s => obtain ⟨e, _⟩ := t.str; subst e; exact .base (.str s)
  | lst xs =>
    obtain ⟨a, us, e1, h1, z1, r1⟩ := t.lst
    subst e1
    exact .base (.lst h1)
  | tup xs =>
    obtain ⟨a, us, e1, h1, z1, r1⟩ := t.tup l
    subst e1
    rcases h1 with (h1 | ⟨o, h1⟩) | ⟨o, its, n, h1, h2, _⟩
    · exact .base (.tup h1)
    · exact .fTuple h1
    · exact .kTuple h1 h2
  | dic kvs =>
    have t' : DR w F (.dic kvs) v := t
    simp only [DR] at t'
  | ins c fs => cases hx
  | scr ns => cases hx
theorem kit_has {K : PySem.W.Frag} {x : D} {t : Ty} (hx : x.plainTy = true) (ht : t.blt = true) : PySem.W.kitOne K (.type (dName x)) (.type (tyName t)) = some (t.has x) := by
  cases t with
  | cls c => cases ht
  | _ => cases x <;> first | (cases hx; done) | exact kit_ty (by simp only [dName, tyName, Ty.has]; decide +kernel)
theorem kit_any {K : PySem.W.Frag} {x : D} (hx : x.plainTy = true) : ∀ ts : List Ty, ts.all Ty.blt = true → PySem.W.kitAny K (.type (dName x)) (ts.map fun t => .type (tyName t)) = some (ts.any fun t => t.has x)
  | [], _ => rfl
  | t :: ts, h => by
    obtain ⟨h1, h2⟩ := Bool.and_eq_true_iff.mp h
    have ih := kit_any (K := K) hx ts h2
    refine kitAny_cons (kit_has hx h1) (fun e => ?_) (fun e => ?_)
    · rw [List.any_cons, e, Bool.false_or]
      exact ih
    · rw [List.any_cons, e, Bool.true_or]
end
end Pd

/-! Pd6: readings by the evaluator; each construct's reading follows. -/
namespace Pd
open PySem PySem.Spec L2

section
variable (w : Wr)
/-- the dict of an exception holds these fields -/
def ExcR (F H : Hp) (fs : List (Str × D)) (dd : Addr) : Prop := ∃ gs, H dd = some (.xd gs) ∧ ∀ f x, fs.lookup f = some x → ∃ v, gs.lookup f = some v ∧ DR w F x v
/-- an outcome leads to what is wanted -/
def Out {α β : Type} (F G : Hp) (μ : List Addr) (σ : L2.St) (rel : Hp → Hp → α → β → Prop) (r : R α) (Q : β → Hp → Prop) (W : WX) : Prop := match r with
  | .ok a M => ∀ F' H b, Fle F F' → GR w F' G H μ M → rel F' H a b → Q b H
  | .exc c fs M => ∀ F' H dd, Fle F F' → GR w F' G H μ M → ExcR w F' H fs dd → W (.ref (w.ca c)) (some dd) σ H
  | .no => False
def VRs (F : Hp) (μ : List Addr) : List Vl → List V → Prop
  | [], vs => vs = []
  | x :: xs, vs => ∃ v r, vs = v :: r ∧ VR w F μ x v ∧ VRs F μ xs r
abbrev relV (G : Hp) (μ : List Addr) : Hp → Hp → Vl → V → Prop := fun F H x v => RR w F G μ H x v
abbrev relA (μ : List Addr) : Hp → Hp → List Vl → List V → Prop := fun F _ xs vs => VRs w F μ xs vs
abbrev relB : Hp → Hp → Bool → Bool → Prop := fun _ _ a b => a = b
def tE (W : WX) (m : Vars → Mem → R Vl) : TE := fun σ H Q => ∃ F G μ vs M, GR w F G H μ M ∧ SR w F μ vs σ ∧ Out w F G μ σ (relV w G μ) (m vs M) Q W
def tA (W : WX) (m : Vars → Mem → R (List Vl)) : TA := fun σ H Q => ∃ F G μ vs M, GR w F G H μ M ∧ SR w F μ vs σ ∧ Out w F G μ σ (relA w μ) (m vs M) Q W
def tT (W : WX) (m : Vars → Mem → R Bool) : TT := fun σ H Q => ∃ F G μ vs M, GR w F G H μ M ∧ SR w F μ vs σ ∧ Out w F G μ σ relB (m vs M) Q W
end

section
variable {w : Wr} {α β γ δ : Type} {F F' G H : Hp} {μ : List Addr} {σ : L2.St} {rel : Hp → Hp → α → β → Prop} {rel' : Hp → Hp → γ → δ → Prop} {r : R α} {Q Q' : β → Hp → Prop} {W : WX}
theorem Out.le (l : Fle F F') (h : Out w F G μ σ rel r Q W) : Out w F' G μ σ rel r Q W := by
  cases r with
  | ok a M => exact fun F2 H b l2 => h F2 H b (l.trans l2)
  | exc c fs M => exact fun F2 H b l2 => h F2 H b (l.trans l2)
  | no => exact h
theorem Out.imp (h : Out w F G μ σ rel r Q W) (i : ∀ b H, Q b H → Q' b H) : Out w F G μ σ rel r Q' W := by
  cases r with
  | ok a M => exact fun F2 H b l2 g k => i _ _ (h F2 H b l2 g k)
  | exc c fs M => exact h
  | no => exact h
theorem Out.bind1 {f : α → Mem → R γ} {Q : δ → Hp → Prop} (h : Out w F G μ σ rel' (r.bind f) Q W) :
    Out w F G μ σ rel r (fun b H => ∃ a M F', Fle F F' ∧ GR w F' G H μ M ∧ rel F' H a b ∧ r = .ok a M ∧ Out w F' G μ σ rel' (f a M) Q W) W := by
  cases r with
  | ok a M => exact fun F2 H b l2 g k => ⟨a, M, F2, l2, g, k, rfl, Out.le l2 h⟩
  | exc c fs M => exact h
  | no => exact h
theorem Out.lift {o : Option α} {M : Mem} (h : Out w F G μ σ rel (R.lift o M) Q W) : ∃ a, o = some a ∧ Out w F G μ σ rel (.ok a M) Q W := by
  cases o with
  | some a => exact ⟨a, rfl, h⟩
  | none => exact h.elim
theorem VRs.le (l : Fle F F') {xs : List Vl} {vs : List V} (h : VRs w F μ xs vs) : VRs w F' μ xs vs := by
  induction xs generalizing vs with
  | nil => exact h
  | cons x xs ih =>
    obtain ⟨v, r, e, h1, h2⟩ := h
    exact ⟨v, r, e, h1.le l, ih h2⟩
theorem PE.imp {X : Cx} {e : Expr} {t t' : TE} (h : PE X e t) (i : ∀ σ H Q, t' σ H Q → t σ H Q) : PE X e t' := ⟨fun pins s σ H Q I hw => h.run pins s σ H Q I (i σ H Q hw)⟩
theorem PT.imp {X : Cx} {e : Expr} {t t' : TT} (h : PT X e t) (i : ∀ σ H Q, t' σ H Q → t σ H Q) : PT X e t' := ⟨fun pins s σ H Q I hw => h.run pins s σ H Q I (i σ H Q hw)⟩
theorem PW.imp {X : Cx} {e : Expr} {t t' : TT} (h : PW X e t) (i : ∀ σ H Q, t' σ H Q → t σ H Q) : PW X e t' := ⟨fun wh pins s σ H Q I hw => h.run wh pins s σ H Q I (i σ H Q hw)⟩
theorem PA.imp {X : Cx} {e : List Expr} {t t' : TA} (h : PA X e t) (i : ∀ σ H Q, t' σ H Q → t σ H Q) : PA X e t' := ⟨fun pos pins s σ H Q I hw => h.run pos pins s σ H Q I (i σ H Q hw)⟩
theorem PS.imp {X : Cx} {e : Stmt} {t t' : TS} (h : PS X e t) (i : ∀ D σ H, t' D σ H → t D σ H) : PS X e t' := ⟨fun pins s σ H D I hw => h.run pins s σ H D I (i D σ H hw)⟩
theorem PSs.imp {X : Cx} {e : List Stmt} {t t' : TS} (h : PSs X e t) (i : ∀ D σ H, t' D σ H → t D σ H) : PSs X e t' := ⟨fun pins s σ H D I hw => h.run pins s σ H D I (i D σ H hw)⟩
theorem der_frz (M : Mem) (x : Vl) : der M (frz x) = der M x := by cases x <;> rfl
end

section
variable {w : Wr} {W : WX} {σ : L2.St} {H : Hp}
/-- a part is evaluated, its outcome stands frozen -/
theorem tE.step {ma : Vars → Mem → R Vl} {γ δ : Type} {F G : Hp} {μ : List Addr} {vs : Vars} {M : Mem} {rel' : Hp → Hp → γ → δ → Prop} {f : Vl → Mem → R γ} {Q : δ → Hp → Prop} {P : VK}
    (g : GR w F G H μ M) (s : SR w F μ vs σ) (h : Out w F G μ σ rel' ((ma vs M).bind f) Q W)
    (k : ∀ v H1 x M1 F1, GR w F1 G H1 μ M1 → SR w F1 μ vs σ → Fle F F1 → VR w F1 μ (frz x) v → ma vs M = .ok x M1 → Out w F1 G μ σ rel' (f x M1) Q W → P v H1) : tE w W ma σ H P := by
  refine ⟨F, G, μ, vs, M, g, s, (h.bind1 (rel := relV w G μ)).imp fun v H1 ⟨x, M1, F1, l1, g1, r1, e1, h1⟩ => ?_⟩
  obtain ⟨F2, l2, g2, r2⟩ := g1.frz r1
  exact k v H1 x M1 F2 g2 ((s.le l1).le l2) (l1.trans l2) r2 e1 (h1.le l2)
theorem tT.step {ma : Vars → Mem → R Bool} {γ δ : Type} {F G : Hp} {μ : List Addr} {vs : Vars} {M : Mem} {rel' : Hp → Hp → γ → δ → Prop} {f : Bool → Mem → R γ} {Q : δ → Hp → Prop} {P : Bool → Hp → Prop}
    (g : GR w F G H μ M) (s : SR w F μ vs σ) (h : Out w F G μ σ rel' ((ma vs M).bind f) Q W)
    (k : ∀ v H1 M1 F1, GR w F1 G H1 μ M1 → SR w F1 μ vs σ → Fle F F1 → Out w F1 G μ σ rel' (f v M1) Q W → P v H1) : tT w W ma σ H P := by
  refine ⟨F, G, μ, vs, M, g, s, (h.bind1 (rel := relB)).imp fun v H1 ⟨x, M1, F1, l1, g1, r1, _, h1⟩ => ?_⟩
  cases r1
  exact k _ H1 M1 F1 g1 (s.le l1) l1 h1
theorem tA.step {ma : Vars → Mem → R (List Vl)} {γ δ : Type} {F G : Hp} {μ : List Addr} {vs : Vars} {M : Mem} {rel' : Hp → Hp → γ → δ → Prop} {f : List Vl → Mem → R γ} {Q : δ → Hp → Prop} {P : List V → Hp → Prop}
    (g : GR w F G H μ M) (s : SR w F μ vs σ) (h : Out w F G μ σ rel' ((ma vs M).bind f) Q W)
    (k : ∀ us H1 xs M1 F1, GR w F1 G H1 μ M1 → SR w F1 μ vs σ → Fle F F1 → VRs w F1 μ xs us → ma vs M = .ok xs M1 → Out w F1 G μ σ rel' (f xs M1) Q W → P us H1) : tA w W ma σ H P := by
  refine ⟨F, G, μ, vs, M, g, s, (h.bind1 (rel := relA w μ)).imp fun v H1 ⟨x, M1, F1, l1, g1, r1, e1, h1⟩ => ?_⟩
  exact k v H1 x M1 F1 g1 (s.le l1) l1 r1 e1 h1
/-- what an outcome that is there leads to -/
theorem Out.here {α β : Type} {F G : Hp} {μ : List Addr} {M : Mem} {rel : Hp → Hp → α → β → Prop} {a : α} {Q : β → Hp → Prop} {b : β} (h : Out w F G μ σ rel (.ok a M) Q W) (g : GR w F G H μ M) (r : rel F H a b) : Q b H := h F H b Fle.refl g r
theorem Out.wish {F G : Hp} {μ : List Addr} {M : Mem} {z : Vl} {Q : VK} (h : Out w F G μ σ (relV w G μ) (.ok z M) Q W) : Wish w F G μ M z Q := h

theorem imp_var {i : Nat} {Q : VK} (h : tE w W (fun vs M => match vs[i]? with
    | some (some x) => .ok x M
    | _ => .no) σ H Q) : tVar i σ H Q := by
  obtain ⟨F, G, μ, vs, M, g, s, h⟩ := h
  cases e : vs[i]? with
  | none => simp only [e] at h; exact h.elim
  | some o =>
    cases o with
    | none => simp only [e] at h; exact h.elim
    | some x =>
      simp only [e] at h
      obtain ⟨v, e1, r⟩ := s.at_ i x e
      refine ⟨v, e1, Out.here h g ?_⟩
      cases x with
      | d x => exact r
      | loc n => exact r
      | new x => exact r.elim
theorem imp_k {d : D} {v : V} {Q : VK} (hd : ∀ F : Hp, DR w F d v) (h : tE w W (fun _ M => .ok (.d d) M) σ H Q) : tC v σ H Q := by
  obtain ⟨F, G, μ, vs, M, g, s, h⟩ := h
  exact Out.here h g (hd F)
theorem imp_op2 {ma mb : Vars → Mem → R Vl} {f : D → D → Option Vl} {r : R2} (hr : Prim2 w f r) {Q : VK}
    (h : tE w W (fun vs M => (ma vs M).bind fun x M1 => (mb vs M1).bind fun y M2 => R.lift ((der M2 x).bind fun x => (der M2 y).bind fun y => f x y) M2) σ H Q) : tOp r (tE w W ma) (tE w W mb) σ H Q := by
  obtain ⟨F, G, μ, vs, M, g, s, h⟩ := h
  refine tE.step g s h fun v H1 x M1 F1 g1 s1 l1 r1 _ h1 => ?_
  refine tE.step g1 s1 h1 fun u H2 y M2 F2 g2 s2 l2 r2 _ h2 => ?_
  obtain ⟨z, e, h3⟩ := h2.lift
  obtain ⟨dx, ex, e⟩ := Option.bind_eq_some_iff.mp e
  obtain ⟨dy, ey, e⟩ := Option.bind_eq_some_iff.mp e
  exact hr F2 G H2 μ M2 dx dy v u z Q g2 (top_of g2 (r1.le l2) (by rw [der_frz]; exact ex)) (top_of g2 r2 (by rw [der_frz]; exact ey)) e h3.wish
theorem imp_chain {ma mb mc : Vars → Mem → R Vl} {f p : D → D → Option Vl} {r r' : R2} (hr : Prim2 w f r) (hr' : Prim2 w p r') {Q : VK}
    (h : tE w W (fun vs M => (ma vs M).bind fun x M1 => (mb vs M1).bind fun y M2 =>
      match (der M2 x).bind fun x => (der M2 y).bind fun y => (f x y).bind asB with
      | some true => (mc vs M2).bind fun z M3 => R.lift ((der M3 y).bind fun y => (der M3 z).bind fun z => p y z) M3
      | some false => .ok (.d (.bl false)) M2
      | none => .no) σ H Q) : tChain r r' (tE w W ma) (tE w W mb) (tE w W mc) σ H Q := by
  obtain ⟨F, G, μ, vs, M, g, s, h⟩ := h
  refine tE.step g s h fun v H1 x M1 F1 g1 s1 l1 r1 _ h1 => ?_
  refine tE.step g1 s1 h1 fun u H2 y M2 F2 g2 s2 l2 r2 _ h2 => ?_
  cases e : ((der M2 x).bind fun x => (der M2 y).bind fun y => (f x y).bind asB) with
  | none => rw [e] at h2; exact h2.elim
  | some b =>
    rw [e] at h2
    obtain ⟨dx, ex, e⟩ := Option.bind_eq_some_iff.mp e
    obtain ⟨dy, ey, e⟩ := Option.bind_eq_some_iff.mp e
    obtain ⟨z, ez, eb⟩ := Option.bind_eq_some_iff.mp e
    have hz : z = .d (.bl b) := by
      unfold asB at eb
      split at eb
      · cases eb; rfl
      · cases eb
    subst hz
    refine hr F2 G H2 μ M2 dx dy v u _ _ g2 (top_of g2 (r1.le l2) (by rw [der_frz]; exact ex)) (top_of g2 r2 (by rw [der_frz]; exact ey)) ez fun F3 H3 t l3 g3 r3 => ?_
    have et : t = .bl b := by
      have r3' : DR w F3 (.bl b) t := r3
      simpa only [DR] using r3'
    refine ⟨b, et, ?_⟩
    cases b with
    | false =>
      rw [if_neg (by decide)]
      exact Out.here (h2.le l3) g3 (by show DR w F3 (.bl false) (.bl false); simp only [DR])
    | true =>
      rw [if_pos rfl]
      refine tE.step g3 (s2.le l3) (h2.le l3) fun t2 H4 zz M4 F4 g4 s4 l4 r4 _ h4 => ?_
      obtain ⟨z2, e, h5⟩ := h4.lift
      obtain ⟨dy', ey', e⟩ := Option.bind_eq_some_iff.mp e
      obtain ⟨dz, ez, e⟩ := Option.bind_eq_some_iff.mp e
      exact hr' F4 G H4 μ M4 dy' dz u t2 z2 Q g4 (top_of g4 ((r2.le l3).le l4) (by rw [der_frz]; exact ey')) (top_of g4 r4 (by rw [der_frz]; exact ez)) e h5.wish
/-- an expression whose outcome is a bool, as a test -/
theorem imp_test {m : Vars → Mem → R Vl} (hm : ∀ vs M z M', m vs M = .ok z M' → ∃ b, z = .d (.bl b)) {Q : Bool → Hp → Prop}
    (h : tT w W (fun vs M => (m vs M).bind fun x M1 => R.lift ((der M1 x).bind D.truth) M1) σ H Q) : tE w W m σ H fun x H' => ∃ k, x = .bl k ∧ Q k H' := by
  obtain ⟨F, G, μ, vs, M, g, s, h⟩ := h
  refine tE.step g s h fun v H1 x M1 F1 g1 s1 l1 r1 e1 h1 => ?_
  obtain ⟨b, eb⟩ := hm _ _ _ _ e1
  subst eb
  obtain ⟨z, e, h2⟩ := h1.lift
  have ez : b = z := Option.some.inj e
  subst ez
  have r1' : DR w F1 (.bl b) v := r1
  simp only [DR] at r1'
  exact ⟨b, r1', Out.here h2 g1 rfl⟩
theorem tru_of {F G : Hp} {μ : List Addr} {M : Mem} (g : GR w F G H μ M) {x : D} {v : V} {b : Bool} (t : Top w F H x v) (e : x.truth = some b) : TruV w.K v H b := by
  unfold D.truth at e
  split at e
  · cases t.non; cases e; exact rfl
  · cases t.bl; cases e; exact rfl
  · cases t.int; cases e; exact rfl
  · rename_i s
    obtain ⟨e1, o1⟩ := t.str
    subst e1
    cases e
    refine ⟨okS_len o1, ?_⟩
    cases hs : s.length with
    | zero => rfl
    | succ n => rfl
  · rename_i xs
    obtain ⟨a, us, e1, h1, z1, r1⟩ := t.lst
    subst e1
    cases e
    refine .inl ⟨us, .of h1, ?_⟩
    have := r1.length
    cases xs <;> cases us <;> first | rfl | cases this
  · rename_i xs
    obtain ⟨a, us, e1, h1, z1, r1⟩ := t.tup g.sub
    subst e1
    cases e
    refine .inr (.inl ⟨us, h1, ?_⟩)
    have := r1.length
    cases xs <;> cases us <;> first | rfl | cases this
  · cases e
theorem imp_truth {m : Vars → Mem → R Vl} {Q : Bool → Hp → Prop}
    (h : tT w W (fun vs M => (m vs M).bind fun x M1 => R.lift ((der M1 x).bind D.truth) M1) σ H Q) : tE w W m σ H fun x H' => ∃ k, TruV w.K x H' k ∧ Q k H' := by
  obtain ⟨F, G, μ, vs, M, g, s, h⟩ := h
  refine tE.step g s h fun v H1 x M1 F1 g1 s1 l1 r1 e1 h1 => ?_
  obtain ⟨b, e, h2⟩ := h1.lift
  obtain ⟨d, ed, eb⟩ := Option.bind_eq_some_iff.mp e
  exact ⟨b, tru_of g1 (top_of g1 r1 (by rw [der_frz]; exact ed)) eb, Out.here h2 g1 rfl⟩
theorem asB_some {x : Vl} {b : Bool} (h : asB x = some b) : x = .d (.bl b) := by
  unfold asB at h
  split at h
  · cases h; rfl
  · cases h
theorem imp_andV {ma mb : Vars → Mem → R Vl} {Q : VK} (h : tE w W (fun vs M => (ma vs M).bind fun x M1 => match asB x with
        | some true => mb vs M1
        | some false => .ok (.d (.bl false)) M1
        | none => .no) σ H Q) : tAndV (tE w W ma) (tE w W mb) σ H Q := by
  obtain ⟨F, G, μ, vs, M, g, s, h⟩ := h
  refine tE.step g s h fun v H1 x M1 F1 g1 s1 l1 r1 _ h1 => ?_
  cases e : asB x with
  | none => rw [e] at h1; exact h1.elim
  | some b =>
    rw [e] at h1
    have ex := asB_some e
    subst ex
    have r1' : DR w F1 (.bl b) v := r1
    simp only [DR] at r1'
    refine ⟨b, r1', ?_⟩
    cases b with
    | true =>
      rw [if_pos rfl]
      exact ⟨F1, G, μ, vs, M1, g1, s1, h1⟩
    | false =>
      rw [if_neg (by decide)]
      exact Out.here h1 g1 (by show DR w F1 (.bl false) (.bl false); simp only [DR])
theorem imp_orV {ma mb : Vars → Mem → R Vl} {Q : VK} (h : tE w W (fun vs M => (ma vs M).bind fun x M1 => match asB x with
        | some false => mb vs M1
        | some true => .ok (.d (.bl true)) M1
        | none => .no) σ H Q) : tOrV (tE w W ma) (tE w W mb) σ H Q := by
  obtain ⟨F, G, μ, vs, M, g, s, h⟩ := h
  refine tE.step g s h fun v H1 x M1 F1 g1 s1 l1 r1 _ h1 => ?_
  cases e : asB x with
  | none => rw [e] at h1; exact h1.elim
  | some b =>
    rw [e] at h1
    have ex := asB_some e
    subst ex
    have r1' : DR w F1 (.bl b) v := r1
    simp only [DR] at r1'
    refine ⟨b, r1', ?_⟩
    cases b with
    | false =>
      rw [if_neg (by decide)]
      exact ⟨F1, G, μ, vs, M1, g1, s1, h1⟩
    | true =>
      rw [if_pos rfl]
      exact Out.here h1 g1 (by show DR w F1 (.bl true) (.bl true); simp only [DR])
theorem imp_and {ma mb : Vars → Mem → R Bool} {Q : Bool → Hp → Prop} (h : tT w W (fun vs M => (ma vs M).bind fun x M1 => if x then mb vs M1 else .ok false M1) σ H Q) : tAnd (tT w W ma) (tT w W mb) σ H Q := by
  obtain ⟨F, G, μ, vs, M, g, s, h⟩ := h
  refine tT.step g s h fun v H1 M1 F1 g1 s1 l1 h1 => ?_
  cases v with
  | true =>
    rw [if_pos rfl] at h1 ⊢
    exact ⟨F1, G, μ, vs, M1, g1, s1, h1⟩
  | false =>
    rw [if_neg (by decide)] at h1 ⊢
    exact Out.here h1 g1 rfl
theorem imp_or {ma mb : Vars → Mem → R Bool} {Q : Bool → Hp → Prop} (h : tT w W (fun vs M => (ma vs M).bind fun x M1 => if x then .ok true M1 else mb vs M1) σ H Q) : tOr (tT w W ma) (tT w W mb) σ H Q := by
  obtain ⟨F, G, μ, vs, M, g, s, h⟩ := h
  refine tT.step g s h fun v H1 M1 F1 g1 s1 l1 h1 => ?_
  cases v with
  | true =>
    rw [if_pos rfl] at h1 ⊢
    exact Out.here h1 g1 rfl
  | false =>
    rw [if_neg (by decide)] at h1 ⊢
    exact ⟨F1, G, μ, vs, M1, g1, s1, h1⟩
theorem imp_not {ma : Vars → Mem → R Bool} {Q : Bool → Hp → Prop} (h : tT w W (fun vs M => (ma vs M).bind fun x M1 => .ok (!x) M1) σ H Q) : tNot (tT w W ma) σ H Q := by
  obtain ⟨F, G, μ, vs, M, g, s, h⟩ := h
  refine tT.step g s h fun v H1 M1 F1 g1 s1 l1 h1 => ?_
  exact Out.here h1 g1 rfl
theorem imp_ife {mc : Vars → Mem → R Bool} {ma mb : Vars → Mem → R Vl} {Q : VK} (h : tE w W (fun vs M => (mc vs M).bind fun x M1 => if x then ma vs M1 else mb vs M1) σ H Q) : tIf (tT w W mc) (tE w W ma) (tE w W mb) σ H Q := by
  obtain ⟨F, G, μ, vs, M, g, s, h⟩ := h
  refine tT.step g s h fun v H1 M1 F1 g1 s1 l1 h1 => ?_
  cases v with
  | true =>
    rw [if_pos rfl] at h1 ⊢
    exact ⟨F1, G, μ, vs, M1, g1, s1, h1⟩
  | false =>
    rw [if_neg (by decide)] at h1 ⊢
    exact ⟨F1, G, μ, vs, M1, g1, s1, h1⟩
theorem imp_nil {Q : List V → Hp → Prop} (h : tA w W (fun _ M => .ok [] M) σ H Q) : tNil σ H Q := by
  obtain ⟨F, G, μ, vs, M, g, s, h⟩ := h
  exact Out.here h g rfl
theorem imp_cons {ma : Vars → Mem → R Vl} {mr : Vars → Mem → R (List Vl)} {Q : List V → Hp → Prop} (h : tA w W (fun vs M => (ma vs M).bind fun y M1 => (mr vs M1).bind fun ys M2 => .ok (frz y :: ys) M2) σ H Q) : tCons (tE w W ma) (tA w W mr) σ H Q := by
  obtain ⟨F, G, μ, vs, M, g, s, h⟩ := h
  refine tE.step g s h fun v H1 x M1 F1 g1 s1 l1 r1 _ h1 => ?_
  refine tA.step g1 s1 h1 fun us H2 ys M2 F2 g2 s2 l2 r2 _ h2 => ?_
  exact Out.here h2 g2 ⟨v, us, rfl, r1.le l2, r2⟩
/-- a slot's content as data -/
theorem GR.toD {F G : Hp} {μ : List Addr} {M M' : Mem} (g : GR w F G H μ M) {x : Vl} {v : V} {d : D} (r : VR w F μ x v) (e : toD M x = some (d, M')) : ∃ F', Fle F F' ∧ GR w F' G H μ M' ∧ DR w F' d v := by
  cases x with
  | d y => cases e; exact ⟨F, Fle.refl, g, r⟩
  | new y => exact r.elim
  | loc n =>
    obtain ⟨a, ea, ev⟩ := r
    subst ev
    simp only [Pd.toD] at e
    split at e
    · rename_i c hc
      cases e
      exact g.freezeCell hc ea
    · cases e
theorem GR.toDs {G : Hp} {μ : List Addr} : ∀ {xs : List Vl} {vs : List V} {F : Hp} {M M' : Mem} {ds : List D}, GR w F G H μ M → VRs w F μ xs vs → toDs M xs = some (ds, M') → ∃ F', Fle F F' ∧ GR w F' G H μ M' ∧ DRs w F' ds vs
  | [], _, F, M, M', ds, g, r, e => by
    cases e
    have r' : _ = [] := r
    subst r'
    exact ⟨F, Fle.refl, g, DRs.nil w⟩
  | x :: xs, _, F, M, M', ds, g, r, e => by
    obtain ⟨v, us, ev, r1, r2⟩ := r
    subst ev
    unfold Pd.toDs at e
    obtain ⟨⟨d, M1⟩, e1, e2⟩ := Option.bind_eq_some_iff.mp e
    obtain ⟨⟨ds', M2⟩, e3, e4⟩ := Option.map_eq_some_iff.mp e2
    cases e4
    obtain ⟨F1, l1, g1, d1⟩ := g.toD r1 e1
    obtain ⟨F2, l2, g2, d2⟩ := GR.toDs g1 (r2.le l1) e3
    exact ⟨F2, l1.trans l2, g2, DRs.cons w (d1.le w l2) d2⟩
theorem le1000 {n : Nat} (h : n ≤ 1000) : n ≤ sizeLine := by
  rw [sizeLine_eq]
  omega
theorem imp_tup {m : Vars → Mem → R (List Vl)} {Q : VK} (h : tE w W (fun vs M => (m vs M).bind fun xs M1 => match toDs M1 xs with
      | some (ds, M2) => if ds.length ≤ 1000 then .ok (.d (.tup ds)) M2 else .no
      | none => .no) σ H Q) : tTup (tA w W m) σ H Q := by
  obtain ⟨F, G, μ, vs, M, g, s, h⟩ := h
  refine tA.step g s h fun us H1 xs M1 F1 g1 s1 l1 r1 _ h1 => ?_
  cases e : toDs M1 xs with
  | none => rw [e] at h1; exact h1.elim
  | some p =>
    obtain ⟨ds, M2⟩ := p
    rw [e] at h1
    obtain ⟨F2, l2, g2, d2⟩ := g1.toDs r1 e
    simp only at h1
    by_cases hl : ds.length ≤ 1000
    · rw [if_pos hl] at h1
      exact ⟨by rw [← d2.length]; exact le1000 hl, ((h1.le l2).wish).tup g2 (le1000 hl) d2⟩
    · rw [if_neg hl] at h1
      exact h1.elim
theorem imp_lst {m : Vars → Mem → R (List Vl)} {Q : VK} (h : tE w W (fun vs M => (m vs M).bind fun xs M1 => match toDs M1 xs with
      | some (ds, M2) => if ds.length ≤ 1000 then .ok (.new (.lst ds)) M2 else .no
      | none => .no) σ H Q) : tLst (tA w W m) σ H Q := by
  obtain ⟨F, G, μ, vs, M, g, s, h⟩ := h
  refine tA.step g s h fun us H1 xs M1 F1 g1 s1 l1 r1 _ h1 => ?_
  cases e : toDs M1 xs with
  | none => rw [e] at h1; exact h1.elim
  | some p =>
    obtain ⟨ds, M2⟩ := p
    rw [e] at h1
    obtain ⟨F2, l2, g2, d2⟩ := g1.toDs r1 e
    simp only at h1
    by_cases hl : ds.length ≤ 1000
    · rw [if_pos hl] at h1
      exact ⟨by rw [← d2.length]; exact le1000 hl, ((h1.le l2).wish).lst g2 (le1000 hl) d2⟩
    · rw [if_neg hl] at h1
      exact h1.elim
theorem tops_of {F G : Hp} {μ : List Addr} {M : Mem} (g : GR w F G H μ M) : ∀ {xs : List Vl} {vs : List V} {ds : List D}, VRs w F μ xs vs → ders M xs = some ds → Tops w F H ds vs
  | [], _, ds, r, e => by cases e; exact r
  | x :: xs, _, ds, r, e => by
    obtain ⟨v, us, ev, r1, r2⟩ := r
    subst ev
    unfold ders at e
    obtain ⟨d, e1, e2⟩ := Option.bind_eq_some_iff.mp e
    obtain ⟨ds', e3, e4⟩ := Option.map_eq_some_iff.mp e2
    subst e4
    exact ⟨v, us, rfl, top_of g r1 e1, tops_of g r2 e3⟩
theorem imp_bi {m : Vars → Mem → R (List Vl)} {f : List D → Option Vl} {r : RN} (hr : PrimN w f r) {Q : VK} (h : tE w W (fun vs M => (m vs M).bind fun xs M1 => R.lift ((ders M1 xs).bind fun ds => f ds) M1) σ H Q) : tCB r (tA w W m) σ H Q := by
  obtain ⟨F, G, μ, vs, M, g, s, h⟩ := h
  refine tA.step g s h fun us H1 xs M1 F1 g1 s1 l1 r1 _ h1 => ?_
  obtain ⟨z, e, h2⟩ := h1.lift
  obtain ⟨ds, e1, e2⟩ := Option.bind_eq_some_iff.mp e
  exact hr F1 G H1 μ M1 ds us z Q g1 (tops_of g1 r1 e1) e2 h2.wish
end
end Pd

/-! Pd7: subscripts, slices, methods, calls, isinstance, what is walked, comprehensions. -/
namespace Pd
open PySem PySem.Spec L2

section
variable {w : Wr} {W : WX} {σ : L2.St} {H : Hp}
/-! ### slices -/
def tO (w : Wr) (W : WX) (m : Vars → Mem → R (Option Int)) : TO := fun σ H Q => ∃ F G μ vs M, GR w F G H μ M ∧ SR w F μ vs σ ∧ Out w F G μ σ (fun _ _ a b => a = b) (m vs M) Q W
theorem imp_opt0 {r : Vars → Mem → R Vl} {Q : Option Int → Hp → Prop} (h : tO w W (fun vs M => optI (r vs M) true M) σ H Q) : tNoPart σ H Q := by
  obtain ⟨F, G, μ, vs, M, g, s, h⟩ := h
  exact h F H none Fle.refl g rfl
theorem imp_opt1 {r : Vars → Mem → R Vl} {Q : Option Int → Hp → Prop} (h : tO w W (fun vs M => optI (r vs M) false M) σ H Q) : tPart (tE w W r) σ H Q := by
  obtain ⟨F, G, μ, vs, M, g, s, h⟩ := h
  refine tE.step g s (show Out w F G μ σ _ ((r vs M).bind _) Q W from h) fun v H1 x M1 F1 g1 s1 l1 r1 _ h1 => ?_
  cases x with
  | d x =>
    cases x with
    | int i =>
      have r1' : DR w F1 (.int i) v := r1
      simp only [DR] at r1'
      exact ⟨i, r1', h1 F1 H1 (some i) Fle.refl g1 rfl⟩
    | _ => exact h1.elim
  | _ => exact h1.elim
theorem imp_sl {ma : Vars → Mem → R Vl} {ml mh : Vars → Mem → R (Option Int)} {Q : VK} (h : tE w W (fun vs M => (ma vs M).bind fun x M1 => (ml vs M1).bind fun l M2 => (mh vs M2).bind fun u M3 =>
      R.lift ((der M3 x).bind fun x => slice x l u) M3) σ H Q) : tSl (rSlAny w.K) (tE w W ma) (tO w W ml) (tO w W mh) σ H Q := by
  obtain ⟨F, G, μ, vs, M, g, s, h⟩ := h
  refine tE.step g s h fun v H1 x M1 F1 g1 s1 l1 r1 _ h1 => ?_
  refine ⟨F1, G, μ, vs, M1, g1, s1, (h1.bind1 (rel := fun _ _ a b => a = b)).imp fun lo H2 ⟨lo', M2, F2, l2, g2, e2, _, h2⟩ => ?_⟩
  subst e2
  refine ⟨F2, G, μ, vs, M2, g2, s1.le l2, (h2.bind1 (rel := fun _ _ a b => a = b)).imp fun hi H3 ⟨hi', M3, F3, l3, g3, e3, _, h3⟩ => ?_⟩
  subst e3
  obtain ⟨z, e, h4⟩ := h3.lift
  obtain ⟨d, ed, e⟩ := Option.bind_eq_some_iff.mp e
  exact prim_slice g3 (top_of g3 ((r1.le l2).le l3) (by rw [der_frz]; exact ed)) e h4.wish

/-! ### methods -/
def bmId : Bm → String
  | .append => "list.append" | .extend => "list.extend" | .pop => "list.pop" | .reverse => "list.reverse" | .insert => "list.insert" | .index => "list.index" | .count => "list.count" | .join => "str.join"
abbrev RM := V → List V → Hp → VK → Prop
def rInsert : RM := fun x vs H Q => ∃ (l : Addr) (xs : List V) (i : Int) (y : V), x = .ref l ∧ vs = [.int i, y] ∧ H l = some (.lst xs) ∧ xs.length < sizeLine ∧ 0 ≤ i ∧ i < 2 ^ 63 ∧ Q .non (upd H l (.lst (xs.take i.toNat ++ [y] ++ xs.drop i.toNat)))
def rNoM : RM := fun _ _ _ _ => False
/-- how often an equal one stands in a list -/
def rCountD (K : PySem.W.Frag) : RM := fun x xs H Q => ∃ (a : Addr) (y : V) (d : PyData) (ds : List PyData), x = V.ref a ∧ xs = [y] ∧ Dp K H (V.ref a) (.list ds) ∧ Dp K H y d ∧
  SeqAt.shaped (.list ds) = true ∧ SeqAt.shaped d = true ∧ Q (.int ((ds.countP fun z => PyData.eqv z d : Nat) : Int)) H
theorem mt_countD {X : Cx} (hu : X.A.units + 65 < cLine) : MtR X "list.count" (rCountD X.K) := by
  intro pins s σ H x xs v us Q I rx rxs h
  obtain ⟨a, y, d, ds, rfl, rfl, hl, hy, sl, sd, q⟩ := h
  cases rx
  cases rxs with
  | cons ry rt =>
    rename_i uy ut
    cases rt
    obtain ⟨bs, r1⟩ := Dp.reads I d y uy hy ry
    have lay : PyData.canLayAll0 ds = true := SeqAt.canLay_of_shaped sl
    have room : X.A.units + 1 + min (PyData.depthAll ds) d.depth < cLine := PyProof.Rows.room_in_shaped sd hu
    cases hl with
    | lst hs ha =>
      obtain ⟨its, rv, ⟨⟨cls, dd, data, sls⟩, n, ho, hc, hdn, hdt⟩, hlen⟩ := I.list hs
      simp only at hc hdt
      subst hc hdt
      obtain ⟨as, h4⟩ := Dp.readsAll I ds _ its ha rv
      have mp : its.map (SeqAt.readOf s.heap) = ds := SeqAt.readsAll_map ds its as lay h4
      refine call_meets PySem.F.slot_list_count ⟨_, ho, rfl⟩ PySem.F.entry_list_count (PySem.F.args_list_count_2 _ _)
        (SeqAt.list_countAt a its.toArray n dd sls uy fun u => PyData.eqv (SeqAt.readOf s.heap u) d) ⟨ho, SeqAt.items_eqAt (vs := its.toArray) (show ReadsAll s.heap its.toArray.toList ds as from h4) r1 lay (SeqAt.canLay_of_shaped sd) room, ?_⟩
      have ec : its.toArray.toList.countP (fun u => PyData.eqv (SeqAt.readOf s.heap u) d) = ds.countP fun z => PyData.eqv z d := by
        rw [← mp, List.countP_map]
        rfl
      refine ⟨.int ((ds.countP fun z => PyData.eqv z d : Nat) : Int), H, I.tok _, ⟨s.toks, ?_⟩, q⟩
      rw [ec]
def rBm (K : PySem.W.Frag) : Bm → RM
  | .append => rAppend
  | .extend => rExtend
  | .pop => fun x xs H Q => rPop x xs H Q ∨ rPopAt x xs H Q
  | .reverse => rReverse
  | .insert => rInsert
  | .index => rIndexD K
  | .count => rCountD K
  | _ => rNoM
theorem bmR {X : Cx} (hu : X.A.units + 65 < cLine) (m : Bm) : MtR X (bmId m) (rBm X.K m) := by
  cases m with
  | append => exact mt_append
  | extend => exact mt_extend
  | pop => exact MtR.or mt_pop mt_popAt
  | reverse => exact mt_reverse
  | insert => exact mt_insert
  | index => exact mt_indexD hu
  | count => exact mt_countD hu
  | join => exact fun _ _ _ _ _ _ _ _ _ _ _ _ h => h.elim
theorem drs_one {F : Hp} {x : D} {vs : List V} (h : DRs w F [x] vs) : ∃ v, vs = [v] ∧ DR w F x v := by
  simp only [DRs] at h
  obtain ⟨v, r, e, d, h⟩ := h
  subst h
  exact ⟨v, e, d⟩
theorem drs_two {F : Hp} {x y : D} {vs : List V} (h : DRs w F [x, y] vs) : ∃ v u, vs = [v, u] ∧ DR w F x v ∧ DR w F y u := by
  simp only [DRs] at h
  obtain ⟨v, r, e, d, v2, r2, e2, d2, h⟩ := h
  subst h
  subst e2
  exact ⟨v, v2, e, d, d2⟩
theorem drs_nil {F : Hp} {vs : List V} (h : DRs w F [] vs) : vs = [] := by simpa only [DRs] using h
theorem dropLast_rel {F : Hp} {xs : List D} {vs : List V} (h : DRs w F xs vs) : DRs w F xs.dropLast vs.dropLast := by
  rw [List.dropLast_eq_take, List.dropLast_eq_take, ← h.length]
  exact DRs.take w _ h
theorem prim_bmM {F G : Hp} {μ : List Addr} {M : Mem} {m : Bm} {n : Nat} {xs ys : List D} {ds : List D} {d : D} {v : V} {us : List V} {Q : VK} (g : GR w F G H μ M) (hn : M[n]? = some ⟨true, .lst xs⟩) (rv : VR w F μ (.loc n) v)
    (rd : DRs w F ds us) (e : bmM m xs ds = some (ys, d)) (k : ∀ F' H' u, Fle F F' → GR w F' G H' μ (M.set n ⟨true, .lst ys⟩) → DR w F' d u → Q u H') : rBm w.K m v us H Q := by
  obtain ⟨a, ea, ev⟩ := rv
  subst ev
  obtain ⟨b, e1, h1, _⟩ := g.cell n _ hn
  rw [ea] at e1
  cases e1
  obtain ⟨f, kg, o, ho, r⟩ := h1 rfl
  obtain ⟨vs, eo, z, rx⟩ := r
  subst eo
  have wr : ∀ (ws : List V) (hz : ys.length ≤ sizeLine) (hr : DRs w F ys ws), GR w F G (upd H a (.lst ws)) μ (M.set n ⟨true, .lst ys⟩) := fun ws hz hr => g.write hn ea ⟨ws, rfl, hz, hr⟩
  have non : DR w F .non .non := by simp only [DR]
  unfold bmM at e
  split at e
  · rename_i y
    obtain ⟨u, eu, du⟩ := drs_one rd
    subst eu
    split at e
    · rename_i hl
      cases Option.some.inj e
      have hz : (xs ++ [y]).length ≤ sizeLine := by rw [List.length_append, List.length_singleton]; omega
      exact ⟨a, vs, u, rfl, rfl, ho, by rw [← rx.length]; exact hl, k F _ _ Fle.refl (wr _ hz (DRs.app w rx (DRs.cons w du (DRs.nil w)))) non⟩
    · cases e
  · obtain ⟨u, eu, du⟩ := drs_one rd
    subst eu
    simp only [DR] at du
    obtain ⟨b, us2, e2, h2, z2, r2⟩ := du
    subst e2
    split at e
    · rename_i hl
      cases Option.some.inj e
      exact ⟨a, b, vs, us2, rfl, rfl, ho, g.sub _ _ h2, by rw [← rx.length, ← r2.length]; exact hl, k F _ _ Fle.refl (wr _ (by rw [List.length_append]; exact hl) (DRs.app w rx r2)) non⟩
    · cases e
  · have eu := drs_nil rd
    subst eu
    obtain ⟨y, e1, e2⟩ := Option.map_eq_some_iff.mp e
    cases e2
    obtain ⟨u, e3, du⟩ := DRs.get w rx e1
    exact .inl ⟨a, vs, u, rfl, rfl, ho, by rw [← rx.length]; exact e3, k F _ _ Fle.refl (wr _ (Nat.le_trans (by rw [List.length_dropLast]; omega) z) (dropLast_rel rx)) du⟩
  · obtain ⟨u, eu, du⟩ := drs_one rd
    subst eu
    simp only [DR] at du
    subst du
    split at e
    · rename_i hc
      obtain ⟨c1, c2⟩ := Bool.and_eq_true_iff.mp hc
      obtain ⟨kk, e1, e2⟩ := Option.bind_eq_some_iff.mp e
      obtain ⟨y, e3, e4⟩ := Option.map_eq_some_iff.mp e2
      cases e4
      obtain ⟨u, e5, du⟩ := DRs.get w rx e3
      exact .inr ⟨a, vs, _, kk, u, rfl, rfl, ho, of_decide_eq_true c1, of_decide_eq_true c2, by rw [← rx.length]; exact e1, e5,
        k F _ _ Fle.refl (wr _ (Nat.le_trans (len_erase _ _) z) (DRs.erase w _ rx)) du⟩
    · cases e
  · have eu := drs_nil rd
    subst eu
    cases Option.some.inj e
    exact ⟨a, vs, rfl, rfl, ho, k F _ _ Fle.refl (wr _ (by rw [List.length_reverse]; exact z) (DRs.rev w rx)) non⟩
  · obtain ⟨u, u2, eu, du, du2⟩ := drs_two rd
    subst eu
    simp only [DR] at du
    subst du
    split at e
    · rename_i hc
      obtain ⟨c1, hc⟩ := Bool.and_eq_true_iff.mp hc
      obtain ⟨c2, c3⟩ := Bool.and_eq_true_iff.mp hc
      have c1 := of_decide_eq_true c1
      cases Option.some.inj e
      refine ⟨a, vs, _, u2, rfl, rfl, ho, by rw [← rx.length]; exact c1, of_decide_eq_true c2, of_decide_eq_true c3, k F _ _ Fle.refl (wr _ ?_ (DRs.app w (DRs.app w (DRs.take w _ rx) (DRs.cons w du2 (DRs.nil w))) (DRs.drop w _ rx))) non⟩
      simp only [List.length_append, List.length_take, List.length_drop, List.length_singleton]
      omega
    · cases e
  · cases e
theorem tyV_lst {F G : Hp} {μ : List Addr} {M : Mem} {x : Vl} {v : V} {xs : List D} (g : GR w F G H μ M) (r : VR w F μ x v) (e : der M x = some (.lst xs)) : tyV w.K "list" v H := by
  obtain ⟨a, us, e1, h1, _, _⟩ := (top_of g r e).lst
  subst e1
  exact .inl ⟨rfl, us, .of h1⟩
theorem mut_ok {F G : Hp} {μ : List Addr} {M : Mem} {m : Bm} {x : Vl} {v : V} {ds : List D} {us : List V} {Q : VK} (g : GR w F G H μ M) (rv : VR w F μ x v) (rd : DRs w F ds us) (h : Out w F G μ σ (relV w G μ) (mutate m M x ds) Q W) : rBm w.K m v us H Q := by
  unfold mutate at h
  split at h
  · rename_i n
    split at h
    · rename_i xs hn
      split at h
      · rename_i ys d e
        exact prim_bmM g hn rv rd e fun F' H' u l g' r => h F' H' u l g' r
      · exact h.elim
    · exact h.elim
  · exact h.elim
theorem find_rel {y : D} : ∀ {xs : List D} {k : Nat}, findD y xs = some k → ∃ z, xs[k]? = some z ∧ D.eqv z y = true ∧ ∀ (m : Nat) (z' : D), m < k → xs[m]? = some z' → D.eqv z' y = false := fun {xs k} h => by
  unfold findD at h
  obtain ⟨hk, h1, h2⟩ := List.findIdx?_eq_some_iff_getElem.mp h
  refine ⟨xs[k], List.getElem?_eq_getElem hk, h1, fun m z' hm hz => ?_⟩
  have := h2 m hm
  rw [List.getElem?_eq_getElem (Nat.lt_trans hm hk)] at hz
  cases hz
  cases hb : D.eqv xs[m] y with
  | false => rfl
  | true => exact absurd hb this
theorem py_get {xs : List D} {k : Nat} {z : D} (h : xs[k]? = some z) : (D.pys xs)[k]? = some z.py := by
  rw [pys_map, List.getElem?_map, h]
  rfl
theorem py_got {xs : List D} {k : Nat} {z : PyData} (h : (D.pys xs)[k]? = some z) : ∃ x, xs[k]? = some x ∧ z = x.py := by
  rw [pys_map, List.getElem?_map] at h
  obtain ⟨x, e1, e2⟩ := Option.map_eq_some_iff.mp h
  exact ⟨x, e1, e2.symm⟩
theorem prim_index {F G : Hp} {μ : List Addr} {M : Mem} {x : D} {v : V} {ds : List D} {us : List V} {z : Vl} {Q : VK} (g : GR w F G H μ M) (t : Top w F H x v) (ts : Tops w F H ds us) (e : bmP .index x ds = some z) (k : Wish w F G μ M z Q) : rIndexD w.K v us H Q := by
  have e : ixP x ds = some z := e
  unfold ixP at e
  split at e
  · rename_i xs y _
    obtain ⟨u, eu, tu⟩ := ts.one
    subst eu
    split at e
    · rename_i hc
      obtain ⟨c1, c2⟩ := Bool.and_eq_true_iff.mp hc
      obtain ⟨j, e1, e2⟩ := Option.map_eq_some_iff.mp e
      subst e2
      obtain ⟨p1, s1⟩ := shaped_list g.sub c2 t
      obtain ⟨p2, s2⟩ := shaped_top g.sub c1 tu
      obtain ⟨a, ws, ev, _⟩ := t.lst
      subst ev
      obtain ⟨z0, f1, f2, f3⟩ := find_rel e1
      refine ⟨a, u, y.py, D.pys xs, j, z0.py, rfl, rfl, p1, p2, s1, s2, py_get f1, ?_, fun m z' hm hz => ?_, k.int g⟩
      · rw [eqv_py _ _ _ _ (flats_at c2 (List.mem_of_getElem? f1)) c1]
        exact f2
      · obtain ⟨x', g1, g2⟩ := py_got hz
        subst g2
        rw [eqv_py _ _ _ _ (flats_at c2 (List.mem_of_getElem? g1)) c1]
        exact f3 m x' hm g1
    · cases e
  · cases e
theorem count_py {y : D} (hy : D.flat D.deep y = true) : ∀ {xs : List D}, D.flats D.deep xs = true → (D.pys xs).countP (fun z => PyData.eqv z y.py) = xs.countP fun x => D.eqv x y
  | [], _ => rfl
  | x :: xs, h => by
    simp only [D.flats, Bool.and_eq_true] at h
    show (x.py :: D.pys xs).countP _ = _
    rw [List.countP_cons, List.countP_cons, count_py hy h.2, eqv_py _ _ _ _ h.1 hy]
theorem prim_count {F G : Hp} {μ : List Addr} {M : Mem} {x : D} {v : V} {ds : List D} {us : List V} {z : Vl} {Q : VK} (g : GR w F G H μ M) (t : Top w F H x v) (ts : Tops w F H ds us) (e : bmP .count x ds = some z) (k : Wish w F G μ M z Q) : rCountD w.K v us H Q := by
  have e : cntP x ds = some z := e
  unfold cntP at e
  split at e
  · rename_i xs y _
    obtain ⟨u, eu, tu⟩ := ts.one
    subst eu
    split at e
    · rename_i hc
      obtain ⟨c1, c2⟩ := Bool.and_eq_true_iff.mp hc
      cases Option.some.inj e
      obtain ⟨p1, s1⟩ := shaped_list g.sub c2 t
      obtain ⟨p2, s2⟩ := shaped_top g.sub c1 tu
      obtain ⟨a, ws, ev, _⟩ := t.lst
      subst ev
      refine ⟨a, u, y.py, D.pys xs, rfl, rfl, p1, p2, s1, s2, ?_⟩
      rw [count_py c1 c2]
      exact k.int g
    · cases e
  · cases e
end
end Pd

/-! Pd8: methods, calls, isinstance, what is walked, comprehensions: their readings follow. -/
namespace Pd
open PySem PySem.Spec L2

mutual
theorem D.same_eq : ∀ x y : D, D.same x y = true → x = y
  | .non, y, h => by cases y <;> simp_all [D.same]
  | .bl _, y, h => by cases y <;> simp_all [D.same]
  | .int _, y, h => by cases y <;> simp_all [D.same]
  | .str _, y, h => by cases y <;> simp_all [D.same]
  | .scr _, y, h => by cases y <;> simp_all [D.same]
  | .tup xs, y, h => by
    cases y with
    | tup ys => simp only [D.same] at h; rw [D.sames_eq xs ys h]
    | _ => simp [D.same] at h
  | .lst xs, y, h => by
    cases y with
    | lst ys => simp only [D.same] at h; rw [D.sames_eq xs ys h]
    | _ => simp [D.same] at h
  | .dic xs, y, h => by
    cases y with
    | dic ys => simp only [D.same] at h; rw [D.samek_eq xs ys h]
    | _ => simp [D.same] at h
  | .ins c xs, y, h => by
    cases y with
    | ins d ys =>
      simp only [D.same, Bool.and_eq_true, beq_iff_eq] at h
      rw [h.1, D.samef_eq xs ys h.2]
    | _ => simp [D.same] at h
theorem D.sames_eq : ∀ x y : List D, D.sames x y = true → x = y
  | [], [], _ => rfl
  | [], _ :: _, h => by simp [D.sames] at h
  | _ :: _, [], h => by simp [D.sames] at h
  | x :: xs, y :: ys, h => by
    simp only [D.sames, Bool.and_eq_true] at h
    rw [D.same_eq x y h.1, D.sames_eq xs ys h.2]
theorem D.samek_eq : ∀ x y : List (D × D), D.samek x y = true → x = y
  | [], [], _ => rfl
  | [], _ :: _, h => by simp [D.samek] at h
  | _ :: _, [], h => by simp [D.samek] at h
  | (a, x) :: xs, (b, y) :: ys, h => by
    simp only [D.samek, Bool.and_eq_true] at h
    rw [D.same_eq a b h.1, D.same_eq x y h.2.1, D.samek_eq xs ys h.2.2]
theorem D.samef_eq : ∀ x y : List (Str × D), D.samef x y = true → x = y
  | [], [], _ => rfl
  | [], _ :: _, h => by simp [D.samef] at h
  | _ :: _, [], h => by simp [D.samef] at h
  | (a, x) :: xs, (b, y) :: ys, h => by
    simp only [D.samef, Bool.and_eq_true, beq_iff_eq] at h
    rw [h.1, D.same_eq x y h.2.1, D.samef_eq xs ys h.2.2]
end
mutual
theorem D.same_refl : ∀ x : D, D.same x x = true
  | .non => by simp [D.same]
  | .bl _ => by simp [D.same]
  | .int _ => by simp [D.same]
  | .str _ => by simp [D.same]
  | .scr _ => by simp [D.same]
  | .tup xs => by simp only [D.same]; exact D.sames_refl xs
  | .lst xs => by simp only [D.same]; exact D.sames_refl xs
  | .dic xs => by simp only [D.same]; exact D.samek_refl xs
  | .ins c xs => by simp only [D.same, Bool.and_eq_true]; exact ⟨by simp, D.samef_refl xs⟩
theorem D.sames_refl : ∀ x : List D, D.sames x x = true
  | [] => by simp [D.sames]
  | x :: xs => by simp only [D.sames, Bool.and_eq_true]; exact ⟨D.same_refl x, D.sames_refl xs⟩
theorem D.samek_refl : ∀ x : List (D × D), D.samek x x = true
  | [] => by simp [D.samek]
  | (a, x) :: xs => by simp only [D.samek, Bool.and_eq_true]; exact ⟨D.same_refl a, D.same_refl x, D.samek_refl xs⟩
theorem D.samef_refl : ∀ x : List (Str × D), D.samef x x = true
  | [] => by simp [D.samef]
  | (a, x) :: xs => by simp only [D.samef, Bool.and_eq_true]; exact ⟨by simp, D.same_refl x, D.samef_refl xs⟩
end

section
variable {w : Wr} {W : WX} {σ : L2.St} {H : Hp}
/-- a method that changes its list -/
theorem imp_bmMut {m : Bm} {mo : Vars → Mem → R Vl} {ma : Vars → Mem → R (List Vl)} {Q : VK} (hm : m.mut = true)
    (h : tE w W (fun vs M => (mo vs M).bind fun x M1 => if bmTy m (der M1 x) then ((ma vs M1).bind fun xs M2 =>
      if m.mut then (match toDs M2 xs with
        | some (ds, M3) => mutate m M3 (frz x) ds
        | none => .no)
      else R.lift ((der M2 x).bind fun x => (ders M2 xs).bind fun ds => bmP m x ds) M2) else .no) σ H Q) : tBM w.K "list" (rBm w.K m) (tE w W mo) (tA w W ma) σ H Q := by
  obtain ⟨F, G, μ, vs, M, g, s, h⟩ := h
  refine tE.step g s h fun v H1 x M1 F1 g1 s1 l1 r1 _ h1 => ?_
  cases e : der M1 x with
  | none => rw [e] at h1; exact h1.elim
  | some d =>
    rw [e] at h1
    cases d with
    | lst xs =>
      by_cases hb : bmTy m (some (.lst xs)) = true
      · rw [if_pos hb] at h1
        refine ⟨tyV_lst g1 r1 (by rw [der_frz]; exact e), tA.step g1 s1 h1 fun us H2 ys M2 F2 g2 s2 l2 r2 _ h2 => ?_⟩
        rw [if_pos hm] at h2
        cases et : toDs M2 ys with
        | none => rw [et] at h2; exact h2.elim
        | some p =>
          obtain ⟨ds, M3⟩ := p
          rw [et] at h2
          obtain ⟨F3, l3, g3, d3⟩ := g2.toDs r2 et
          exact mut_ok g3 ((r1.le l2).le l3) d3 (h2.le l3)
      · rw [if_neg hb] at h1
        exact h1.elim
    | str z =>
      have hb : bmTy m (some (.str z)) ≠ true := by cases m <;> simp [bmTy, Bm.mut] at hm ⊢
      rw [if_neg hb] at h1
      exact h1.elim
    | _ => exact h1.elim
theorem imp_bmMut0 {m : Bm} {mo : Vars → Mem → R Vl} {Q : VK} (hm : m.mut = true)
    (h : tE w W (fun vs M => (mo vs M).bind fun x M1 => if bmTy m (der M1 x) then (((fun _ M => .ok [] M : Vars → Mem → R (List Vl)) vs M1).bind fun xs M2 =>
      if m.mut then (match toDs M2 xs with
        | some (ds, M3) => mutate m M3 (frz x) ds
        | none => .no)
      else R.lift ((der M2 x).bind fun x => (ders M2 xs).bind fun ds => bmP m x ds) M2) else .no) σ H Q) : tBM0 w.K "list" (rBm w.K m) (tE w W mo) σ H Q := by
  obtain ⟨F, G, μ, vs, M, g, s, h⟩ := h
  obtain ⟨F', G', μ', vs', M', g', s', h'⟩ := imp_bmMut (mo := mo) (ma := fun _ M => .ok [] M) hm ⟨F, G, μ, vs, M, g, s, h⟩
  refine ⟨F', G', μ', vs', M', g', s', h'.imp fun x H1 ⟨t, q⟩ => ⟨t, ?_⟩⟩
  exact imp_nil q
theorem imp_index {mo : Vars → Mem → R Vl} {ma : Vars → Mem → R (List Vl)} {Q : VK}
    (h : tE w W (fun vs M => (mo vs M).bind fun x M1 => if bmTy .index (der M1 x) then ((ma vs M1).bind fun xs M2 =>
      if Bm.index.mut then (match toDs M2 xs with
        | some (ds, M3) => mutate .index M3 (frz x) ds
        | none => .no)
      else R.lift ((der M2 x).bind fun x => (ders M2 xs).bind fun ds => bmP .index x ds) M2) else .no) σ H Q) : tBM w.K "list" (rBm w.K .index) (tE w W mo) (tA w W ma) σ H Q := by
  obtain ⟨F, G, μ, vs, M, g, s, h⟩ := h
  refine tE.step g s h fun v H1 x M1 F1 g1 s1 l1 r1 _ h1 => ?_
  cases e : der M1 x with
  | none => rw [e] at h1; exact h1.elim
  | some d =>
    rw [e] at h1
    cases d with
    | lst xs =>
      rw [if_pos (show bmTy .index (some (.lst xs)) = true from rfl)] at h1
      refine ⟨tyV_lst g1 r1 (by rw [der_frz]; exact e), tA.step g1 s1 h1 fun us H2 ys M2 F2 g2 s2 l2 r2 _ h2 => ?_⟩
      rw [if_neg (show ¬ Bm.index.mut = true by decide)] at h2
      obtain ⟨z, e2, h3⟩ := h2.lift
      obtain ⟨d, e3, e4⟩ := Option.bind_eq_some_iff.mp e2
      obtain ⟨ds, e5, e6⟩ := Option.bind_eq_some_iff.mp e4
      exact prim_index g2 (top_of g2 (r1.le l2) (by rw [der_frz]; exact e3)) (tops_of g2 r2 e5) e6 h3.wish
    | _ => exact h1.elim
theorem imp_count {mo : Vars → Mem → R Vl} {ma : Vars → Mem → R (List Vl)} {Q : VK}
    (h : tE w W (fun vs M => (mo vs M).bind fun x M1 => if bmTy .count (der M1 x) then ((ma vs M1).bind fun xs M2 =>
      if Bm.count.mut then (match toDs M2 xs with
        | some (ds, M3) => mutate .count M3 (frz x) ds
        | none => .no)
      else R.lift ((der M2 x).bind fun x => (ders M2 xs).bind fun ds => bmP .count x ds) M2) else .no) σ H Q) : tBM w.K "list" (rBm w.K .count) (tE w W mo) (tA w W ma) σ H Q := by
  obtain ⟨F, G, μ, vs, M, g, s, h⟩ := h
  refine tE.step g s h fun v H1 x M1 F1 g1 s1 l1 r1 _ h1 => ?_
  cases e : der M1 x with
  | none => rw [e] at h1; exact h1.elim
  | some d =>
    rw [e] at h1
    cases d with
    | lst xs =>
      rw [if_pos (show bmTy .count (some (.lst xs)) = true from rfl)] at h1
      refine ⟨tyV_lst g1 r1 (by rw [der_frz]; exact e), tA.step g1 s1 h1 fun us H2 ys M2 F2 g2 s2 l2 r2 _ h2 => ?_⟩
      rw [if_neg (show ¬ Bm.count.mut = true by decide)] at h2
      obtain ⟨z, e2, h3⟩ := h2.lift
      obtain ⟨d, e3, e4⟩ := Option.bind_eq_some_iff.mp e2
      obtain ⟨ds, e5, e6⟩ := Option.bind_eq_some_iff.mp e4
      exact prim_count g2 (top_of g2 (r1.le l2) (by rw [der_frz]; exact e3)) (tops_of g2 r2 e5) e6 h3.wish
    | _ => exact h1.elim
/-- what a text's join asks -/
def rJoin (K : PySem.W.Frag) : RM := fun x xs H Q => ∃ a p, ∃ ys : List Str, x = .str a ∧ xs = [.ref p] ∧ (SqL K H p (ys.map V.str) ∨ SqT K H p (ys.map V.str)) ∧
    (ys.map (·.length)).sum + ys.length * a.length ≤ 16777216 ∧ Q (.str (Txt.join a ys)) H
theorem okS_join {a : Str} (ha : okS a = true) : ∀ ys : List Str, (∀ y ∈ ys, okS y = true) → (ys.map (·.length)).sum + ys.length * a.length ≤ 16777216 → okS (Str.join a ys) = true
  | [], _, _ => by
    show okS Str.empty = true
    decide +kernel
  | [y], h, _ => h y (List.mem_singleton.mpr rfl)
  | x :: y :: r, h, hz => by
    simp only [List.map_cons, List.sum_cons, List.length_cons] at hz
    have hs : sizeLine = 16777216 := sizeLine_eq
    have e1 : (r.length + 1 + 1) * a.length = (r.length + 1) * a.length + a.length := by rw [Nat.succ_mul]
    have ih := okS_join ha (y :: r) (fun z hz => h z (List.mem_cons_of_mem _ hz)) (by simp only [List.map_cons, List.sum_cons, List.length_cons]; omega)
    have hl : (Str.join a (y :: r)).length ≤ ((y :: r).map (·.length)).sum + (y :: r).length * a.length := by
      clear ih hz h
      generalize hn : y :: r = l
      clear hn
      induction l with
      | nil => exact Nat.zero_le _
      | cons p l ih =>
        cases l with
        | nil => simp [Str.join]
        | cons q l =>
          have e : (Str.join a (p :: q :: l)).length = p.length + a.length + (Str.join a (q :: l)).length := by
            show (p ++ a ++ Str.join a (q :: l)).cps.size = _
            show (p.cps ++ a.cps ++ (Str.join a (q :: l)).cps).size = _
            rw [Array.size_append, Array.size_append]
            rfl
          rw [e]
          simp only [List.map_cons, List.sum_cons, List.length_cons] at ih ⊢
          have e2 : (l.length + 1 + 1) * a.length = (l.length + 1) * a.length + a.length := by rw [Nat.succ_mul]
          omega
    simp only [List.map_cons, List.sum_cons, List.length_cons] at hl
    have hx := okS_len (h x List.mem_cons_self)
    have hla : (x ++ a).length = x.length + a.length := by
      show (x.cps ++ a.cps).size = _
      rw [Array.size_append]
      rfl
    exact okS_add (okS_add (h x List.mem_cons_self) ha (by omega)) ih (by omega)
theorem imp_join {mo ma : Vars → Mem → R Vl} {Q : VK}
    (h : tE w W (fun vs M => (mo vs M).bind fun x M1 => if bmTy .join (der M1 x) then (((fun vs M => (ma vs M).bind fun y M1 => R.bind (.ok [] M1) fun ys M2 => .ok (frz y :: ys) M2 : Vars → Mem → R (List Vl)) vs M1).bind fun xs M2 =>
      if Bm.join.mut then (match toDs M2 xs with
        | some (ds, M3) => mutate .join M3 (frz x) ds
        | none => .no)
      else R.lift ((der M2 x).bind fun x => (ders M2 xs).bind fun ds => bmP .join x ds) M2) else .no) σ H Q) : tM1 (rJoin w.K) (tE w W mo) (tE w W ma) σ H Q := by
  obtain ⟨F, G, μ, vs, M, g, s, h⟩ := h
  refine tE.step g s h fun v H1 x M1 F1 g1 s1 l1 r1 _ h1 => ?_
  cases e : der M1 x with
  | none => rw [e] at h1; exact h1.elim
  | some d =>
    rw [e] at h1
    cases d with
    | str a =>
      rw [if_pos (show bmTy .join (some (.str a)) = true from rfl)] at h1
      obtain ⟨e1, o1⟩ := (top_of g1 r1 (by rw [der_frz]; exact e)).str
      subst e1
      refine ⟨⟨a, rfl⟩, ?_⟩
      have h1' : Out w F1 G μ σ (relV w G μ) ((ma vs M1).bind fun y M2 => (R.ok [frz y] M2 : R (List Vl)).bind fun xs M2 =>
          if Bm.join.mut then (match toDs M2 xs with
            | some (ds, M3) => mutate .join M3 (frz x) ds
            | none => .no)
          else R.lift ((der M2 x).bind fun x => (ders M2 xs).bind fun ds => bmP .join x ds) M2) Q W := by
        dsimp only at h1
        cases hma : ma vs M1 with
        | ok y M2 => rw [hma] at h1; exact h1
        | exc c fs M2 => rw [hma] at h1; exact h1
        | no => rw [hma] at h1; exact h1
      refine tE.step g1 s1 h1' fun u H2 y M2 F2 g2 s2 l2 r2 _ h2 => ?_
      have h2' : Out w F2 G μ σ (relV w G μ) (R.lift ((der M2 x).bind fun x => (ders M2 [frz y]).bind fun ds => bmP .join x ds) M2) Q W := h2
      obtain ⟨z, e2, h3⟩ := h2'.lift
      obtain ⟨d, e3, e4⟩ := Option.bind_eq_some_iff.mp e2
      obtain ⟨ds, e5, e6⟩ := Option.bind_eq_some_iff.mp e4
      have ts := tops_of (w := w) (xs := [frz y]) (vs := [u]) g2 ⟨u, [], rfl, r2, rfl⟩ e5
      have e6 : joinP d ds = some z := e6
      unfold joinP at e6
      split at e6
      · rename_i a' ys
        have ta := top_of g2 (r1.le l2) (by rw [der_frz]; exact e3)
        obtain ⟨ea, oa⟩ := ta.str
        cases ea
        obtain ⟨u', eu, tu⟩ := ts.one
        cases eu
        obtain ⟨p, us, ep, hp, zp, rp⟩ := tu.lst
        subst ep
        obtain ⟨ss, f1, f2⟩ := Option.bind_eq_some_iff.mp e6
        obtain ⟨k1, k2⟩ := DRs.strs w rp f1
        subst k1
        split at f2
        · rename_i hsz
          cases Option.some.inj f2
          exact ⟨_, p, ss, rfl, rfl, .inl (.of hp), hsz, by rw [TL.join_eq]; exact h3.wish.str g2 (okS_join oa ss k2 hsz)⟩
        · cases f2
      · cases e6
    | _ => exact h1.elim

/-! ### calls of own defs -/
/-- what a def promises by the evaluator: np arguments -/
def spC (w : Wr) (np : Nat) (C : List Vl → Mem → R Vl) : Sp := fun vs H Q E => vs.length = np ∧ ∃ F G μ M args, GR w F G H μ M ∧ VRs w F μ args vs ∧ Out w F G μ [] (relV w G μ) (C args M) Q (fun c d _ H => E c d H)
theorem VRs.length {F : Hp} {μ : List Addr} : ∀ {xs : List Vl} {vs : List V}, VRs w F μ xs vs → xs.length = vs.length
  | [], _, h => by
    have h' : _ = [] := h
    subst h'
    rfl
  | x :: xs, _, h => by
    obtain ⟨v, r, e, _, h2⟩ := h
    subst e
    simp [VRs.length h2]
theorem VRs.app {F : Hp} {μ : List Addr} : ∀ {xs : List Vl} {vs : List V} {ys : List Vl} {us : List V}, VRs w F μ xs vs → VRs w F μ ys us → VRs w F μ (xs ++ ys) (vs ++ us)
  | [], _, _, _, h, k => by
    have h' : _ = [] := h
    subst h'
    exact k
  | x :: xs, _, _, _, h, k => by
    obtain ⟨v, r, e, h1, h2⟩ := h
    subst e
    exact ⟨v, r ++ _, rfl, h1, VRs.app h2 k⟩
theorem Out.unSt {α β : Type} {F G : Hp} {μ : List Addr} {σ' : L2.St} {rel : Hp → Hp → α → β → Prop} {r : R α} {Q : β → Hp → Prop} {W' : WX} (h : Out w F G μ σ rel r Q W) (i : ∀ c d H, W c d σ H → W' c d σ' H) : Out w F G μ σ' rel r Q W' := by
  cases r with
  | ok a M => exact h
  | exc c fs M => exact fun F' H dd l g x => i _ _ _ (h F' H dd l g x)
  | no => exact h
theorem imp_call {ma : Vars → Mem → R (List Vl)} {C C' : List Vl → Mem → R Vl} {np : Nat} {dvs : List V} {Q : VK} (dfl : List Vl)
    (hn : ∀ vs M xs M1, ma vs M = .ok xs M1 → xs.length + dvs.length = np) (hd : ∀ F μ, VRs w F μ dfl dvs) (hC : ∀ vs M xs M1, ma vs M = .ok xs M1 → C xs M1 = C' (xs ++ dfl) M1)
    (h : tE w W (fun vs M => (ma vs M).bind fun xs M1 => C xs M1) σ H Q) : tCallSD (spC w np C') dvs (WE W) (tA w W ma) σ H Q := by
  obtain ⟨F, G, μ, vs, M, g, s, h⟩ := h
  refine tA.step g s h fun us H1 xs M1 F1 g1 s1 l1 r1 e1 h1 => ?_
  refine ⟨?_, F1, G, μ, M1, xs ++ dfl, g1, r1.app (hd F1 μ), ?_⟩
  · rw [List.length_append, ← r1.length]
    exact hn _ _ _ _ e1
  · rw [← hC _ _ _ _ e1]
    exact h1.unSt fun c d H q => q
/-! ### isinstance -/
def tTys : List Ty → TA
  | [] => tNil
  | t :: r => tCons (tC (.ty (tyName t))) (tTys r)
theorem tys_run (ts : List Ty) (Q : List V → Hp → Prop) (h : Q (ts.map fun t => .ty (tyName t)) H) : tTys ts σ H Q := by
  induction ts generalizing Q with
  | nil => exact h
  | cons t r ih => exact ih (fun xs H2 => Q (.ty (tyName t) :: xs) H2) h
theorem imp_isi1 {t : Ty} {ma : Vars → Mem → R Vl} {Q : VK} (ht : t.blt = true) (h : tE w W (fun vs M => (ma vs M).bind fun x M1 => R.lift ((der M1 x).bind (isi [t])) M1) σ H Q) :
    tCB (rIsi w.K) (tCons (tE w W ma) (tTys [t])) σ H Q := by
  obtain ⟨F, G, μ, vs, M, g, s, h⟩ := h
  refine tE.step g s h fun v H1 x M1 F1 g1 s1 l1 r1 _ h1 => tys_run [t] _ ?_
  obtain ⟨z, e, h2⟩ := h1.lift
  obtain ⟨d, ed, e⟩ := Option.bind_eq_some_iff.mp e
  unfold isi at e
  split at e
  · rename_i hp
    cases Option.some.inj e
    have k := kit_has (K := w.K) hp ht
    rw [List.any_cons, List.any_nil, Bool.or_false] at h2
    exact ⟨v, .ty (tyName t), _, _, _, rfl, .ty _, ty_of g1.sub hp (top_of g1 r1 (by rw [der_frz]; exact ed)), k, h2.wish.bl g1⟩
  · cases e
theorem tys_cls (ts : List Ty) : Paired ClsV (ts.map fun t => V.ty (tyName t)) (ts.map fun t => Value.type (tyName t)) := by
  induction ts with
  | nil => exact .nil
  | cons t r ih => exact .cons (.ty _) ih
theorem imp_isiT {ts : List Ty} {ma : Vars → Mem → R Vl} {Q : VK} (ht : ts.all Ty.blt = true) (hl : ts.length ≤ 1000) (h : tE w W (fun vs M => (ma vs M).bind fun x M1 => R.lift ((der M1 x).bind (isi ts)) M1) σ H Q) :
    tCB (rIsiT w.K) (tCons (tE w W ma) (tCons (tTup (tTys ts)) tNil)) σ H Q := by
  obtain ⟨F, G, μ, vs, M, g, s, h⟩ := h
  refine tE.step g s h fun v H1 x M1 F1 g1 s1 l1 r1 _ h1 => tys_run ts _ ?_
  obtain ⟨z, e, h2⟩ := h1.lift
  obtain ⟨d, ed, e⟩ := Option.bind_eq_some_iff.mp e
  unfold isi at e
  split at e
  · rename_i hp
    cases Option.some.inj e
    refine ⟨by rw [List.length_map]; exact le1000 hl, fun p hn => ?_⟩
    have g2 := g1.grow (o := .tup (ts.map fun t => V.ty (tyName t))) hn
    exact ⟨v, p, _, _, ts.map fun t => .type (tyName t), _, rfl, upd_same, tys_cls ts, ty_of g2.sub hp (top_of g2 r1 (by rw [der_frz]; exact ed)), kit_any hp ts ht, h2.wish.bl g2⟩
  · cases e
end
end Pd

/-! Pd9: what is walked, comprehensions. -/
namespace Pd
open PySem PySem.Spec L2

section
variable {w : Wr} {W : WX} {σ : L2.St} {H : Hp} {μ : List Addr}
theorem pre_get {μ μ' : List Addr} (p : μ <+: μ') {n : Nat} {a : Addr} (e : μ[n]? = some a) : μ'[n]? = some a := by
  obtain ⟨t, e1⟩ := p
  rw [← e1, List.getElem?_append_left (List.getElem?_eq_some_iff.mp e).1]
  exact e
/-- a row's items are drawn as they stand -/
def ItOk (w : Wr) (μ : List Addr) (J : It) (xs : List D) (gd : Gd) (F : Hp) : Prop :=
  xs.length ≤ sizeLine ∧ ∀ (i : Nat) (F' G' H' : Hp) (μ' : List Addr) (M' : Mem), Fle F F' → μ <+: μ' → GR w F' G' H' μ' M' → chkG gd M' = true →
    (∀ x, xs[i]? = some x → J.go i H' ∧ ∀ v H2, J.yld i H' v H2 → ∃ F2, Fle F' F2 ∧ GR w F2 G' H2 μ' M' ∧ DR w F2 x v) ∧ (xs[i]? = none → J.stop i H')
abbrev relI (w : Wr) (μ : List Addr) : Hp → Hp → List D × Gd → It → Prop := fun F _ p J => ItOk w μ J p.1 p.2 F
def tI (w : Wr) (W : WX) (m : Vars → Mem → R (List D × Gd)) : TI := fun σ H R => ∃ F G μ vs M, GR w F G H μ M ∧ SR w F μ vs σ ∧ Out w F G μ σ (relI w μ) (m vs M) R W
def SqK (K : PySem.W.Frag) (k : Bool) (H : Hp) (a : Addr) (us : List V) : Prop := match k with
  | false => SqL K H a us
  | true => SqT K H a us
/-- a list or tuple at a value, as long as what must stay stays -/
def Sq (w : Wr) (μ : List Addr) (k : Bool) (xs : List D) (gd : Gd) (F : Hp) (a : Addr) : Prop :=
  xs.length ≤ sizeLine ∧ ∀ (F' G' H' : Hp) (μ' : List Addr) (M' : Mem), Fle F F' → μ <+: μ' → GR w F' G' H' μ' M' → chkG gd M' = true → ∃ us, SqK w.K k H' a us ∧ DRs w F' xs us
theorem chk_app {g g' : Gd} {M : Mem} (h : chkG (g ++ g') M = true) : chkG g M = true ∧ chkG g' M = true := by
  unfold chkG at h ⊢
  rw [List.all_append, Bool.and_eq_true] at h
  exact h
theorem seq_ok {F G : Hp} {M : Mem} (g : GR w F G H μ M) {x : Vl} {v : V} (r : VR w F μ x v) {k : Bool} {xs : List D} {gd : Gd} (e : seqOf M x = some (k, xs, gd)) : ∃ a, v = .ref a ∧ Sq w μ k xs gd F a ∧ chkG gd M = true := by
  unfold seqOf at e
  split at e
  · cases e
    have r' : DR w F (.lst xs) v := r
    simp only [DR] at r'
    obtain ⟨a, us, e1, h1, z, d⟩ := r'
    exact ⟨a, e1, ⟨z, fun F' G' H' μ' M' l pf g' _ => ⟨us, .of (g'.sub _ _ (l _ _ h1)), d.le w l⟩⟩, rfl⟩
  · exact r.elim
  · cases e
    have r' : DR w F (.tup xs) v := r
    simp only [DR] at r'
    obtain ⟨a, us, e1, h1, z, d⟩ := r'
    exact ⟨a, e1, ⟨z, fun F' G' H' μ' M' l pf g' _ => ⟨us, SqT.le g'.sub (SqT.le l h1), d.le w l⟩⟩, rfl⟩
  · rename_i n
    obtain ⟨a, ea, ev⟩ := r
    subst ev
    split at e
    · rename_i l ys hn
      cases e
      refine ⟨a, rfl, ?_⟩
      obtain ⟨b, e1, h1, h2⟩ := g.cell n _ hn
      rw [ea] at e1
      cases e1
      cases l with
      | false =>
        obtain ⟨_, q⟩ := h2 rfl
        simp only [DR] at q
        obtain ⟨a', us, e1, h1, z, d⟩ := q
        cases e1
        exact ⟨⟨z, fun F' G' H' μ' M' l pf g' _ => ⟨us, .of (g'.sub _ _ (l _ _ h1)), d.le w l⟩⟩, rfl⟩
      | true =>
        obtain ⟨_, _, o, ho, us, eo, z, d⟩ := h1 rfl
        refine ⟨⟨z, fun F' G' H' μ' M' l pf g' hc => ?_⟩, ?_⟩
        · have hc1 : chk1 M' (n, ⟨true, .lst xs⟩) = true := by
            have q : ((chk1 M' (n, ⟨true, .lst xs⟩)) && true) = true := hc
            rw [Bool.and_true] at q
            exact q
          unfold chk1 at hc1
          split at hc1
          · rename_i c hcn
            obtain ⟨c1, c2⟩ := Bool.and_eq_true_iff.mp hc1
            have ed := D.same_eq _ _ c2
            obtain ⟨b, e1, k1, _⟩ := g'.cell n c hcn
            rw [pre_get pf ea] at e1
            cases e1
            obtain ⟨_, _, o', ho', q⟩ := k1 c1
            rw [← ed] at q
            obtain ⟨us', eo', _, d'⟩ := q
            subst eo'
            exact ⟨us', .of ho', d'⟩
          · cases hc1
        · show ((chk1 M (n, ⟨true, .lst xs⟩)) && true) = true
          rw [Bool.and_true]
          unfold chk1
          rw [hn]
          simp [D.same_refl]
    · cases e
  · cases e
theorem it_list {xs : List D} {gd : Gd} {F : Hp} {a : Addr} (s : Sq w μ false xs gd F a) : ItOk w μ (Itl w.K a) xs gd F := by
  refine ⟨s.1, fun i F' G' H' μ' M' l pf g hc => ?_⟩
  obtain ⟨us, hs, d⟩ := s.2 F' G' H' μ' M' l pf g hc
  refine ⟨fun x hx => ?_, fun hn => ⟨us, hs, ?_⟩⟩
  · obtain ⟨v, hv, dv⟩ := DRs.get w d hx
    refine ⟨⟨us, v, hs, hv⟩, fun u H2 hy => ?_⟩
    obtain ⟨e1, e2⟩ := hy
    subst e1
    have := (e2 us hs).symm.trans hv
    cases this
    exact ⟨F', Fle.refl, g, dv⟩
  · have := List.getElem?_eq_none_iff.mp hn
    rw [← d.length]
    exact this
theorem it_tup {xs : List D} {gd : Gd} {F : Hp} {a : Addr} (s : Sq w μ true xs gd F a) : ItOk w μ (Itt w.K a) xs gd F := by
  refine ⟨s.1, fun i F' G' H' μ' M' l pf g hc => ?_⟩
  obtain ⟨us, hs, d⟩ := s.2 F' G' H' μ' M' l pf g hc
  refine ⟨fun x hx => ?_, fun hn => ⟨us, hs, ?_⟩⟩
  · obtain ⟨v, hv, dv⟩ := DRs.get w d hx
    refine ⟨⟨us, v, hs, hv⟩, fun u H2 hy => ?_⟩
    obtain ⟨e1, e2⟩ := hy
    subst e1
    have := (e2 us hs).symm.trans hv
    cases this
    exact ⟨F', Fle.refl, g, dv⟩
  · have := List.getElem?_eq_none_iff.mp hn
    rw [← d.length]
    exact this
theorem it_str {z : Str} {F : Hp} (h : okS z = true) : ItOk w μ (Its z) (chars z) [] F := by
  have hl : (chars z).length = z.cps.size := by unfold chars; rw [List.length_map, Array.length_toList]
  refine ⟨by rw [hl]; exact okS_len h, fun i F' G' H' μ' M' l pf g hc => ⟨fun x hx => ?_, fun hn => ?_⟩⟩
  · have hi : i < z.cps.size := by rw [← hl]; exact (List.getElem?_eq_some_iff.mp hx).1
    refine ⟨hi, fun v H2 hy => ?_⟩
    obtain ⟨e, c, ec, ev⟩ := hy
    subst e ev
    have ex : x = .str ⟨#[c]⟩ := by
      unfold chars at hx
      rw [List.getElem?_map, Array.getElem?_toList, ec] at hx
      exact (Option.some.inj hx).symm
    subst ex
    refine ⟨F', Fle.refl, g, ?_⟩
    simp only [DR]
    exact ⟨trivial, okS_one (okS_cp h (List.mem_of_getElem? (by rw [Array.getElem?_toList]; exact ec)))⟩
  · have := List.getElem?_eq_none_iff.mp hn
    rw [hl] at this
    exact this
theorem it_rng {lo hi : Int} {F : Hp} (h : rngOk lo hi = true) : ItOk w μ (Itr lo (hi - lo).toNat) (rangeD lo hi) [] F := by
  unfold rngOk at h
  simp only [Bool.and_eq_true, decide_eq_true_eq] at h
  have hl : (rangeD lo hi).length = (hi - lo).toNat := by unfold rangeD; rw [List.length_map, List.length_range]
  refine ⟨by rw [hl]; exact h.2.2.2.2, fun i F' G' H' μ' M' l pf g hc => ⟨fun x hx => ?_, fun hn => ?_⟩⟩
  · have hi' : i < (hi - lo).toNat := by rw [← hl]; exact (List.getElem?_eq_some_iff.mp hx).1
    refine ⟨hi', fun v H2 hy => ?_⟩
    obtain ⟨e, ev⟩ := hy
    subst e ev
    have ex : x = .int (lo + (i : Nat)) := by
      unfold rangeD at hx
      rw [List.getElem?_map, List.getElem?_range hi'] at hx
      exact (Option.some.inj hx).symm
    subst ex
    refine ⟨F', Fle.refl, g, ?_⟩
    simp only [DR]
  · have := List.getElem?_eq_none_iff.mp hn
    rw [hl] at this
    exact this
/-- a pair that is made at a turn -/
theorem pair_new {F G : Hp} {M : Mem} (g : GR w F G H μ M) {p : Addr} (hp : H p = none) {x y : D} {u v : V} (hx : DR w F x u) (hy : DR w F y v) : ∃ F2, Fle F F2 ∧ GR w F2 G (upd H p (.tup [u, v])) μ M ∧ DR w F2 (.tup [x, y]) (.ref p) := by
  obtain ⟨f, q, m⟩ := g.away hp
  refine ⟨upd F p (.tup [u, v]), Fle.upd f, (g.grow hp).freeze f q m upd_same, ?_⟩
  simp only [DR]
  exact ⟨p, [u, v], rfl, .of upd_same, by show 2 ≤ sizeLine; decide, DRs.cons w (hx.le w (Fle.upd f)) (DRs.cons w (hy.le w (Fle.upd f)) (DRs.nil w))⟩
theorem enumFrom_len : ∀ (xs : List D) (k : Nat), (enumFrom k xs).length = xs.length
  | [], _ => rfl
  | x :: xs, k => by simp [enumFrom, enumFrom_len xs]
theorem enumFrom_get : ∀ (xs : List D) (k i : Nat) (y : D), (enumFrom k xs)[i]? = some y → ∃ x, xs[i]? = some x ∧ y = .tup [.int ((k + i : Nat) : Int), x]
  | [], _, _, _, h => by simp [enumFrom] at h
  | x :: xs, k, 0, y, h => by
    simp [enumFrom] at h
    exact ⟨x, rfl, h.symm⟩
  | x :: xs, k, i + 1, y, h => by
    simp only [enumFrom, List.getElem?_cons_succ] at h
    obtain ⟨z, e1, e2⟩ := enumFrom_get xs (k + 1) i y h
    refine ⟨z, by simpa using e1, ?_⟩
    rw [e2]
    have e3 : k + 1 + i = k + (i + 1) := by omega
    rw [e3]
theorem it_enum {xs : List D} {gd : Gd} {F : Hp} {a : Addr} (s : Sq w μ false xs gd F a) : ItOk w μ (Ite w.K a) (enumFrom 0 xs) gd F := by
  refine ⟨by rw [enumFrom_len]; exact s.1, fun i F' G' H' μ' M' l pf g hc => ?_⟩
  obtain ⟨us, hs, d⟩ := s.2 F' G' H' μ' M' l pf g hc
  refine ⟨fun y hy => ?_, fun hn => ⟨us, hs, ?_⟩⟩
  · obtain ⟨x, hx, ey⟩ := enumFrom_get xs 0 i y hy
    subst ey
    obtain ⟨v, hv, dv⟩ := DRs.get w d hx
    refine ⟨⟨us, v, hs, hv⟩, fun u H2 hy => ?_⟩
    obtain ⟨p, x', e1, hp, e2, e3⟩ := hy
    subst e1 e2
    have := (e3 us hs).symm.trans hv
    cases this
    have e0 : ((0 + i : Nat) : Int) = (i : Nat) := by rw [Nat.zero_add]
    rw [e0]
    exact pair_new g hp (by simp only [DR]) dv
  · have := List.getElem?_eq_none_iff.mp hn
    rw [enumFrom_len] at this
    rw [← d.length]
    exact this
theorem zipD_len : ∀ (xs ys : List D), (zipD xs ys).length = min xs.length ys.length
  | [], _ => by simp [zipD]
  | _ :: _, [] => by simp [zipD]
  | x :: xs, y :: ys => by simp [zipD, zipD_len xs ys]
theorem zipD_get : ∀ (xs ys : List D) (i : Nat) (z : D), (zipD xs ys)[i]? = some z → ∃ x y, xs[i]? = some x ∧ ys[i]? = some y ∧ z = .tup [x, y]
  | [], _, _, _, h => by simp [zipD] at h
  | _ :: _, [], _, _, h => by simp [zipD] at h
  | x :: xs, y :: ys, 0, z, h => by
    simp [zipD] at h
    exact ⟨x, y, rfl, rfl, h.symm⟩
  | x :: xs, y :: ys, i + 1, z, h => by
    simp only [zipD, List.getElem?_cons_succ] at h
    obtain ⟨a, b, e1, e2, e3⟩ := zipD_get xs ys i z h
    exact ⟨a, b, by simpa using e1, by simpa using e2, e3⟩
theorem it_zip {xs ys : List D} {gd gd' : Gd} {F : Hp} {a b : Addr} (s : Sq w μ false xs gd F a) (t : Sq w μ false ys gd' F b) : ItOk w μ (Itz w.K a b) (zipD xs ys) (gd ++ gd') F := by
  refine ⟨by rw [zipD_len]; exact Nat.le_trans (Nat.min_le_left _ _) s.1, fun i F' G' H' μ' M' l pf g hc => ?_⟩
  obtain ⟨hc1, hc2⟩ := chk_app hc
  obtain ⟨us, hs, d⟩ := s.2 F' G' H' μ' M' l pf g hc1
  obtain ⟨vs, ht, d2⟩ := t.2 F' G' H' μ' M' l pf g hc2
  refine ⟨fun z hz => ?_, fun hn => ⟨us, vs, hs, ht, ?_⟩⟩
  · obtain ⟨x, y, hx, hy, ez⟩ := zipD_get xs ys i z hz
    subst ez
    obtain ⟨u, hu, du⟩ := DRs.get w d hx
    obtain ⟨v, hv, dv⟩ := DRs.get w d2 hy
    refine ⟨⟨us, vs, u, v, hs, ht, hu, hv⟩, fun q H2 hy => ?_⟩
    obtain ⟨p, x', y', e1, hp, e2, e3, e4⟩ := hy
    subst e1 e2
    have q1 := (e3 us hs).symm.trans hu
    have q2 := (e4 vs ht).symm.trans hv
    cases q1
    cases q2
    exact pair_new g hp du dv
  · have := List.getElem?_eq_none_iff.mp hn
    rw [zipD_len] at this
    rw [← d.length, ← d2.length]
    omega
theorem it_zipT {xs ys : List D} {gd gd' : Gd} {F : Hp} {a b : Addr} (s : Sq w μ true xs gd F a) (t : Sq w μ true ys gd' F b) : ItOk w μ (RZ.ItzT w.K a b) (zipD xs ys) (gd ++ gd') F := by
  refine ⟨by rw [zipD_len]; exact Nat.le_trans (Nat.min_le_left _ _) s.1, fun i F' G' H' μ' M' l pf g hc => ?_⟩
  obtain ⟨hc1, hc2⟩ := chk_app hc
  obtain ⟨us, hs, d⟩ := s.2 F' G' H' μ' M' l pf g hc1
  obtain ⟨vs, ht, d2⟩ := t.2 F' G' H' μ' M' l pf g hc2
  refine ⟨fun z hz => ?_, fun hn => ⟨us, vs, hs, ht, ?_⟩⟩
  · obtain ⟨x, y, hx, hy, ez⟩ := zipD_get xs ys i z hz
    subst ez
    obtain ⟨u, hu, du⟩ := DRs.get w d hx
    obtain ⟨v, hv, dv⟩ := DRs.get w d2 hy
    refine ⟨⟨us, vs, u, v, hs, ht, hu, hv⟩, fun q H2 hy => ?_⟩
    obtain ⟨p, x', y', e1, hp, e2, e3, e4⟩ := hy
    subst e1 e2
    have q1 := (e3 us hs).symm.trans hu
    have q2 := (e4 vs ht).symm.trans hv
    cases q1
    cases q2
    exact pair_new g hp du dv
  · have := List.getElem?_eq_none_iff.mp hn
    rw [zipD_len] at this
    rw [← d.length, ← d2.length]
    omega

/-! ### the readings of what is walked -/
def iAny (K : PySem.W.Frag) (te : TE) : TI := fun σ H R => te σ H fun x H1 => (∃ a, x = .ref a ∧ (∃ xs, SqL K H1 a xs) ∧ R (Itl K a) H1) ∨ (∃ a, x = .ref a ∧ (∃ xs, SqT K H1 a xs) ∧ R (Itt K a) H1) ∨ ∃ z, x = .str z ∧ R (Its z) H1
theorem sq_now {F G : Hp} {M : Mem} {k : Bool} {xs : List D} {gd : Gd} {a : Addr} (s : Sq w μ k xs gd F a) (g : GR w F G H μ M) (hc : chkG gd M = true) : ∃ us, SqK w.K k H a us := by
  obtain ⟨us, h, _⟩ := s.2 F G H μ M Fle.refl List.prefix_rfl g hc
  exact ⟨us, h⟩
theorem imp_iter {m : Vars → Mem → R Vl} {R' : It → Hp → Prop} (h : tI w W (fun vs M => (m vs M).bind fun x M1 => R.lift (iterOf M1 (frz x)) M1) σ H R') : iAny w.K (tE w W m) σ H R' := by
  obtain ⟨F, G, μ, vs, M, g, s, h⟩ := h
  refine tE.step g s h fun v H1 x M1 F1 g1 s1 l1 r1 _ h1 => ?_
  obtain ⟨p, e, h2⟩ := h1.lift
  have viaSeq : (seqOf M1 (frz x)).map (·.2) = some p → (∃ a, v = .ref a ∧ (∃ xs, SqL w.K H1 a xs) ∧ R' (Itl w.K a) H1) ∨ (∃ a, v = .ref a ∧ (∃ xs, SqT w.K H1 a xs) ∧ R' (Itt w.K a) H1) ∨ ∃ z, v = .str z ∧ R' (Its z) H1 := fun e => by
    obtain ⟨⟨k, xs, gd⟩, e1, e2⟩ := Option.map_eq_some_iff.mp e
    subst e2
    obtain ⟨a, ev, sq, hc⟩ := seq_ok g1 r1 e1
    subst ev
    cases k with
    | false => exact .inl ⟨a, rfl, sq_now sq g1 hc, h2 F1 H1 _ Fle.refl g1 (it_list sq)⟩
    | true => exact .inr (.inl ⟨a, rfl, sq_now sq g1 hc, h2 F1 H1 _ Fle.refl g1 (it_tup sq)⟩)
  unfold iterOf at e
  split at e
  · rename_i z hz
    rw [hz] at r1
    have r1' : DR w F1 (.str z) v := r1
    simp only [DR] at r1'
    obtain ⟨ev, ok⟩ := r1'
    subst ev
    cases e
    exact .inr (.inr ⟨z, rfl, h2 F1 H1 _ Fle.refl g1 (it_str ok)⟩)
  · exact viaSeq e
theorem imp_rng1 {mb : Vars → Mem → R Vl} {R' : It → Hp → Prop} (h : tI w W (fun vs M => (R.ok (.d (.int 0)) M : R Vl).bind fun x M1 => (mb vs M1).bind fun y M2 => match x, y with
      | .d (.int l), .d (.int h) => if rngOk l h then .ok (rangeD l h, []) M2 else .no
      | _, _ => .no) σ H R') : iRng1 (tCons (tE w W mb) tNil) σ H R' := by
  obtain ⟨F, G, μ, vs, M, g, s, h⟩ := h
  have h' : Out w F G μ σ (relI w μ) ((mb vs M).bind fun y M2 => match y with
      | .d (.int h) => if rngOk 0 h then .ok (rangeD 0 h, []) M2 else .no
      | _ => .no) R' W := by
    dsimp only [R.bind] at h
    cases e : mb vs M with
    | ok y M2 =>
      rw [e] at h
      cases y with
      | d y => cases y <;> exact h
      | _ => exact h
    | exc c fs M2 => rw [e] at h; exact h
    | no => rw [e] at h; exact h
  refine tE.step g s h' fun v H1 x M1 F1 g1 s1 l1 r1 _ h1 => ?_
  cases x with
  | d x =>
    cases x with
    | int i =>
      have r1' : DR w F1 (.int i) v := r1
      simp only [DR] at r1'
      subst r1'
      by_cases hr : rngOk 0 i = true
      · simp only [hr, if_true] at h1
        have hr' := hr
        unfold rngOk at hr'
        simp only [Bool.and_eq_true, decide_eq_true_eq] at hr'
        refine ⟨i, rfl, hr'.2.2.1, hr'.2.2.2.1, ?_⟩
        have := h1 F1 H1 _ Fle.refl g1 (it_rng hr)
        rw [Int.sub_zero] at this
        exact this
      · simp only [hr] at h1
        exact h1.elim
    | _ => exact h1.elim
  | _ => exact h1.elim
theorem imp_rng2 {ma mb : Vars → Mem → R Vl} {R' : It → Hp → Prop} (h : tI w W (fun vs M => (ma vs M).bind fun x M1 => (mb vs M1).bind fun y M2 => match x, y with
      | .d (.int l), .d (.int h) => if rngOk l h then .ok (rangeD l h, []) M2 else .no
      | _, _ => .no) σ H R') : iRng2 (tCons (tE w W ma) (tCons (tE w W mb) tNil)) σ H R' := by
  obtain ⟨F, G, μ, vs, M, g, s, h⟩ := h
  refine tE.step g s h fun v H1 x M1 F1 g1 s1 l1 r1 _ h1 => ?_
  refine tE.step g1 s1 h1 fun u H2 y M2 F2 g2 s2 l2 r2 _ h2 => ?_
  split at h2
  · rename_i l h' _ _
    have r1' : DR w F1 (.int l) v := r1
    simp only [DR] at r1'
    subst r1'
    have r2' : DR w F2 (.int h') u := r2
    simp only [DR] at r2'
    subst r2'
    by_cases hr : rngOk l h' = true
    · rw [if_pos hr] at h2
      have hr' := hr
      unfold rngOk at hr'
      simp only [Bool.and_eq_true, decide_eq_true_eq] at hr'
      exact ⟨l, h', rfl, ⟨hr'.1, hr'.2.1, hr'.2.2.1, hr'.2.2.2.1⟩, h2 F2 H2 _ Fle.refl g2 (it_rng hr)⟩
    · rw [if_neg hr] at h2
      exact h2.elim
  · exact h2.elim
end
end Pd

/-! PdA: targets and comprehensions. -/
namespace Pd
open PySem PySem.Spec L2

section
variable {w : Wr} {W : WX} {μ : List Addr}
mutual
/-- a target's reading -/
def tgT (K : PySem.W.Frag) : T → TG
  | .n i => gName i
  | .t r => gTup K (tgLen r) (tgTs K r)
  | _ => fun _ _ _ _ => False
def tgTs (K : PySem.W.Frag) : T → TGs
  | .t0 => gNil
  | .tc a r => gCons (tgT K a) (tgTs K r)
  | _ => fun _ _ _ _ => False
def tgLen : T → Nat
  | .tc _ r => tgLen r + 1
  | _ => 0
end
mutual
theorem bind_ok {F H : Hp} (l : Fle F H) : ∀ (t : T) (x : D) (v : V) (vs vs' : Vars) (σ : L2.St) (Q : L2.St → Hp → Prop), SR w F μ vs σ → DR w F x v → bindT t x vs = some vs' → (∀ σ', SR w F μ vs' σ' → Q σ' H) → tgT w.K t v σ H Q
  | .n i, x, v, vs, vs', σ, Q, s, d, e, k => by
    simp only [bindT] at e
    split at e
    · cases e
      simp only [tgT]
      exact k _ (s.set (x := .d x) d)
    · cases e
  | .t r, .tup xs, v, vs, vs', σ, Q, s, d, e, k => by
    simp only [bindT] at e
    simp only [DR] at d
    obtain ⟨a, us, e1, h1, z, d⟩ := d
    subst e1
    simp only [tgT]
    have hl := binds_len r xs vs vs' e
    refine ⟨a, us, rfl, SqT.le l h1, by rw [← d.length]; exact hl, ?_⟩
    exact binds_ok l r xs us vs vs' σ Q s d e k
  | .t0, x, v, vs, vs', σ, Q, s, d, e, k => by simp [bindT] at e
  | .tc a r, x, v, vs, vs', σ, Q, s, d, e, k => by simp [bindT] at e
  | .t r, .non, v, vs, vs', σ, Q, s, d, e, k => by simp [bindT] at e
  | .t r, .bl _, v, vs, vs', σ, Q, s, d, e, k => by simp [bindT] at e
  | .t r, .int _, v, vs, vs', σ, Q, s, d, e, k => by simp [bindT] at e
  | .t r, .str _, v, vs, vs', σ, Q, s, d, e, k => by simp [bindT] at e
  | .t r, .lst _, v, vs, vs', σ, Q, s, d, e, k => by simp [bindT] at e
  | .t r, .dic _, v, vs, vs', σ, Q, s, d, e, k => by simp [bindT] at e
  | .t r, .ins _ _, v, vs, vs', σ, Q, s, d, e, k => by simp [bindT] at e
  | .t r, .scr _, v, vs, vs', σ, Q, s, d, e, k => by simp [bindT] at e
theorem binds_ok {F H : Hp} (l : Fle F H) : ∀ (t : T) (xs : List D) (us : List V) (vs vs' : Vars) (σ : L2.St) (Q : L2.St → Hp → Prop), SR w F μ vs σ → DRs w F xs us → bindTs t xs vs = some vs' → (∀ σ', SR w F μ vs' σ' → Q σ' H) → tgTs w.K t us σ H Q
  | .t0, [], us, vs, vs', σ, Q, s, d, e, k => by
    simp only [bindTs] at e
    cases e
    have d' := drs_nil d
    subst d'
    simp only [tgTs]
    exact ⟨rfl, k σ s⟩
  | .t0, _ :: _, us, vs, vs', σ, Q, s, d, e, k => by simp [bindTs] at e
  | .tc a r, [], us, vs, vs', σ, Q, s, d, e, k => by simp [bindTs] at e
  | .tc a r, x :: xs, us, vs, vs', σ, Q, s, d, e, k => by
    simp only [bindTs] at e
    obtain ⟨v1, e1, e2⟩ := Option.bind_eq_some_iff.mp e
    simp only [DRs] at d
    obtain ⟨v, ur, eu, d1, d2⟩ := d
    subst eu
    simp only [tgTs]
    exact ⟨v, ur, rfl, bind_ok l a x v vs v1 σ _ s d1 e1 fun σ' s' => binds_ok l r xs ur v1 vs' σ' Q s' d2 e2 k⟩
  | .n i, xs, us, vs, vs', σ, Q, s, d, e, k => by cases xs <;> simp [bindTs] at e
  | .t r, xs, us, vs, vs', σ, Q, s, d, e, k => by cases xs <;> simp [bindTs] at e
theorem binds_len : ∀ (t : T) (xs : List D) (vs vs' : Vars), bindTs t xs vs = some vs' → xs.length = tgLen t
  | .t0, [], _, _, _ => rfl
  | .t0, _ :: _, _, _, e => by simp [bindTs] at e
  | .tc a r, [], _, _, e => by simp [bindTs] at e
  | .tc a r, x :: xs, vs, vs', e => by
    simp only [bindTs] at e
    obtain ⟨v1, e1, e2⟩ := Option.bind_eq_some_iff.mp e
    simp only [tgLen, List.length_cons]
    rw [binds_len r xs v1 vs' e2]
  | .n i, xs, _, _, e => by cases xs <;> simp [bindTs] at e
  | .t r, xs, _, _, e => by cases xs <;> simp [bindTs] at e
end
/-! the slots that a target stores -/
def T.slots : T → List Nat
  | .n i => [i]
  | .t r => r.slots
  | .t0 => []
  | .tc a r => a.slots ++ r.slots
theorem wipe_set {σ : L2.St} {i : Nat} {x : Option V} : ∀ {own : List Nat}, i ∈ own → wipe (σ.set i x) own = wipe σ own
  | [], h => by cases h
  | j :: own, h => by
    unfold wipe
    by_cases hj : i ∈ own
    · rw [wipe_set hj]
    · rcases List.mem_cons.mp h with e | e
      · subst e
        have : ∀ own : List Nat, i ∉ own → ∀ σ : L2.St, wipe (σ.set i x) own = (wipe σ own).set i x := by
          intro own
          induction own with
          | nil => intro _ σ; rfl
          | cons k own ih =>
            intro hk σ
            unfold wipe
            rw [ih (fun z => hk (List.mem_cons_of_mem _ z)) σ, List.set_comm _ _ (fun z => hk (by rw [z]; exact List.mem_cons_self))]
        rw [this own hj σ, List.set_set]
      · exact absurd e hj
theorem wipe_wipe {σ : L2.St} : ∀ (own own' : List Nat), (∀ i ∈ own', i ∈ own) → wipe (wipe σ own') own = wipe σ own
  | own, [], _ => rfl
  | own, i :: r, h => by
    show wipe ((wipe σ r).set i none) own = _
    rw [wipe_set (h i List.mem_cons_self), wipe_wipe own r fun j hj => h j (List.mem_cons_of_mem _ hj)]
theorem SR.wipe {F : Hp} {vs : Vars} {σ : L2.St} (s : SR w F μ vs σ) : ∀ own : List Nat, SR w F μ (wipeV vs own) (L2.wipe σ own)
  | [] => s
  | i :: r => (SR.wipe s r).unset
mutual
/-- .. and nothing else is stored -/
theorem bind_own {F H : Hp} (l : Fle F H) (own : List Nat) : ∀ (t : T) (x : D) (v : V) (vs vs' : Vars) (σ : L2.St) (Q : L2.St → Hp → Prop), (∀ i ∈ t.slots, i ∈ own) → SR w F μ vs σ → DR w F x v → bindT t x vs = some vs' →
    (∀ σ', SR w F μ vs' σ' → L2.wipe σ' own = L2.wipe σ own → Q σ' H) → tgT w.K t v σ H Q
  | .n i, x, v, vs, vs', σ, Q, ho, s, d, e, k => by
    simp only [bindT] at e
    split at e
    · cases e
      simp only [tgT]
      exact k _ (s.set (x := .d x) d) (wipe_set (ho i (by simp [T.slots])))
    · cases e
  | .t r, .tup xs, v, vs, vs', σ, Q, ho, s, d, e, k => by
    simp only [bindT] at e
    simp only [DR] at d
    obtain ⟨a, us, e1, h1, z, d⟩ := d
    subst e1
    simp only [tgT]
    have hl := binds_len (w := w) (μ := μ) r xs vs vs' e
    refine ⟨a, us, rfl, SqT.le l h1, by rw [← d.length]; exact hl, ?_⟩
    exact binds_own l own r xs us vs vs' σ Q (fun i hi => ho i (by simpa [T.slots] using hi)) s d e k
  | .t0, x, v, vs, vs', σ, Q, ho, s, d, e, k => by simp [bindT] at e
  | .tc a r, x, v, vs, vs', σ, Q, ho, s, d, e, k => by simp [bindT] at e
  | .t r, .non, v, vs, vs', σ, Q, ho, s, d, e, k => by simp [bindT] at e
  | .t r, .bl _, v, vs, vs', σ, Q, ho, s, d, e, k => by simp [bindT] at e
  | .t r, .int _, v, vs, vs', σ, Q, ho, s, d, e, k => by simp [bindT] at e
  | .t r, .str _, v, vs, vs', σ, Q, ho, s, d, e, k => by simp [bindT] at e
  | .t r, .lst _, v, vs, vs', σ, Q, ho, s, d, e, k => by simp [bindT] at e
  | .t r, .dic _, v, vs, vs', σ, Q, ho, s, d, e, k => by simp [bindT] at e
  | .t r, .ins _ _, v, vs, vs', σ, Q, ho, s, d, e, k => by simp [bindT] at e
  | .t r, .scr _, v, vs, vs', σ, Q, ho, s, d, e, k => by simp [bindT] at e
theorem binds_own {F H : Hp} (l : Fle F H) (own : List Nat) : ∀ (t : T) (xs : List D) (us : List V) (vs vs' : Vars) (σ : L2.St) (Q : L2.St → Hp → Prop), (∀ i ∈ t.slots, i ∈ own) → SR w F μ vs σ → DRs w F xs us → bindTs t xs vs = some vs' →
    (∀ σ', SR w F μ vs' σ' → L2.wipe σ' own = L2.wipe σ own → Q σ' H) → tgTs w.K t us σ H Q
  | .t0, [], us, vs, vs', σ, Q, ho, s, d, e, k => by
    simp only [bindTs] at e
    cases e
    have d' := drs_nil d
    subst d'
    simp only [tgTs]
    exact ⟨rfl, k σ s rfl⟩
  | .t0, _ :: _, us, vs, vs', σ, Q, ho, s, d, e, k => by simp [bindTs] at e
  | .tc a r, [], us, vs, vs', σ, Q, ho, s, d, e, k => by simp [bindTs] at e
  | .tc a r, x :: xs, us, vs, vs', σ, Q, ho, s, d, e, k => by
    simp only [bindTs] at e
    obtain ⟨v1, e1, e2⟩ := Option.bind_eq_some_iff.mp e
    simp only [DRs] at d
    obtain ⟨v, ur, eu, d1, d2⟩ := d
    subst eu
    simp only [tgTs]
    exact ⟨v, ur, rfl, bind_own l own a x v vs v1 σ _ (fun i hi => ho i (by simp [T.slots, hi])) s d1 e1 fun σ' s' hw =>
      binds_own l own r xs ur v1 vs' σ' Q (fun i hi => ho i (by simp [T.slots, hi])) s' d2 e2 fun σ2 s2 hw2 => k σ2 s2 (hw2.trans hw)⟩
  | .n i, xs, us, vs, vs', σ, Q, ho, s, d, e, k => by cases xs <;> simp [bindTs] at e
  | .t r, xs, us, vs, vs', σ, Q, ho, s, d, e, k => by cases xs <;> simp [bindTs] at e
end

/-! ### comprehensions -/
abbrev W0 : WX := fun _ _ _ _ => False
theorem GR.lessG {F G H : Hp} {M : Mem} {p : Addr} {o : HO} (g : GR w F (upd G p o) H μ M) (hp : G p = none) : GR w F G H μ M := by
  have le : Fle G (upd G p o) := Fle.upd hp
  refine ⟨g.sub, le.trans g.gsub, fun a u e => g.disj a u (le a u e), g.len, g.nd, fun n c e => ?_⟩
  obtain ⟨a, e1, h1, h2⟩ := g.cell n c e
  refine ⟨a, e1, fun hl => ?_, h2⟩
  obtain ⟨f, k, q⟩ := h1 hl
  refine ⟨f, ?_, q⟩
  cases z : G a with
  | none => rfl
  | some u => rw [le a u z] at k; cases k
theorem GR.moreG {F G H : Hp} {M : Mem} {p : Addr} {o : HO} (g : GR w F G H μ M) (hp : H p = none) : GR w F (upd G p o) (upd H p o) μ M := by
  obtain ⟨f, q, m⟩ := g.away hp
  have g1 := g.grow (o := o) hp
  refine ⟨g1.sub, fun a u e => ?_, fun a u e => ?_, g.len, g.nd, fun n c e => ?_⟩
  · by_cases ha : a = p
    · subst ha
      rw [upd_same] at e ⊢
      exact e
    · rw [upd_ne ha] at e
      exact g1.gsub a u e
  · by_cases ha : a = p
    · rw [ha]
      exact f
    · rw [upd_ne ha] at e
      exact g.disj a u e
  · obtain ⟨a, e1, h1, h2⟩ := g1.cell n c e
    refine ⟨a, e1, fun hl => ?_, h2⟩
    obtain ⟨f1, k1, r⟩ := h1 hl
    have ha : a ≠ p := fun z => m (by rw [← z]; exact List.mem_of_getElem? e1)
    exact ⟨f1, by rw [upd_ne ha]; exact k1, r⟩
/-- the private object is changed -/
theorem GR.setG {F G H : Hp} {M : Mem} {p : Addr} {o o' : HO} (g : GR w F (upd G p o) H μ M) (hp : G p = none) : GR w F (upd G p o') (upd H p o') μ M := by
  have fp : F p = none := g.disj p o upd_same
  have nm : p ∉ μ := fun hm => by
    obtain ⟨n, hn, e⟩ := List.getElem_of_mem hm
    have hM : n < M.length := by rw [← g.len]; exact hn
    obtain ⟨a, e1, h1, h2⟩ := g.cell n M[n] (List.getElem?_eq_getElem hM)
    rw [List.getElem?_eq_getElem hn, e] at e1
    cases e1
    cases hl : M[n].live with
    | true =>
      obtain ⟨_, k, _⟩ := h1 hl
      rw [upd_same] at k
      cases k
    | false =>
      obtain ⟨⟨u, hu⟩, _⟩ := h2 hl
      rw [fp] at hu
      cases hu
  refine ⟨fun a u e => ?_, fun a u e => ?_, fun a u e => ?_, g.len, g.nd, fun n c e => ?_⟩
  · rw [upd_ne (ne_of_none e fp)]
    exact g.sub a u e
  · by_cases ha : a = p
    · subst ha
      rw [upd_same] at e ⊢
      exact e
    · rw [upd_ne ha] at e ⊢
      exact g.gsub a u (by rw [upd_ne ha]; exact e)
  · by_cases ha : a = p
    · rw [ha]
      exact fp
    · rw [upd_ne ha] at e
      exact g.disj a u (by rw [upd_ne ha]; exact e)
  · obtain ⟨a, e1, h1, h2⟩ := g.cell n c e
    have ha : a ≠ p := fun z => nm (by rw [← z]; exact List.mem_of_getElem? e1)
    refine ⟨a, e1, fun hl => ?_, h2⟩
    obtain ⟨f1, k1, r⟩ := h1 hl
    refine ⟨f1, by rw [upd_ne ha] at k1 ⊢; exact k1, ?_⟩
    obtain ⟨u, hu, q⟩ := r
    exact ⟨u, by rw [upd_ne ha]; exact hu, q⟩
theorem imp_lc {wi : TI} {mi : Vars → Mem → R (List D × Gd)} {t : T} {mc : Vars → Mem → R Bool} {tt : TT} {me : Vars → Mem → R Vl} {own : List Nat} {σ : L2.St} {H : Hp} {Q : VK}
    (hi : ∀ σ H R, tI w W mi σ H R → wi σ H R) (ht : ∀ σ H Q, tT w W0 mc σ H Q → tt σ H Q) (ho : ∀ i ∈ t.slots, i ∈ own)
    (h : tE w W (fun vs M => (mi vs M).bind fun xs M1 => match lcGo t xs.2 mc me (wipeV vs own) xs.1 M1 with
      | .ok ys M2 => .ok (.new (.lst ys)) M2
      | _ => .no) σ H Q) : tLc wi (tgT w.K t) tt (tE w W0 me) own σ H Q := by
  obtain ⟨F, G, μ, vs, M, g, s, h⟩ := h
  refine hi σ H _ ⟨F, G, μ, vs, M, g, s, (h.bind1 (rel := relI w μ)).imp fun J H1 ⟨p, M1, F1, l1, g1, iok, _, h1⟩ => ?_⟩
  obtain ⟨xs, gd⟩ := p
  simp only at h1 iok
  cases eg : lcGo t gd mc me (wipeV vs own) xs M1 with
  | ok zs M2 =>
    rw [eg] at h1
    intro D hD
    obtain ⟨fD, gD, mD⟩ := g1.away hD
    obtain ⟨hlen, iok⟩ := iok
    have hlen : xs.length ≤ sizeLine := hlen
    have sw : SR w F1 μ (wipeV vs own) (L2.wipe σ own) := SR.wipe (s.le l1) own
    refine ⟨fun i m Hh => ∃ F' us ds M' ys, Fle F1 F' ∧ GR w F' (upd G D (.lst us)) Hh μ M' ∧ DRs w F' ds us ∧ us.length ≤ i ∧ i ≤ xs.length ∧ m = xs.length - i ∧
        lcGo t gd mc me (wipeV vs own) (xs.drop i) M' = .ok ys M2 ∧ ds ++ ys = zs,
      ⟨xs.length, F1, [], [], M1, zs, Fle.refl, g1.moreG hD, DRs.nil w, Nat.zero_le _, Nat.zero_le _, rfl, eg, rfl⟩, fun i m Hh hW => ?_⟩
    obtain ⟨F', us, ds, M', ys, l', g', dr, hul, hil, em, eg', ez⟩ := hW
    have hHD : Hh D = some (.lst us) := g'.gsub D _ upd_same
    cases hx : xs[i]? with
    | none =>
      have hge := List.getElem?_eq_none_iff.mp hx
      rw [List.drop_eq_nil_of_le hge] at eg'
      unfold lcGo at eg'
      split at eg'
      · rename_i hc
        cases eg'
        rw [List.append_nil] at ez
        subst ez
        refine .inl ⟨(iok i F' _ Hh μ M2 l' List.prefix_rfl g' hc).2 hx, h1 F' Hh _ l' (g'.lessG gD) ⟨D, .lst us, rfl, g'.disj D _ upd_same, gD, mD, hHD, us, rfl, ?_, dr⟩⟩
        rw [dr.length]
        omega
      · cases eg'
    | some x =>
      have hi' : i < xs.length := (List.getElem?_eq_some_iff.mp hx).1
      have ed : xs.drop i = x :: xs.drop (i + 1) := by
        rw [List.drop_eq_getElem_cons hi']
        rw [List.getElem?_eq_getElem hi'] at hx
        cases hx
        rfl
      rw [ed] at eg'
      unfold lcGo at eg'
      split at eg'
      · rename_i hc
        obtain ⟨hgo, hyld⟩ := (iok i F' _ Hh μ M' l' List.prefix_rfl g' hc).1 x hx
        refine .inr ⟨hgo, fun H' => ∃ F2 us2 ds2 M3 ys2, Fle F1 F2 ∧ GR w F2 (upd G D (.lst us2)) H' μ M3 ∧ DRs w F2 ds2 us2 ∧ us2.length ≤ i + 1 ∧
            lcGo t gd mc me (wipeV vs own) (xs.drop (i + 1)) M3 = .ok ys2 M2 ∧ ds2 ++ ys2 = zs, fun H' hN => ?_, fun v H' hy => ?_⟩
        · obtain ⟨F2, us2, ds2, M3, ys2, a1, a2, a3, a4, a5, a6⟩ := hN
          exact ⟨xs.length - (i + 1), by omega, F2, us2, ds2, M3, ys2, a1, a2, a3, a4, by omega, rfl, a5, a6⟩
        · obtain ⟨F2, l2, g2, dx⟩ := hyld v H' hy
          split at eg'
          · cases eg'
          · rename_i v1 hb
            refine bind_own g2.sub own t x v _ v1 _ _ ho ((sw.le l').le l2) dx hb fun σ2 s2 hw => ⟨hw.trans (wipe_wipe own own fun _ z => z), ?_⟩
            refine ht _ _ _ ⟨F2, upd G D (.lst us), μ, v1, M', g2, s2, ?_⟩
            cases ec : mc v1 M' with
            | ok b M3 =>
              rw [ec] at eg'
              intro F3 H3 b' l3 g3 eb
              have eb' : b = b' := eb
              subst eb'
              cases b with
              | true =>
                rw [if_pos rfl]
                simp only at eg'
                refine ⟨F3, upd G D (.lst us), μ, v1, M3, g3, s2.le l3, ?_⟩
                cases ee : me v1 M3 with
                | ok y M4 =>
                  rw [ee] at eg'
                  intro F4 H4 u l4 g4 r4
                  obtain ⟨F5, l5, g5, r5⟩ := g4.frz r4
                  simp only at eg'
                  split at eg'
                  · rename_i yd M5 et
                    have et' : toD M4 (frz y) = some (yd, M5) := by
                      cases y <;> exact et
                    obtain ⟨F6, l6, g6, d6⟩ := g5.toD r5 et'
                    split at eg'
                    · rename_i ys2 M6 eg2
                      cases eg'
                      have dall : Fle F' F6 := (((l2.trans l3).trans l4).trans l5).trans l6
                      refine ⟨us, g6.gsub D _ upd_same, ?_, F6, us ++ [u], ds ++ [yd], M5, ys2, l'.trans dall, g6.setG gD, DRs.app w (dr.le w dall) (DRs.cons w d6 (DRs.nil w)), ?_, eg2, ?_⟩
                      · have := hlen
                        omega
                      · rw [List.length_append, List.length_singleton]
                        omega
                      · rw [List.append_assoc]
                        exact ez
                    · cases eg'
                  · cases eg'
                | exc c fs M4 => rw [ee] at eg'; cases eg'
                | no => rw [ee] at eg'; cases eg'
              | false =>
                rw [if_neg (by decide)]
                simp only at eg'
                exact ⟨F3, us, ds, M3, ys, (l'.trans l2).trans l3, g3, dr.le w (l2.trans l3), by omega, eg', ez⟩
            | exc c fs M3 => rw [ec] at eg'; cases eg'
            | no => rw [ec] at eg'; cases eg'
      · cases eg'
  | exc c fs M2 => rw [eg] at h1; exact h1.elim
  | no => rw [eg] at h1; exact h1.elim
theorem imp_yes {σ : L2.St} {H : Hp} {Q : Bool → Hp → Prop} (h : tT w W (fun _ M => .ok true M) σ H Q) : tYes σ H Q := by
  obtain ⟨F, G, μ, vs, M, g, s, h⟩ := h
  exact Out.here h g rfl
end
end Pd

/-! PdB: enumerate of a tuple; of a list or a tuple. -/
namespace Pd
open PySem PySem.Spec L2 PyProof.Rows

/-- enumerate(v), one argument, over anything whose iterator is one new object -/
theorem enum1_meets {v : Value} {o : Obj} {HH : Heap → Prop} (B : Begins v o HH) :
    Meets (Builtin.«enumerate.__new__» ⟨[.type "enumerate", v], []⟩) (fun _ Rr s => HH s.heap ∧
      Rr (.ok (.ret (.ref (s.heap.push o).objs.size))) { s with heap := (s.heap.push o).push { cls := .type "enumerate", data := .fields #[.none, .bool false, .ref s.heap.objs.size, rawInt 0, .none, .none] } }) :=
  .of_wp fun prog w A Rr s hh => by
    obtain ⟨hp, gg, dd, tt, oo⟩ := s
    obtain ⟨hb, hr⟩ := hh
    have isub := sub_enumerate
    have step : ∀ {A' : Around} {E' : Value → Shared → Prop} {Q' : Value → Shared → Prop}, Q' (.ref hp.objs.size) ⟨hp.push o, gg, dd, tt, oo⟩ → wpAny (model prog w) A' (pyIter v) Q' E' ⟨hp, gg, dd, tt, oo⟩ :=
      fun qq => B.iter prog w _ _ ⟨hp, gg, dd, tt, oo⟩ _ hb qq
    wp_walk using step
    refine wpAny_stack_any fun st => wpAny_pure ?_
    split
    · rename_i c _ _ _ _ _
      cases (c == Value.type "enumerate") <;> (wp_walk using step; exact ⟨_, rfl, hr⟩)
    · wp_walk using step
      exact ⟨_, rfl, hr⟩
theorem enum1_call {prog : Program} {w : World} {A : Around} {E : Value → Shared → Prop} {s : Shared} {v : Value} {o : Obj} {HH : Heap → Prop} {Q : Value → Shared → Prop} (B : Begins v o HH) (hb : HH s.heap)
    (k : ∀ h', IsEnum h' (s.heap.objs.size + 1) s.heap.objs.size 0 .none → h'.get? s.heap.objs.size = some o → (∀ b u, s.heap.get? b = some u → h'.get? b = some u) → Q (.ref (s.heap.objs.size + 1)) { s with heap := h' }) :
    wpAny (model prog w) A (call (.type "enumerate") [v]) Q E s := by
  refine callType_new F.called_enumerate (by decide) (F.typeCall_enumerate_1 _) (F.newCall_enumerate_1 _) (fun obj => F.args_object_init_2 obj _) F.entry_enumerate_new (enum1_meets B) ⟨hb, ?_⟩
  have sz : (s.heap.push o).objs.size = s.heap.objs.size + 1 := Heap.size_push ..
  show _ ∧ _
  rw [sz]
  have isE : IsEnum ((s.heap.push o).push { cls := .type "enumerate", data := .fields #[.none, .bool false, .ref s.heap.objs.size, rawInt 0, .none, .none] }) (s.heap.objs.size + 1) s.heap.objs.size 0 .none := by
    have q := Heap.get?_push_size (s.heap.push o) (o := { cls := .type "enumerate", data := .fields #[.none, .bool false, .ref s.heap.objs.size, rawInt 0, .none, .none] }) rfl
    rw [sz] at q
    exact q
  exact ⟨⟨_, isE, rfl⟩, k _ isE (Heap.get?_push_of_some _ (Heap.get?_push_size _ B.free)) fun b u x => Heap.get?_push_of_some _ (Heap.get?_push_of_some _ x)⟩

/-- the tuple at a, each item in a new pair with its place -/
def IteT (K : PySem.W.Frag) (a : Addr) : It where
  go := fun i H => ∃ (xs : List V) (x : V), SqT K H a xs ∧ xs[i]? = some x
  yld := fun i H v H' => ∃ p x, v = .ref p ∧ H p = none ∧ H' = upd H p (.tup [.int (i : Nat), x]) ∧ ∀ xs, SqT K H a xs → xs[i]? = some x
  stop := fun i H => ∃ xs : List V, SqT K H a xs ∧ xs.length ≤ i
theorem turn_enumT {P : Program} {w : World} {K : PySem.W.Frag} {elts : List Expr} {kk : Nat} {tpos : Pos} (a e it : Addr) :
    Turn P w K (.Tuple elts kk tpos) (IteT K a) [e, it] e (fun i h => (∃ old, IsEnum h e it ((i : Nat) : Int) old) ∧ h.IsTupleIter it a i ∧ e ≠ it ∧ a ≠ it ∧ e ≠ a) where
  mem := List.mem_cons_self
  obj := by
    intro i h st b hb
    obtain ⟨⟨old, q1⟩, ⟨o, q2, _, q3⟩, _⟩ := st
    rcases List.mem_cons.mp hb with z | hb
    · exact ⟨_, by rw [z]; exact q1, fun v q => by
        have q' : Data.fields _ = Data.cell v := q
        cases q'⟩
    · rw [List.mem_singleton.mp hb]
      exact ⟨o, q2, fun v q => by rw [q3] at q; cases q⟩
  keep := by
    intro i h h' st k
    obtain ⟨⟨old, q1⟩, q2, ne⟩ := st
    exact ⟨⟨old, k e List.mem_cons_self _ q1⟩, q2.at fun o q => k it (List.mem_cons_of_mem _ List.mem_cons_self) o q, ne⟩
  item := by
    intro X eP ew eK hc i pins s σ H E I hf st hg
    subst eP ew eK
    obtain ⟨⟨old, q1⟩, q2, ne1, ne2, ne3⟩ := st
    obtain ⟨xs, x, sx, hx⟩ := hg
    obtain ⟨its, rv, pt, _⟩ := I.tuple sx
    obtain ⟨u, hu, ru⟩ := rv.get hx
    have le1 : e < s.heap.objs.size := Heap.lt_size q1
    have le2 : it < s.heap.objs.size := by obtain ⟨_, z, _⟩ := q2; exact Heap.lt_size z
    have T0 : s.heap.IsTuple a its.toArray := pt
    have D := Draws.tuple (prog := X.prog) (w := X.w) (A := X.A.in1) (I.ok.hd hc) it a ne2 its.toArray
    have hlt : i < its.toArray.size := by
      have z := (List.getElem?_eq_some_iff.mp hu).1
      simpa using z
    refine wpAny_pyNext_enum_itemD D q1 ⟨q2, T0⟩ hlt ne1 (by simp [ne1, ne3]) fun y h' tk hy isO st' hT hsz hk => ?_
    have ey : y = u := by
      have z : its.toArray[i]? = some u := by simpa using hu
      exact Option.some.inj (hy.symm.trans z)
    subst ey
    refine ⟨_, rfl, wpAny_letOwnedTupleGo_enum (s := { s with heap := h', toks := tk + 1 }) isO fun h2 isE sb => ?_⟩
    have hT2 : h2.get? s.heap.objs.size = some { cls := .type "tuple", data := .seq #[.int i tk, y] } := (sb.2 _ (Nat.ne_of_gt le1)).trans hT
    have okN : ObjOk X.prog X.w (upd H s.heap.objs.size (.tup [.int (i : Nat), x])) h2 s.heap.objs.size (.tup [.int (i : Nat), x]) :=
      ⟨by show 2 ≤ sizeLine; decide, [.int i tk, y], .cons ⟨_, rfl⟩ (.cons ru .nil), ⟨_, hT2, rfl, _, rfl⟩⟩
    have J : Inv X pins σ (upd H s.heap.objs.size (.tup [.int (i : Nat), x])) { s with heap := h2, toks := tk + 1 } :=
      I.turnedNew (t' := tk + 1) (ch := [e, it]) (fun b ob hb q => (sb.2 b (fun z => hb (by simp [z]))).trans (hk b ob (fun z => hb (by simp [z])) (fun z => hb (by simp [z])) q)) hf (Nat.le_refl _) okN
    refine ⟨.ref s.heap.objs.size, _, J, rfl, ⟨_, x, rfl, I.hok.fresh (Nat.le_refl _), rfl, fun l hl => by rw [I.tuple_inj hl sx]; exact hx⟩, ⟨⟨y, ?_⟩, st'.1.at fun o q => (sb.2 it (Ne.symm ne1)).trans q, ne1, ne2, ne3⟩, fun b hb => ?_⟩
    · have e1 : ((i + 1 : Nat) : Int) = (i : Int) + 1 := by omega
      rw [e1]
      exact isE
    · have lb : b < s.heap.objs.size := by
        rcases List.mem_cons.mp hb with z | hb
        · rw [z]; exact le1
        · rw [List.mem_singleton.mp hb]; exact le2
      rw [upd_ne (Nat.ne_of_lt lb)]
      exact (hf b hb).1
  done := by
    intro X eP ew eK hc i pins s σ H E I hf st hg
    subst eP ew eK
    obtain ⟨⟨old, q1⟩, q2, ne1, ne2, ne3⟩ := st
    obtain ⟨xs, sx, hx⟩ := hg
    obtain ⟨its, rv, pt, _⟩ := I.tuple sx
    have T0 : s.heap.IsTuple a its.toArray := pt
    obtain ⟨f0, f1, f2, f3, f4, f5⟩ := hf it (by simp)
    have hl := rv.length
    have hTy : s.TypeIs (.ref e) "enumerate" := ⟨_, q1, rfl⟩
    unfold pyNext
    refine wpAny_bind (wpAny_attempt (wpAny_callSpecial?_slot (name := Str.ofString "__next__") hTy F.slot_enumerate_next (wpAny_call_entry F.slot_enumerate_next hTy F.entry_enumerate_next ?_ (F.args_enumerate_next_1 _))))
    show wpAny _ _ (field (.ref e) 2 >>= _) _ _ _
    refine wpAny_bind (wpAny_field q1 rfl (x := .ref it) rfl ?_)
    refine wpAny_bind (wpAny_nextOf_tuple_end (I.ok.hd hc) q2 T0 (by simp; omega) fun h' x he' hx' => ?_)
    obtain ⟨o, ho, hcl⟩ := hx'
    refine wpAny_bind (wpAny_isInstance (T := "StopIteration") (b := true) ⟨o, ho, hcl⟩ isSubtype_stop ?_)
    exact wpAny_pure ⟨rfl, I.turned (t' := s.toks) (fun b o hb q => he' b o hb q) f0 f1 f3 f4 f5⟩
  self := fun A i s Q E st hq => let ⟨⟨_, q1⟩, _⟩ := st; wpAny_pyIter_enum q1 hq
def iEnumA (K : PySem.W.Frag) (ta : TA) : TI := fun σ H R => ta σ H fun vs H1 => ∃ a, vs = [.ref a] ∧ ((∃ xs, SqL K H1 a xs ∧ R (Ite K a) H1) ∨ ∃ xs, SqT K H1 a xs ∧ R (IteT K a) H1)
theorem pi_enumA {X : Cx} {e : Expr} {ta : TA} {p pos tpos : Pos} {elts : List Expr} {kk : Nat} (hg : Gl X "enumerate") (hm : X.mg "enumerate" = none) (ha : PA X [e] ta) (hs : starEach [e] X.env = [(false, eval e X.env)]) :
    PI X (.Tuple elts kk tpos) (.Call (.Name "enumerate" p) [e] [] pos) (iEnumA X.K ta) := by
  refine ⟨fun pins s σ H R I h => ?_⟩
  refine Call_ (ld_blt I hg hm boot_enumerate (PyProof.Rows.callWith_type1 (thn (ha.run pos pins s σ H _ I h) fun us s1 ⟨vs, H1, I1, r1, a, ev, q1⟩ => ?_) hs rfl))
  subst ev
  cases r1 with
  | cons r rr =>
    cases rr
    cases r
    rcases q1 with ⟨xs, sx, q⟩ | ⟨xs, sx, q⟩
    · obtain ⟨its, rv, pl, _⟩ := I1.list sx
      refine enum1_call (begins_list a its.toArray) pl.isList fun h' isE ho hk => wpAny_pyIter_enum isE ?_
      have I2 : Inv X pins σ H1 { s1 with heap := h' } := I1.kept (t' := s1.toks) hk
      refine ⟨s1.heap.objs.size + 1, [s1.heap.objs.size + 1, s1.heap.objs.size], _, _, H1, rfl, I2, turn_enum a (s1.heap.objs.size + 1) s1.heap.objs.size, ⟨⟨.none, isE⟩, ⟨_, ho, rfl, rfl⟩, Nat.succ_ne_self _⟩, fun b hb => ?_, q⟩
      have hle : s1.heap.objs.size ≤ b := by
        rcases List.mem_cons.mp hb with z | hb
        · rw [z]; exact Nat.le_succ _
        · rw [List.mem_singleton.mp hb]; exact Nat.le_refl _
      exact I1.fpOk hle (I1.hok.fresh hle)
    · obtain ⟨its, rv, pl, _⟩ := I1.tuple sx
      have T0 : s1.heap.IsTuple a its.toArray := pl
      have la : a < s1.heap.objs.size := by
        obtain ⟨o, ho, _⟩ := T0
        exact Heap.lt_size ho
      refine enum1_call (begins_tuple a its.toArray) T0 fun h' isE ho hk => wpAny_pyIter_enum isE ?_
      have I2 : Inv X pins σ H1 { s1 with heap := h' } := I1.kept (t' := s1.toks) hk
      refine ⟨s1.heap.objs.size + 1, [s1.heap.objs.size + 1, s1.heap.objs.size], _, _, H1, rfl, I2, turn_enumT a (s1.heap.objs.size + 1) s1.heap.objs.size,
        ⟨⟨.none, isE⟩, ⟨_, ho, rfl, rfl⟩, Nat.succ_ne_self _, Nat.ne_of_lt la, Nat.ne_of_gt (Nat.lt_succ_of_lt la)⟩, fun b hb => ?_, q⟩
      have hle : s1.heap.objs.size ≤ b := by
        rcases List.mem_cons.mp hb with z | hb
        · rw [z]; exact Nat.le_succ _
        · rw [List.mem_singleton.mp hb]; exact Nat.le_refl _
      exact I1.fpOk hle (I1.hok.fresh hle)
end Pd

/-! PdC: the rest of what is walked; small expressions. -/
namespace Pd
open PySem PySem.Spec L2

section
variable {w : Wr} {W : WX} {σ : L2.St} {H : Hp} {μ : List Addr}
theorem it_enumT {xs : List D} {gd : Gd} {F : Hp} {a : Addr} (q : Sq w μ true xs gd F a) : ItOk w μ (IteT w.K a) (enumFrom 0 xs) gd F := by
  refine ⟨(enumFrom_len xs 0).symm ▸ q.1, fun i F' G' H' μ' M' l pf g hc => ?_⟩
  obtain ⟨us, st, dr⟩ := q.2 F' G' H' μ' M' l pf g hc
  have st : SqT w.K H' a us := st
  refine ⟨fun y hy => ?_, fun hn => ⟨us, st, ?_⟩⟩
  · obtain ⟨x, hx, ey⟩ := enumFrom_get xs 0 i y hy
    subst ey
    obtain ⟨v, hv, dv⟩ := DRs.get w dr hx
    refine ⟨⟨us, v, st, hv⟩, fun u H2 hy2 => ?_⟩
    obtain ⟨p, x2, e1, hp, e2, e3⟩ := hy2
    subst e1 e2
    cases (e3 us st).symm.trans hv
    rw [show ((0 + i : Nat) : Int) = (i : Nat) by rw [Nat.zero_add]]
    exact pair_new g hp (by simp only [DR]) dv
  · have := List.getElem?_eq_none_iff.mp hn
    rw [enumFrom_len] at this
    exact dr.length ▸ this
theorem imp_enum {m : Vars → Mem → R Vl} {R' : It → Hp → Prop} (h : tI w W (fun vs M => (m vs M).bind fun x M1 => R.lift ((seqOf M1 (frz x)).map fun p => (enumFrom 0 p.2.1, p.2.2)) M1) σ H R') :
    iEnumA w.K (tCons (tE w W m) tNil) σ H R' := by
  obtain ⟨F, G, μ, vs, M, g, s, h⟩ := h
  refine tE.step g s h fun v H1 x M1 F1 g1 s1 l1 r1 _ h1 => ?_
  obtain ⟨p, e, h2⟩ := h1.lift
  obtain ⟨⟨k, xs, gd⟩, e1, e2⟩ := Option.map_eq_some_iff.mp e
  subst e2
  obtain ⟨a, ev, sq, hc⟩ := seq_ok g1 r1 e1
  subst ev
  refine ⟨a, rfl, ?_⟩
  cases k with
  | false => exact .inl (let ⟨us, q⟩ := sq_now sq g1 hc; ⟨us, q, h2 F1 H1 _ Fle.refl g1 (it_enum sq)⟩)
  | true => exact .inr (let ⟨us, q⟩ := sq_now sq g1 hc; ⟨us, q, h2 F1 H1 _ Fle.refl g1 (it_enumT sq)⟩)
theorem Sq.le {F F' : Hp} {a : Addr} {k : Bool} {xs : List D} {gd : Gd} (l : Fle F F') (q : Sq w μ k xs gd F a) : Sq w μ k xs gd F' a := ⟨q.1, fun F2 G2 H2 μ2 M2 l2 => q.2 F2 G2 H2 μ2 M2 (l.trans l2)⟩
theorem imp_zip {ma mb : Vars → Mem → R Vl} {R' : It → Hp → Prop} (h : tI w W (fun vs M => (ma vs M).bind fun x M1 => (mb vs M1).bind fun y M2 => R.lift ((seqOf M2 (frz x)).bind fun p => (seqOf M2 (frz y)).bind fun q => if p.1 == q.1 then some (zipD p.2.1 q.2.1, p.2.2 ++ q.2.2) else none) M2) σ H R') :
    RZ.iZipA w.K (tCons (tE w W ma) (tCons (tE w W mb) tNil)) σ H R' := by
  obtain ⟨F, G, μ, vs, M, g, s, h⟩ := h
  refine tE.step g s h fun v H1 x M1 F1 g1 s1 l1 r1 _ h1 => ?_
  refine tE.step g1 s1 h1 fun u H2 y M2 F2 g2 s2 l2 r2 _ h2 => ?_
  obtain ⟨z, e, h3⟩ := h2.lift
  obtain ⟨⟨k, xs, gd⟩, e1, e⟩ := Option.bind_eq_some_iff.mp e
  obtain ⟨⟨k', ys, gd'⟩, e2, e⟩ := Option.bind_eq_some_iff.mp e
  obtain ⟨a, ev, sq, hc⟩ := seq_ok g2 (r1.le l2) e1
  obtain ⟨b, eu, sq', hc'⟩ := seq_ok g2 r2 e2
  subst ev eu
  simp only at e
  split at e
  · rename_i hk
    have hk : k = k' := by simpa using hk
    subst hk
    cases Option.some.inj e
    obtain ⟨us, q⟩ := sq_now sq g2 hc
    obtain ⟨us', q'⟩ := sq_now sq' g2 hc'
    refine ⟨a, b, us, us', rfl, ?_⟩
    cases k with
    | false => exact .inl ⟨q, q', h3 F2 H2 _ Fle.refl g2 (it_zip sq sq')⟩
    | true => exact .inr ⟨q, q', h3 F2 H2 _ Fle.refl g2 (it_zipT sq sq')⟩
  · cases e
/-- whatever is walked as it stands -/
theorem pi_any {X : Cx} {tg e : Expr} {te : TE} (he : PE X e te) : PI X tg e (iAny X.K te) := by
  refine ⟨fun pins s σ H R I h => thn (he.run pins s σ H _ I h) fun v s1 ⟨x, H1, I1, r1, q1⟩ => ?_⟩
  have ho : ∀ b ∈ [s1.heap.objs.size], FpOk X pins H1 b := fun b hb => by
    rw [List.mem_singleton.mp hb]
    exact I1.fpOk (Nat.le_refl _) (I1.hok.fresh (Nat.le_refl _))
  have kp : ∀ (ob : Obj), Inv X pins σ H1 { s1 with heap := s1.heap.push ob } := fun ob => I1.kept (t' := s1.toks) fun b o z => Heap.get?_push_of_some _ z
  rcases q1 with ⟨a, ea, ⟨xs, hx⟩, k⟩ | ⟨a, ea, ⟨xs, hx⟩, k⟩ | ⟨z, ez, k⟩
  · subst ea
    cases r1
    obtain ⟨its, _, pl, _⟩ := I1.list hx
    exact wpAny_pyIter_list pl.isList ⟨_, _, _, _, H1, rfl, kp _, turn_list a s1.heap.objs.size, ⟨_, Heap.get?_push_size _ rfl, rfl, rfl⟩, ho, k⟩
  · subst ea
    cases r1
    obtain ⟨its, _, pt, _⟩ := I1.tuple hx
    have pt : s1.heap.IsTuple a its.toArray := pt
    exact wpAny_pyIter_tuple pt ⟨_, _, _, _, H1, rfl, kp _, turn_tuple a s1.heap.objs.size, ⟨_, Heap.get?_push_size _ rfl, rfl, rfl⟩, ho, k⟩
  · subst ez
    obtain ⟨tk, rfl⟩ := r1
    cases hasc : z.cps.all (· < 128) with
    | true => exact wpAny_pyIter_ascii hasc ⟨_, _, _, _, H1, rfl, kp _, turn_str s1.heap.objs.size z tk "str_ascii_iterator" (.inl rfl), ⟨_, Heap.get?_push_size _ rfl, rfl, rfl⟩, ho, k⟩
    | false => exact wpAny_pyIter_wide hasc ⟨_, _, _, _, H1, rfl, kp _, turn_str s1.heap.objs.size z tk "str_iterator" (.inr rfl), ⟨_, Heap.get?_push_size _ rfl, rfl, rfl⟩, ho, k⟩
end
end Pd

/-! PdD: is an expression of the text the written one. -/
namespace Pd
open PySem PySem.Spec L2

/-! ### what is asked of the text -/
structure FE where
  name : Str
  np : Nat
  dfl : List D
structure CE where
  N : List Str
  sc : Scope
  fnc : List Str
  fns : List FE
  glo : List (Str × D)
  free : List Str
structure Ck where
  v : CE → Expr → Bool
  a : CE → List Expr → Bool
  i : CE → Expr → Expr → Bool
  t : CE → Expr → Bool
  o : CE → Option Expr → Bool
  wv : CE → BoolOp → List Expr → Bool
  wt : CE → BoolOp → List Expr → Bool
def plainT : Expr → Bool
  | .Name _ _ | .Call _ _ _ _ | .Subscript _ _ _ | .Attribute _ _ _ | .BinOp _ _ _ _ | .Constant _ _ _ => true
  | _ => false
def Ck.ofV (v : CE → Expr → Bool) : Ck where
  v := v
  a := fun _ _ => false
  i := fun ce _ e => v ce e
  t := fun ce e => plainT e && v ce e
  o := fun ce e => match e with
    | some e => v ce e
    | none => false
  wv := fun ce _ es => match es with
    | [e] => v ce e
    | _ => false
  wt := fun ce _ es => match es with
    | [e] => plainT e && v ce e
    | _ => false
def Ck.ofVT (v t : CE → Expr → Bool) : Ck := { Ck.ofV v with t := t, wt := fun ce _ es => match es with
    | [e] => t ce e
    | _ => false }
def visB (sc : Scope) (x : Str) : Bool := match sc.names.lookup x with
  | some .local | some .cell | some .free => true
  | _ => false
def glB (sc : Scope) (x : Str) : Bool := match sc.names.lookup x with
  | some .globalImplicit => true
  | _ => false
def nameOk (x : Str) : Bool := !(x == "__debug__") && (!(x == "__classdict__") && !(x == "__name__"))
def notStar : Expr → Bool
  | .Starred _ _ => false
  | _ => true
def notSet : Expr → Bool
  | .Set _ _ _ => false
  | _ => true
def notSlice : Expr → Bool
  | .Slice _ _ _ _ => false
  | _ => true
def notSuper : Expr → Bool
  | .Call (.Name _ _) [] [] _ => false
  | _ => true
def bOk : Op2 → Operator → Bool
  | .add, .Add | .sub, .Sub | .mul, .Mult | .fdiv, .FloorDiv | .mod, .Mod | .pow, .Pow => true
  | _, _ => false
def cOk : Op2 → CmpOp → Bool
  | .eq, .Eq | .ne, .NotEq | .lt, .Lt | .le, .LtE | .gt, .Gt | .ge, .GtE | .inn, .In | .nin, .NotIn => true
  | _, _ => false
def blt (ce : CE) (x y : Str) : Bool := decide (x = y) && (glB ce.sc x && decide (x ∈ ce.free))
def biName : Bi → Str
  | .len => "len" | .tuple => "tuple" | .list => "list" | .sum => "sum" | .max => "max" | .min => "min" | .abs => "abs" | .sorted => "sorted" | .all => "all" | .any => "any" | .int => "int" | .str => "str"
def bmName : Bm → Str
  | .append => "append" | .extend => "extend" | .pop => "pop" | .reverse => "reverse" | .insert => "insert" | .index => "index" | .count => "count" | .join => "join"
def tyStr : Ty → Str
  | .int => "int" | .bool => "bool" | .str => "str" | .list => "list" | .tuple => "tuple" | .dict => "dict" | .cls _ => ""
def kOk : D → Expr → Bool
  | .int i, .Constant (.int j) _ _ => decide (i = j)
  | .str s, .Constant (.str t) _ _ => decide (s = t) && okS s
  | .bl b, .Constant (.bool c) _ _ => b == c
  | .non, .Constant .none _ _ => true
  | _, _ => false
def tyOk (ce : CE) (t : Ty) : Expr → Bool
  | .Name x _ => t.blt && blt ce x (tyStr t)
  | _ => false
def tysOk (ce : CE) : List Ty → List Expr → Bool
  | [], [] => true
  | t :: ts, e :: es => tyOk ce t e && tysOk ce ts es
  | _, _ => false
def locB (ce : CE) (x : Str) : Bool := match ce.sc.names.lookup x with
  | some .local => true
  | some .cell => decide (x ∈ ce.fnc)
  | _ => false
def tgOk (ce : CE) : T → Expr → Bool
  | .n i, .Name x _ => decide (ce.N[i]? = some x) && locB ce x
  | .t r, .Tuple es _ _ => tgsOk r es
  | _, _ => false
where tgsOk : T → List Expr → Bool
  | .t0, [] => true
  | .tc a r, e :: es => tgOk ce a e && tgsOk r es
  | _, _ => false
def isCell (y : Str × NameKind) : Bool := match y.2 with
  | .cell => true
  | _ => false
def CE.blk (ce : CE) (scope : Scope) : CE := { ce with sc := relS scope ce.sc, fnc := (scope.names.filter isCell).map (·.1) }
def ownOf (N : List Str) (own : List Nat) : List (Str × Nat) := own.map fun i => (N.getD i "", i)
def isZero : E → Bool
  | .k (.int 0) => true
  | _ => false
def E.rowLen : E → Nat
  | .cons _ r => r.rowLen + 1
  | _ => 0
def slotsIn (ls own : List Nat) : Bool := ls.all fun i => decide (i ∈ own)

def ck : E → Ck
  | .nil => { Ck.ofV (fun _ _ => false) with
      a := fun _ es => match es with
        | [] => true
        | _ => false
      o := fun _ e => match e with
        | none => true
        | _ => false }
  | .cons x r => { Ck.ofV (fun _ _ => false) with
      a := fun ce es => match es with
        | e :: es => notStar e && ((ck x).v ce e && (ck r).a ce es)
        | _ => false }
  | .var i => .ofV fun ce e => match e with
      | .Name x _ => decide (ce.N[i]? = some x) && (visB ce.sc x && nameOk x)
      | _ => false
  | .k d => .ofV fun _ e => kOk d e
  | .g x d => .ofV fun ce e => match e with
      | .Name y _ => decide (y = x) && (glB ce.sc y && (nameOk y && ce.glo.any fun p => decide (p.1 = y) && D.same p.2 d))
      | _ => false
  | .op1 o a => .ofVT (fun ce e => match e with
      | .UnaryOp .USub b _ => (match o with
        | .neg => (ck a).v ce b
        | _ => false)
      | .Compare b [.Is] [.Constant .none _ _] _ => (match o with
        | .isN => (ck a).v ce b
        | _ => false)
      | .Compare b [.IsNot] [.Constant .none _ _] _ => (match o with
        | .notN => (ck a).v ce b
        | _ => false)
      | _ => false) (fun ce e => match e with
      | .Compare b [.Is] [.Constant .none _ _] _ => (match o with
        | .isN => (ck a).v ce b
        | _ => false)
      | .Compare b [.IsNot] [.Constant .none _ _] _ => (match o with
        | .notN => (ck a).v ce b
        | _ => false)
      | _ => false)
  | .op2 o a b => .ofVT (fun ce e => match e with
      | .BinOp x op y _ => bOk o op && ((ck a).v ce x && (ck b).v ce y)
      | .Compare x [op] [y] _ => cOk o op && (notSet y && ((ck a).v ce x && (ck b).v ce y))
      | _ => false) (fun ce e => match e with
      | .BinOp x op y _ => bOk o op && ((ck a).v ce x && (ck b).v ce y)
      | .Compare x [op] [y] _ => cOk o op && (notSet y && ((ck a).v ce x && (ck b).v ce y))
      | _ => false)
  | .chain o p a b c => .ofVT (fun ce e => match e with
      | .Compare x [op, op'] [y, z] _ => cOk o op && (cOk p op' && (notSet z && ((ck a).v ce x && ((ck b).v ce y && (ck c).v ce z))))
      | _ => false) (fun ce e => match e with
      | .Compare x [op, op'] [y, z] _ => cOk o op && (cOk p op' && (notSet z && ((ck a).v ce x && ((ck b).v ce y && (ck c).v ce z))))
      | _ => false)
  | .and a b =>
    let kv := fun ce (es : List Expr) => match es with
      | x :: y :: r => (ck a).v ce x && (ck b).wv ce .And (y :: r)
      | _ => false
    let kt := fun ce (es : List Expr) => match es with
      | x :: y :: r => (ck a).t ce x && (ck b).wt ce .And (y :: r)
      | _ => false
    { Ck.ofV (fun ce e => match e with
      | .BoolOp .And es _ => kv ce es
      | _ => false) with
      i := fun _ _ _ => false
      t := fun ce e => match e with
        | .BoolOp .And es _ => kt ce es
        | _ => false
      wv := fun ce op es => match op, es with
        | .Or, [.BoolOp .And es _] => kv ce es
        | .And, es => kv ce es
        | _, _ => false
      wt := fun ce op es => match op, es with
        | .Or, [.BoolOp .And es _] => kt ce es
        | .And, es => kt ce es
        | _, _ => false }
  | .or a b =>
    let kv := fun ce (es : List Expr) => match es with
      | x :: y :: r => (ck a).v ce x && (ck b).wv ce .Or (y :: r)
      | _ => false
    let kt := fun ce (es : List Expr) => match es with
      | x :: y :: r => (ck a).t ce x && (ck b).wt ce .Or (y :: r)
      | _ => false
    { Ck.ofV (fun ce e => match e with
      | .BoolOp .Or es _ => kv ce es
      | _ => false) with
      i := fun _ _ _ => false
      t := fun ce e => match e with
        | .BoolOp .Or es _ => kt ce es
        | _ => false
      wv := fun ce op es => match op, es with
        | .And, [.BoolOp .Or es _] => kv ce es
        | .Or, es => kv ce es
        | _, _ => false
      wt := fun ce op es => match op, es with
        | .And, [.BoolOp .Or es _] => kt ce es
        | .Or, es => kt ce es
        | _, _ => false }
  | .not a => { Ck.ofVT (fun ce e => match e with
      | .UnaryOp .Not b _ => (ck a).v ce b
      | _ => false) (fun ce e => match e with
      | .UnaryOp .Not b _ => (ck a).t ce b
      | _ => false) with i := fun _ _ _ => false }
  | .ife c a b => .ofV fun ce e => match e with
      | .IfExp x y z _ => (ck c).t ce x && ((ck a).v ce y && (ck b).v ce z)
      | _ => false
  | .tup as => .ofV fun ce e => match e with
      | .Tuple es _ _ => (ck as).a ce es
      | _ => false
  | .lst as => .ofV fun ce e => match e with
      | .List es _ => (ck as).a ce es
      | _ => false
  | .idx a i => .ofV fun ce e => match e with
      | .Subscript x y _ => notSlice y && ((ck a).v ce x && (ck i).v ce y)
      | _ => false
  | .sl a lo hi => .ofV fun ce e => match e with
      | .Subscript x (.Slice l h none _) _ => (ck a).v ce x && ((ck lo).o ce l && (ck hi).o ce h)
      | _ => false
  | .bi b as => .ofV fun ce e => match e with
      | .Call (.Name x _) (y :: ys) [] _ => blt ce x (biName b) && (ck as).a ce (y :: ys)
      | _ => false
  | .bm m o as => .ofV fun ce e => match e with
      | .Call (.Attribute x name p) ys [] q => decide (name = bmName m) && (notSuper x && (p.endLine == q.line && (decide (ys.length < 5) && ((ck o).v ce x && ((ck as).a ce ys && (match m with
        | .join => decide (ys.length = 1) && decide (as.rowLen = 1)
        | .index => decide (0 < ys.length)
        | .count => decide (0 < ys.length)
        | m => m.mut))))))
      | _ => false
  | .call f as => .ofV fun ce e => match e with
      | .Call (.Name x _) (y :: ys) [] _ => (match ce.fns[f]? with
        | some fe => decide (x = fe.name) && (glB ce.sc x && (nameOk x && (decide (as.rowLen ≤ fe.np) && (decide (fe.np ≤ as.rowLen + fe.dfl.length) && (ck as).a ce (y :: ys)))))
        | none => false)
      | _ => false
  | .isi ts a => .ofV fun ce e => match e with
      | .Call (.Name x _) [y, .Tuple es _ _] [] _ => blt ce x "isinstance" && (notStar y && (decide (ts.length ≤ 1000) && ((ck a).v ce y && tysOk ce ts es)))
      | .Call (.Name x _) [y, z] [] _ => blt ce x "isinstance" && (notStar y && ((ck a).v ce y && tysOk ce ts [z]))
      | _ => false
  | .rng lo hi => { Ck.ofV (fun _ _ => false) with
      i := fun ce _ e => match e with
        | .Call (.Name x _) [y] [] _ => blt ce x "range" && (notStar y && (isZero lo && (ck hi).v ce y))
        | .Call (.Name x _) [y, z] [] _ => blt ce x "range" && (notStar y && (notStar z && ((ck lo).v ce y && (ck hi).v ce z)))
        | _ => false }
  | .enum a => { Ck.ofV (fun _ _ => false) with
      i := fun ce tg e => match tg, e with
        | .Tuple _ _ _, .Call (.Name x _) [y] [] _ => blt ce x "enumerate" && (notStar y && (ck a).v ce y)
        | _, _ => false }
  | .zip a b => { Ck.ofV (fun _ _ => false) with
      i := fun ce tg e => match tg, e with
        | .Tuple _ _ _, .Call (.Name x _) [y, z] [] _ => blt ce x "zip" && (notStar y && (notStar z && ((ck a).v ce y && (ck b).v ce z)))
        | _, _ => false }
  | .lc own t it c elt => .ofV fun ce e => match e with
      | .ListComp x [⟨tg, iter, ifs, 0⟩] scope _ => notSet iter && (blkC ce.N ce.sc scope (ownOf ce.N own) && (slotsIn t.slots own && (tgOk (ce.blk scope) t tg && ((ck it).i ce tg iter && ((ck elt).v (ce.blk scope) x && (match ifs with
        | [] => isTrueE c
        | [y] => !isTrueE c && (ck c).t (ce.blk scope) y
        | _ => false))))))
      | _ => false
end Pd

/-! PdE: a checked expression does what the written one does. -/
namespace Pd
open PySem PySem.Spec L2

section
variable {w : Wr} {W : WX} {σ : L2.St} {H : Hp}
/-! ### the last readings -/
theorem imp_notV {ma : Vars → Mem → R Vl} {Q : VK} (h : tE w W (fun vs M => (ma vs M).bind fun x M1 => match (der M1 x).bind D.truth with
        | some b => .ok (.d (.bl (!b))) M1
        | none => .no) σ H Q) : tNotT w.K (tE w W ma) σ H Q := by
  obtain ⟨F, G, μ, vs, M, g, s, h⟩ := h
  refine tE.step g s h fun v H1 x M1 F1 g1 s1 l1 r1 _ h1 => ?_
  cases e : (der M1 x).bind D.truth with
  | none => rw [e] at h1; exact h1.elim
  | some b =>
    rw [e] at h1
    obtain ⟨d, ed, eb⟩ := Option.bind_eq_some_iff.mp e
    exact ⟨b, tru_of g1 (top_of g1 r1 (by rw [der_frz]; exact ed)) eb, h1.wish.bl g1⟩
theorem imp_neg {ma : Vars → Mem → R Vl} {Q : VK} (h : tE w W (fun vs M => (ma vs M).bind fun x M1 => R.lift ((der M1 x).bind (op1 .neg)) M1) σ H Q) : tUn (rU fun i => .int (-i)) (tE w W ma) σ H Q := by
  obtain ⟨F, G, μ, vs, M, g, s, h⟩ := h
  refine tE.step g s h fun v H1 x M1 F1 g1 s1 l1 r1 _ h1 => ?_
  obtain ⟨z, e, h2⟩ := h1.lift
  obtain ⟨d, ed, e⟩ := Option.bind_eq_some_iff.mp e
  have t := top_of g1 r1 (by rw [der_frz]; exact ed)
  cases d with
  | int i =>
    cases t.int
    cases Option.some.inj e
    exact ⟨i, rfl, h2.wish.int g1⟩
  | _ => cases e
theorem top_none {F H' : Hp} {d : D} {v : V} (t : Top w F H' d v) : decide (v = V.non) = (match d with
    | .non => true
    | _ => false) := by
  cases d with
  | non => cases t.non; rfl
  | bl b => cases t.bl; rfl
  | int i => cases t.int; rfl
  | str s => obtain ⟨e, _⟩ := t.str; subst e; rfl
  | lst xs => obtain ⟨a, us, e, _⟩ := t; subst e; rfl
  | tup xs =>
    have t' : DR w F (.tup xs) v := t
    simp only [DR] at t'
    obtain ⟨a, us, e, _⟩ := t'
    subst e
    rfl
  | scr xs =>
    have t' : DR w F (.scr xs) v := t
    simp only [DR] at t'
    obtain ⟨a, e, _⟩ := t'
    subst e
    rfl
  | ins c fs => obtain ⟨a, _, _, e, _⟩ := t; subst e; rfl
  | dic kvs =>
    have t' : DR w F (.dic kvs) v := t
    simp only [DR] at t'
theorem imp_isN {ma : Vars → Mem → R Vl} {Q : VK} (h : tE w W (fun vs M => (ma vs M).bind fun x M1 => R.lift ((der M1 x).bind (op1 .isN)) M1) σ H Q) : tIsN (tE w W ma) σ H Q := by
  obtain ⟨F, G, μ, vs, M, g, s, h⟩ := h
  refine tE.step g s h fun v H1 x M1 F1 g1 s1 l1 r1 _ h1 => ?_
  obtain ⟨z, e, h2⟩ := h1.lift
  obtain ⟨d, ed, e⟩ := Option.bind_eq_some_iff.mp e
  rw [top_none (top_of g1 r1 (by rw [der_frz]; exact ed))]
  cases d <;> (cases Option.some.inj e; exact h2.wish.bl g1)
theorem imp_notN {ma : Vars → Mem → R Vl} {Q : VK} (h : tE w W (fun vs M => (ma vs M).bind fun x M1 => R.lift ((der M1 x).bind (op1 .notN)) M1) σ H Q) : tNotN (tE w W ma) σ H Q := by
  obtain ⟨F, G, μ, vs, M, g, s, h⟩ := h
  refine tE.step g s h fun v H1 x M1 F1 g1 s1 l1 r1 _ h1 => ?_
  obtain ⟨z, e, h2⟩ := h1.lift
  obtain ⟨d, ed, e⟩ := Option.bind_eq_some_iff.mp e
  rw [top_none (top_of g1 r1 (by rw [der_frz]; exact ed))]
  cases d <;> (cases Option.some.inj e; exact h2.wish.bl g1)
/-! ### the text's rows -/
theorem star_cons {e : Expr} {es : List Expr} {env : Env} (h : notStar e = true) : starEach (e :: es) env = (false, eval e env) :: starEach es env := by
  cases e <;> first | rfl | cases h
theorem star_all : ∀ {es : List Expr} {env : Env}, es.all notStar = true → starEach es env = es.map fun e => (false, eval e env)
  | [], _, _ => rfl
  | e :: es, env, h => by
    rw [List.all_cons, Bool.and_eq_true] at h
    rw [star_cons h.1, star_all h.2]
    rfl
theorem star_any {es : List Expr} {env : Env} {pos : Pos} (h : es.all notStar = true) : (backTo pos (starEach es env)).any (·.1) = false := by
  rw [star_all h]
  unfold backTo
  rw [List.map_map, List.any_map, List.any_eq_false]
  intro x _
  simp
theorem star_few {es : List Expr} {env : Env} {pos : Pos} (h : es.all notStar = true) (hl : es.length < 5) : ((backTo pos (starEach es env)).all (fun x => !x.1) && (backToKw pos (keywordEach [] env)).all (fun x => x.1.isSome)
      && decide (es.length + ([] : List Keyword).length + (if ([] : List Keyword).isEmpty then 0 else 1) < 30)) = true := by
  rw [star_all h, Bool.and_eq_true, Bool.and_eq_true]
  refine ⟨⟨?_, rfl⟩, decide_eq_true (by simp; omega)⟩
  unfold backTo
  rw [List.map_map, List.all_map, List.all_eq_true]
  intro x _
  simp
theorem plain_test {e : Expr} {env : Env} (h : plainT e = true) (whole : Sem Value) : isTrue e env whole = (do let v ← whole; standAt e.pos; holding [v] (truthy v)) := by
  cases e <;> first | rfl | cases h
theorem not_set {e : Expr} {env : Env} (h : notSet e = true) (x : Value) : foldedSetIterable e env x = pure x := by
  cases e <;> first | rfl | cases h
theorem not_marked {op : CmpOp} {e : Expr} (h : notSet e = true) : behindInMarks op e = false := by
  cases e <;> first | rfl | cases h
theorem not_slice {e : Expr} (h : notSlice e = true) : PlainIx e := by
  intro o i
  cases e <;> first | rfl | cases h
theorem not_super {o : Expr} {name : Str} {env : Env} (h : notSuper o = true) (whole : Sem Value) : attributeBase o name env whole = whole := by
  unfold attributeBase
  split
  · cases h
  · rfl
theorem bOk_eq {o : Op2} {op : Operator} (h : bOk o op = true) : opOf o = binaryOp op := by
  cases o <;> cases op <;> first | rfl | cases h
theorem cOk_eq {o : Op2} {op : CmpOp} (h : cOk o op = true) : opOf o = compareOp op := by
  cases o <;> cases op <;> first | rfl | cases h
theorem vis_of {sc : Scope} {x : Str} (h : visB sc x = true) : Vis sc x := by
  unfold visB at h
  split at h
  · rename_i e; exact .inl e
  · rename_i e; exact .inr (.inl e)
  · rename_i e; exact .inr (.inr e)
  · cases h
theorem gl_of {sc : Scope} {x : Str} (h : glB sc x = true) : sc.names.lookup x = some .globalImplicit := by
  unfold glB at h
  split at h
  · assumption
  · cases h
theorem nameOk_of {x : Str} (h : nameOk x = true) : (x == ("__debug__" : Str)) = false ∧ (x == ("__classdict__" : Str)) = false ∧ x ≠ "__name__" := by
  unfold nameOk at h
  simp only [Bool.and_eq_true, Bool.not_eq_true'] at h
  refine ⟨h.1, h.2.1, fun e => ?_⟩
  have h3 := h.2.2
  subst e
  rw [beq_self_eq_true] at h3
  cases h3
theorem not_marks {op op' : CmpOp} {b c : Expr} (h : notSet c = true) : lastMarks [op, op'] [b, c] = false := by
  show lastMarks [op'] [c] = false
  exact not_marked h
/-! ### the context -/
structure FnS (w : Wr) (P : Pg) (n : Nat) (X : Cx) (i : Nat) (fe : FE) : Prop where
  fit : ∃ fn, P.fns[i]? = some fn ∧ fn.np = fe.np ∧ fn.dfl = fe.dfl
  ok : ∃ (f : Addr) (fd : FuncData) (ps : List Str), X.mg fe.name = some (.ref f) ∧ PySem.W.keepIn X.K (.ref f) = true ∧ FnOk X.prog X.w X.K X.mg X.base (L2.CX X.prog X.w) n f fd ps (spC w fe.np fun a M => evF P n i a M) ∧
    ∀ m, m ≤ fe.np → fe.np ≤ m + fe.dfl.length → ∃ ds dvs, Vals dvs ds ∧ Binds X.K fd ps ds ∧ ∀ (F : Hp) (μ : List Addr), VRs w F μ ((fe.dfl.drop (m + fe.dfl.length - fe.np)).map .d) dvs
structure Cok (w : Wr) (P : Pg) (n : Nat) (ce : CE) (W : WX) (X : Cx) : Prop where
  hK : X.K = w.K
  hN : X.N = ce.N
  nd : ce.N.Nodup
  sc : X.env.scope = ce.sc
  fnc : ∀ x ∈ ce.fnc, X.fn x = true
  calm : X.calm = true
  room : Room n X.A
  tk : Takes X W
  free : ∀ x ∈ ce.free, X.mg x = none
  glo : ∀ p ∈ ce.glo, ∃ v u, X.mg p.1 = some u ∧ RelV v u ∧ ∀ F : Hp, DR w F p.2 v
  fns : ∀ i fe, ce.fns[i]? = some fe → FnS w P n X i fe
theorem Cok.units {P : Pg} {n : Nat} {ce : CE} {X : Cx} (c : Cok w P n ce W X) : X.A.units + 65 < cLine := by
  have := c.room.un
  omega
theorem Cok.gl {P : Pg} {n : Nat} {ce : CE} {X : Cx} (c : Cok w P n ce W X) {x : Str} (h : glB ce.sc x = true) : Gl X x := by
  show X.env.scope.names.lookup x = _
  rw [c.sc]
  exact gl_of h
theorem Cok.blt {P : Pg} {n : Nat} {ce : CE} {X : Cx} (c : Cok w P n ce W X) {x y : Str} (h : blt ce x y = true) : x = y ∧ Gl X y ∧ X.mg y = none := by
  unfold Pd.blt at h
  simp only [Bool.and_eq_true, decide_eq_true_eq] at h
  obtain ⟨e, h1, h2⟩ := h
  subst e
  exact ⟨rfl, c.gl h1, c.free _ h2⟩
theorem Cok.blk {P : Pg} {n : Nat} {ce : CE} {X : Cx} (c : Cok w P n ce W X) {scope : Scope} (hu : ∀ y ∈ scope.names, scope.names.lookup y.1 = some y.2) (s : Shared) (H : Hp) (C : Addr) (cl : List (Str × Addr)) (fp : List Addr) : Cok w P n (ce.blk scope) W0 (X.blk s H scope (compEnvC scope cl C X.env) fp) where
  hK := c.hK
  hN := c.hN
  nd := c.nd
  sc := by
    show relS scope X.env.scope = relS scope ce.sc
    rw [c.sc]
  fnc := fun x hx => by
    show (scope.names.lookup x == some NameKind.cell) = true
    obtain ⟨y, hy, e⟩ := List.mem_map.mp hx
    obtain ⟨hy, hc⟩ := List.mem_filter.mp hy
    have e1 := hu y hy
    obtain ⟨a, k⟩ := y
    have ek : k = .cell := by
      cases k <;> first | rfl | cases hc
    subst ek
    have e : a = x := e
    subst e
    rw [e1]
    rfl
  calm := c.calm
  room := c.room
  tk := fun u s' ⟨_, _, _, _, _, _, _, _, _, _, _, _, _, _, _, _, z⟩ => z.elim
  free := c.free
  glo := c.glo
  fns := fun i fe h => by
    obtain ⟨f1, f2⟩ := c.fns i fe h
    exact ⟨f1, f2⟩
end
end Pd

/-! PdF: soundness of the check, expression by expression. -/
namespace Pd
open PySem PySem.Spec L2

structure Snd (w : Wr) (P : Pg) (n : Nat) (k : Ck) (d : Den) : Prop where
  v : ∀ ce W X e, Cok w P n ce W X → k.v ce e = true → PE X e (tE w W d.v)
  a : ∀ ce W X es, Cok w P n ce W X → k.a ce es = true → PA X es (tA w W d.a) ∧ es.all notStar = true
  i : ∀ ce W X tg e, Cok w P n ce W X → k.i ce tg e = true → ∃ wi, PI X tg e wi ∧ ∀ σ H R, tI w W d.i σ H R → wi σ H R
  t : ∀ ce W X e, Cok w P n ce W X → k.t ce e = true → PT X e (tT w W d.t)
  wv : ∀ ce W X op es pos, Cok w P n ce W X → k.wv ce op es = true → PE X (.BoolOp op es pos) (tE w W d.v)
  wt : ∀ ce W X op es pos, Cok w P n ce W X → k.wt ce op es = true → PW X (.BoolOp op es pos) (tT w W d.t)
section
variable {w : Wr} {P : Pg} {n : Nat}
theorem pw_one {X : Cx} {op : BoolOp} {a : Expr} {pos : Pos} {t : TT} (h : PT X a t) : PW X (.BoolOp op [a] pos) t := by
  cases op with
  | And => exact pw_and1 h
  | Or => exact pw_or1 h
theorem one_of {kv : Expr → Bool} {es : List Expr} (h : (fun es => match es with
      | [e] => kv e
      | _ => false : List Expr → Bool) es = true) : ∃ e, es = [e] ∧ kv e = true := by
  cases es with
  | nil => cases h
  | cons e r =>
    cases r with
    | nil => exact ⟨e, rfl, h⟩
    | cons => cases h
theorem Snd.ofV {kv : CE → Expr → Bool} {dv : Vars → Mem → R Vl} (hv : ∀ ce W X e, Cok w P n ce W X → kv ce e = true → PE X e (tE w W dv)) : Snd w P n (Ck.ofV kv) (Den.ofV dv) where
  v := hv
  a := fun _ _ _ _ _ h => by cases h
  i := fun ce W X tg e c h => ⟨_, pi_any (hv ce W X e c h), fun σ H R q => by
    rw [c.hK]
    exact imp_iter q⟩
  t := fun ce W X e c h => by
    have h : (plainT e && kv ce e) = true := h
    rw [Bool.and_eq_true] at h
    refine PT.imp (pt_truth (hv ce W X e c h.2) (plain_test h.1)) fun σ H Q q => ?_
    rw [c.hK]
    exact imp_truth q
  wv := fun ce W X op es pos c h => by
    obtain ⟨e, ee, h⟩ := one_of (kv := kv ce) h
    subst ee
    exact pe_one (hv _ _ _ _ c h)
  wt := fun ce W X op es pos c h => by
    obtain ⟨e, ee, q⟩ := one_of (kv := fun e => plainT e && kv ce e) h
    subst ee
    obtain ⟨q1, q2⟩ := Bool.and_eq_true_iff.mp q
    refine pw_one (PT.imp (pt_truth (hv ce W X e c q2) (plain_test q1)) fun σ H Q q => ?_)
    rw [c.hK]
    exact imp_truth q
/-- with a test of its own -/
theorem Snd.ofVT {kv kt : CE → Expr → Bool} {d : Den} (hd : d.i = (Den.ofV d.v).i) (hv : ∀ ce W X e, Cok w P n ce W X → kv ce e = true → PE X e (tE w W d.v)) (ht : ∀ ce W X e, Cok w P n ce W X → kt ce e = true → PT X e (tT w W d.t)) : Snd w P n (Ck.ofVT kv kt) d where
  v := hv
  a := fun _ _ _ _ _ h => by cases h
  i := fun ce W X tg e c h => by
    rw [hd]
    exact (Snd.ofV (dv := d.v) hv).i ce W X tg e c h
  t := ht
  wv := fun ce W X op es pos c h => (Snd.ofV (dv := d.v) hv).wv ce W X op es pos c h
  wt := fun ce W X op es pos c h => by
    obtain ⟨e, ee, h⟩ := one_of (kv := kt ce) h
    subst ee
    exact pw_one (ht _ _ _ _ c h)
/-! ### what is a bool -/
theorem bindOk {α β : Type} {r : R α} {f : α → Mem → R β} {b : β} {M : Mem} (h : r.bind f = .ok b M) : ∃ a M1, r = .ok a M1 ∧ f a M1 = .ok b M := by
  cases r with
  | ok a M1 => exact ⟨a, M1, rfl, h⟩
  | exc c fs M1 => cases h
  | no => cases h
theorem liftOk {α : Type} {o : Option α} {M M' : Mem} {a : α} (h : R.lift o M = .ok a M') : o = some a := by
  cases o with
  | some b => cases h; rfl
  | none => cases h
def Op2.isCmp : Op2 → Bool
  | .add | .sub | .mul | .fdiv | .mod | .pow => false
  | _ => true
theorem cmpI_b {o : Op2} {i j : Int} {z : Vl} (h : (cmpI o i j).bind bool2 = some z) : ∃ b, z = .d (.bl b) := by
  obtain ⟨b, _, e⟩ := Option.bind_eq_some_iff.mp h
  exact ⟨b, bool2_some e⟩
theorem op2_b {o : Op2} (ho : o.isCmp = true) {x y : D} {z : Vl} (h : op2 o x y = some z) : ∃ b, z = .d (.bl b) := by
  unfold op2 at h
  split at h
  · unfold opII at h
    cases o <;> first | (cases ho; done) | exact ⟨_, bool2_some h⟩ | exact cmpI_b h
  all_goals first
    | (cases ho; done)
    | (cases h; done)
    | exact ⟨_, bool2_some h⟩
    | (split at h <;> first | (cases h; done) | exact ⟨_, bool2_some h⟩)
    | (obtain ⟨b, _, e⟩ := Option.bind_eq_some_iff.mp h; exact ⟨b, bool2_some e⟩)
theorem cOk_cmp {o : Op2} {op : CmpOp} (h : cOk o op = true) : o.isCmp = true := by
  cases o <;> first | rfl | (cases op <;> cases h)

/-! ### the constructors -/
theorem and2 {a b : Bool} (h : (a && b) = true) : a = true ∧ b = true := Bool.and_eq_true_iff.mp h
theorem snd_nil {C : Nat → List Vl → Mem → R Vl} : Snd w P n (ck .nil) (den C .nil) where
  v := fun _ _ _ _ _ h => by cases h
  a := fun ce W X es c h => by
    cases es with
    | nil => exact ⟨PA.imp pa_nil fun σ H Q q => imp_nil q, rfl⟩
    | cons => cases h
  i := fun _ _ _ _ _ _ h => by cases h
  t := fun ce W X e c h => by
    have h : (plainT e && false) = true := h
    rw [Bool.and_false] at h
    cases h
  wv := fun ce W X op es pos c h => by
    obtain ⟨e, _, q⟩ := one_of (kv := fun _ => false) h
    cases q
  wt := fun ce W X op es pos c h => by
    obtain ⟨e, _, q⟩ := one_of (kv := fun e => plainT e && false) h
    have q : (plainT e && false) = true := q
    rw [Bool.and_false] at q
    cases q
theorem snd_cons {x r : E} (hx : Snd w P n (ck x) (den (evF P n) x)) (hr : Snd w P n (ck r) (den (evF P n) r)) : Snd w P n (ck (.cons x r)) (den (evF P n) (.cons x r)) where
  v := fun _ _ _ _ _ h => by cases h
  a := fun ce W X es c h => by
    cases es with
    | nil => cases h
    | cons e es =>
      obtain ⟨h1, h⟩ := and2 h
      obtain ⟨h2, h3⟩ := and2 h
      obtain ⟨p, q⟩ := hr.a ce W X es c h3
      refine ⟨PA.imp (pa_cons (hx.v ce W X e c h2) p (star_cons h1)) fun σ H Q q => imp_cons q, ?_⟩
      rw [List.all_cons, h1, q]
      rfl
  i := fun _ _ _ _ _ _ h => by cases h
  t := fun ce W X e c h => by
    have h : (plainT e && false) = true := h
    rw [Bool.and_false] at h
    cases h
  wv := fun ce W X op es pos c h => by
    obtain ⟨e, _, q⟩ := one_of (kv := fun _ => false) h
    cases q
  wt := fun ce W X op es pos c h => by
    obtain ⟨e, _, q⟩ := one_of (kv := fun e => plainT e && false) h
    have q : (plainT e && false) = true := q
    rw [Bool.and_false] at q
    cases q
theorem snd_var {C : Nat → List Vl → Mem → R Vl} {i : Nat} : Snd w P n (ck (.var i)) (den C (.var i)) := Snd.ofV fun ce W X e c h => by
  split at h
  · rename_i x _
    obtain ⟨h1, h⟩ := and2 h
    obtain ⟨h2, h3⟩ := and2 h
    obtain ⟨n1, n2, _⟩ := nameOk_of h3
    exact PE.imp (pe_var (by rw [c.hN]; exact of_decide_eq_true h1) (by rw [c.sc]; exact vis_of h2) n1 n2) fun σ H Q q => imp_var q
  · cases h
theorem snd_k {C : Nat → List Vl → Mem → R Vl} {d : D} : Snd w P n (ck (.k d)) (den C (.k d)) := Snd.ofV fun ce W X e c h => by
  unfold kOk at h
  split at h
  · cases of_decide_eq_true h
    exact PE.imp pe_int fun σ H Q q => imp_k (fun F => by simp only [DR]) q
  · obtain ⟨h1, h2⟩ := and2 h
    cases of_decide_eq_true h1
    exact PE.imp pe_str fun σ H Q q => imp_k (fun F => by simp only [DR]; exact ⟨trivial, h2⟩) q
  · rename_i b c' _ _
    have e : b = c' := by simpa using h
    subst e
    exact PE.imp pe_bl fun σ H Q q => imp_k (fun F => by simp only [DR]) q
  · exact PE.imp pe_non fun σ H Q q => imp_k (fun F => by simp only [DR]) q
  · cases h
theorem snd_g {C : Nat → List Vl → Mem → R Vl} {x : Str} {d : D} : Snd w P n (ck (.g x d)) (den C (.g x d)) := Snd.ofV fun ce W X e c h => by
  split at h
  · rename_i y _
    obtain ⟨h1, h⟩ := and2 h
    obtain ⟨h2, h⟩ := and2 h
    obtain ⟨h3, h4⟩ := and2 h
    obtain ⟨n1, n2, _⟩ := nameOk_of h3
    obtain ⟨p, hp, h5⟩ := List.any_eq_true.mp h4
    obtain ⟨h5, h6⟩ := and2 h5
    obtain ⟨v, u, e1, r, dr⟩ := c.glo p hp
    rw [of_decide_eq_true h5] at e1
    rw [D.same_eq _ _ h6] at dr
    exact PE.imp (pe_glob (c.gl h2) e1 r n1) fun σ H Q q => imp_k dr q
  · cases h
theorem op1_b {o : Op1} (ho : o ≠ .neg) {x : D} {z : Vl} (h : op1 o x = some z) : ∃ b, z = .d (.bl b) := by
  cases o with
  | neg => exact absurd rfl ho
  | isN => cases x <;> exact ⟨_, (Option.some.inj h).symm⟩
  | notN => cases x <;> exact ⟨_, (Option.some.inj h).symm⟩
theorem snd_op1 {o : Op1} {a : E} (ha : Snd w P n (ck a) (den (evF P n) a)) : Snd w P n (ck (.op1 o a)) (den (evF P n) (.op1 o a)) := by
  have hb : o ≠ .neg → ∀ vs M z M', (den (evF P n) (.op1 o a)).v vs M = .ok z M' → ∃ b, z = .d (.bl b) := fun ho vs M z M' h => by
    obtain ⟨x, M1, _, h⟩ := bindOk h
    obtain ⟨d, _, e⟩ := Option.bind_eq_some_iff.mp (liftOk h)
    exact op1_b ho e
  refine Snd.ofVT rfl (fun ce W X e c h => ?_) fun ce W X e c h => ?_
  · split at h
    · split at h
      · exact PE.imp (pe_un un_neg (ha.v _ _ _ _ c h)) fun σ H Q q => imp_neg q
      · cases h
    · split at h
      · exact PE.imp (pe_cmp (pc_isN (ha.v _ _ _ _ c h))) fun σ H Q q => imp_isN q
      · cases h
    · split at h
      · exact PE.imp (pe_cmp (pc_notN (ha.v _ _ _ _ c h))) fun σ H Q q => imp_notN q
      · cases h
    · cases h
  · split at h
    · split at h
      · exact PT.imp (pt_cmp (pc_isN (ha.v _ _ _ _ c h))) fun σ H Q q => imp_isN (imp_test (hb (by intro z; cases z)) q)
      · cases h
    · split at h
      · exact PT.imp (pt_cmp (pc_notN (ha.v _ _ _ _ c h))) fun σ H Q q => imp_notN (imp_test (hb (by intro z; cases z)) q)
      · cases h
    · cases h
theorem snd_op2 {o : Op2} {a b : E} (ha : Snd w P n (ck a) (den (evF P n) a)) (hb : Snd w P n (ck b) (den (evF P n) b)) : Snd w P n (ck (.op2 o a b)) (den (evF P n) (.op2 o a b)) := by
  have hz : o.isCmp = true → ∀ vs M z M', (den (evF P n) (.op2 o a b)).v vs M = .ok z M' → ∃ b, z = .d (.bl b) := fun ho vs M z M' h => by
    obtain ⟨x, M1, _, h⟩ := bindOk h
    obtain ⟨y, M2, _, h⟩ := bindOk h
    obtain ⟨d, _, e⟩ := Option.bind_eq_some_iff.mp (liftOk h)
    obtain ⟨d2, _, e⟩ := Option.bind_eq_some_iff.mp e
    exact op2_b ho e
  refine Snd.ofVT rfl (fun ce W X e c h => ?_) fun ce W X e c h => ?_
  · split at h
    · obtain ⟨h1, h⟩ := and2 h
      obtain ⟨h2, h3⟩ := and2 h
      refine PE.imp (pe_op (bOk_eq h1 ▸ opR c.units o) (ha.v _ _ _ _ c h2) (hb.v _ _ _ _ c h3)) fun σ H Q q => ?_
      rw [c.hK]
      exact imp_op2 (prim_op2 o) q
    · obtain ⟨h1, h⟩ := and2 h
      obtain ⟨h0, h⟩ := and2 h
      obtain ⟨h2, h3⟩ := and2 h
      refine PE.imp (pe_cmpR (cOk_eq h1 ▸ opR c.units o) (ha.v _ _ _ _ c h2) (hb.v _ _ _ _ c h3) (not_marked h0)) fun σ H Q q => ?_
      rw [c.hK]
      exact imp_op2 (prim_op2 o) q
    · cases h
  · split at h
    · obtain ⟨h1, h⟩ := and2 h
      obtain ⟨h2, h3⟩ := and2 h
      refine PT.imp (pt_truth (pe_op (bOk_eq h1 ▸ opR c.units o) (ha.v _ _ _ _ c h2) (hb.v _ _ _ _ c h3)) (plain_test rfl)) fun σ H Q q => ?_
      rw [c.hK]
      exact imp_op2 (prim_op2 o) (imp_truth q)
    · obtain ⟨h1, h⟩ := and2 h
      obtain ⟨h0, h⟩ := and2 h
      obtain ⟨h2, h3⟩ := and2 h
      refine PT.imp (pt_cmpR (cOk_eq h1 ▸ opR c.units o) (ha.v _ _ _ _ c h2) (hb.v _ _ _ _ c h3) (not_marked h0)) fun σ H Q q => ?_
      rw [c.hK]
      exact imp_op2 (prim_op2 o) (imp_test (hz (cOk_cmp h1)) q)
    · cases h
theorem snd_chain {o p : Op2} {a b d : E} (ha : Snd w P n (ck a) (den (evF P n) a)) (hb : Snd w P n (ck b) (den (evF P n) b)) (hd : Snd w P n (ck d) (den (evF P n) d)) : Snd w P n (ck (.chain o p a b d)) (den (evF P n) (.chain o p a b d)) := by
  have hz : p.isCmp = true → ∀ vs M z M', (den (evF P n) (.chain o p a b d)).v vs M = .ok z M' → ∃ b, z = .d (.bl b) := fun ho vs M z M' h => by
    obtain ⟨x, M1, _, h⟩ := bindOk h
    obtain ⟨y, M2, _, h⟩ := bindOk h
    split at h
    · obtain ⟨t, M3, _, h⟩ := bindOk h
      obtain ⟨d, _, e⟩ := Option.bind_eq_some_iff.mp (liftOk h)
      obtain ⟨d2, _, e⟩ := Option.bind_eq_some_iff.mp e
      exact op2_b ho e
    · cases h
      exact ⟨_, rfl⟩
    · cases h
  have key : ∀ ce W X, Cok w P n ce W X → ∀ {x y z : Expr} {op op' : CmpOp}, (cOk o op && (cOk p op' && (notSet z && ((ck a).v ce x && ((ck b).v ce y && (ck d).v ce z))))) = true →
      cOk o op = true ∧ cOk p op' = true ∧ notSet z = true ∧ PE X x (tE w W (den (evF P n) a).v) ∧ PE X y (tE w W (den (evF P n) b).v) ∧ PE X z (tE w W (den (evF P n) d).v) := fun ce W X c {x y z op op'} h => by
    obtain ⟨h1, h⟩ := and2 h
    obtain ⟨h2, h⟩ := and2 h
    obtain ⟨h3, h⟩ := and2 h
    obtain ⟨h4, h⟩ := and2 h
    obtain ⟨h5, h6⟩ := and2 h
    exact ⟨h1, h2, h3, ha.v _ _ _ _ c h4, hb.v _ _ _ _ c h5, hd.v _ _ _ _ c h6⟩
  refine Snd.ofVT rfl (fun ce W X e c h => ?_) fun ce W X e c h => ?_
  · split at h
    · obtain ⟨h1, h2, h3, p1, p2, p3⟩ := key ce W X c h
      refine PE.imp (pe_chain (cOk_eq h1 ▸ opR c.units o) (cOk_eq h2 ▸ opR c.units p) p1 p2 p3 (not_marks h3)) fun σ H Q q => ?_
      rw [c.hK]
      exact imp_chain (prim_op2 o) (prim_op2 p) q
    · cases h
  · split at h
    · obtain ⟨h1, h2, h3, p1, p2, p3⟩ := key ce W X c h
      refine PT.imp (pt_chain (cOk_eq h1 ▸ opR c.units o) (cOk_eq h2 ▸ opR c.units p) p1 p2 p3 (not_marks h3)) fun σ H Q q => ?_
      rw [c.hK]
      exact imp_chain (prim_op2 o) (prim_op2 p) (imp_test (hz (cOk_cmp h2)) q)
    · cases h
end
end Pd

/-! PdG: soundness of the check, the other expressions. -/
namespace Pd
open PySem PySem.Spec L2
section
variable {w : Wr} {P : Pg} {n : Nat}
theorem snd_and {a b : E} (ha : Snd w P n (ck a) (den (evF P n) a)) (hb : Snd w P n (ck b) (den (evF P n) b)) : Snd w P n (ck (.and a b)) (den (evF P n) (.and a b)) := by
  have kv : ∀ ce W X es pos, Cok w P n ce W X → (match es with
      | x :: y :: r => (ck a).v ce x && (ck b).wv ce .And (y :: r)
      | _ => false) = true → PE X (.BoolOp .And es pos) (tE w W (den (evF P n) (.and a b)).v) := fun ce W X es pos c h => by
    split at h
    · obtain ⟨h1, h2⟩ := and2 h
      exact PE.imp (pe_and (ha.v _ _ _ _ c h1) (hb.wv _ _ _ _ _ pos c h2)) fun σ H Q q => imp_andV q
    · cases h
  have kt : ∀ ce W X es pos, Cok w P n ce W X → (match es with
      | x :: y :: r => (ck a).t ce x && (ck b).wt ce .And (y :: r)
      | _ => false) = true → PW X (.BoolOp .And es pos) (tT w W (den (evF P n) (.and a b)).t) := fun ce W X es pos c h => by
    split at h
    · obtain ⟨h1, h2⟩ := and2 h
      exact PW.imp (pw_and (ha.t _ _ _ _ c h1) (hb.wt _ _ _ _ _ pos c h2)) fun σ H Q q => imp_and q
    · cases h
  constructor
  case v =>
    intro ce W X e c h
    simp only [ck, Ck.ofV] at h
    split at h
    · exact kv _ _ _ _ _ c h
    · cases h
  case a =>
    intro _ _ _ _ _ h
    simp only [ck, Ck.ofV] at h
    cases h
  case i =>
    intro _ _ _ _ _ _ h
    simp only [ck, Ck.ofV] at h
    cases h
  case t =>
    intro ce W X e c h
    simp only [ck, Ck.ofV] at h
    split at h
    · exact (kt _ _ _ _ _ c h).pt
    · cases h
  case wv =>
    intro ce W X op es pos c h
    simp only [ck, Ck.ofV] at h
    split at h
    · exact pe_one (kv _ _ _ _ _ c h)
    · exact kv _ _ _ _ _ c h
    · cases h
  case wt =>
    intro ce W X op es pos c h
    simp only [ck, Ck.ofV] at h
    split at h
    · exact pw_one (kt _ _ _ _ _ c h).pt
    · exact kt _ _ _ _ _ c h
    · cases h
theorem snd_or {a b : E} (ha : Snd w P n (ck a) (den (evF P n) a)) (hb : Snd w P n (ck b) (den (evF P n) b)) : Snd w P n (ck (.or a b)) (den (evF P n) (.or a b)) := by
  have kv : ∀ ce W X es pos, Cok w P n ce W X → (match es with
      | x :: y :: r => (ck a).v ce x && (ck b).wv ce .Or (y :: r)
      | _ => false) = true → PE X (.BoolOp .Or es pos) (tE w W (den (evF P n) (.or a b)).v) := fun ce W X es pos c h => by
    split at h
    · obtain ⟨h1, h2⟩ := and2 h
      exact PE.imp (pe_or (ha.v _ _ _ _ c h1) (hb.wv _ _ _ _ _ pos c h2)) fun σ H Q q => imp_orV q
    · cases h
  have kt : ∀ ce W X es pos, Cok w P n ce W X → (match es with
      | x :: y :: r => (ck a).t ce x && (ck b).wt ce .Or (y :: r)
      | _ => false) = true → PW X (.BoolOp .Or es pos) (tT w W (den (evF P n) (.or a b)).t) := fun ce W X es pos c h => by
    split at h
    · obtain ⟨h1, h2⟩ := and2 h
      exact PW.imp (pw_or (ha.t _ _ _ _ c h1) (hb.wt _ _ _ _ _ pos c h2)) fun σ H Q q => imp_or q
    · cases h
  constructor
  case v =>
    intro ce W X e c h
    simp only [ck, Ck.ofV] at h
    split at h
    · exact kv _ _ _ _ _ c h
    · cases h
  case a =>
    intro _ _ _ _ _ h
    simp only [ck, Ck.ofV] at h
    cases h
  case i =>
    intro _ _ _ _ _ _ h
    simp only [ck, Ck.ofV] at h
    cases h
  case t =>
    intro ce W X e c h
    simp only [ck, Ck.ofV] at h
    split at h
    · exact (kt _ _ _ _ _ c h).pt
    · cases h
  case wv =>
    intro ce W X op es pos c h
    simp only [ck, Ck.ofV] at h
    split at h
    · exact pe_one (kv _ _ _ _ _ c h)
    · exact kv _ _ _ _ _ c h
    · cases h
  case wt =>
    intro ce W X op es pos c h
    simp only [ck, Ck.ofV] at h
    split at h
    · exact pw_one (kt _ _ _ _ _ c h).pt
    · exact kt _ _ _ _ _ c h
    · cases h
theorem snd_not {a : E} (ha : Snd w P n (ck a) (den (evF P n) a)) : Snd w P n (ck (.not a)) (den (evF P n) (.not a)) := by
  constructor
  case v =>
    intro ce W X e c h
    simp only [ck, Ck.ofV, Ck.ofVT] at h
    split at h
    · refine PE.imp (pe_notT (ha.v _ _ _ _ c h)) fun σ H Q q => ?_
      rw [c.hK]
      exact imp_notV q
    · cases h
  case a =>
    intro _ _ _ _ _ h
    simp only [ck, Ck.ofV, Ck.ofVT] at h
    cases h
  case i =>
    intro _ _ _ _ _ _ h
    simp only [ck, Ck.ofV, Ck.ofVT] at h
    cases h
  case t =>
    intro ce W X e c h
    simp only [ck, Ck.ofV, Ck.ofVT] at h
    split at h
    · exact PT.imp (pt_not (ha.t _ _ _ _ c h)) fun σ H Q q => imp_not q
    · cases h
  case wv =>
    intro ce W X op es pos c h
    simp only [ck, Ck.ofV, Ck.ofVT] at h
    split at h
    · split at h
      · refine pe_one (PE.imp (pe_notT (ha.v _ _ _ _ c h)) fun σ H Q q => ?_)
        rw [c.hK]
        exact imp_notV q
      · cases h
    · cases h
  case wt =>
    intro ce W X op es pos c h
    simp only [ck, Ck.ofV, Ck.ofVT] at h
    split at h
    · split at h
      · exact pw_one (PT.imp (pt_not (ha.t _ _ _ _ c h)) fun σ H Q q => imp_not q)
      · cases h
    · cases h
theorem snd_ife {c a b : E} (hc : Snd w P n (ck c) (den (evF P n) c)) (ha : Snd w P n (ck a) (den (evF P n) a)) (hb : Snd w P n (ck b) (den (evF P n) b)) : Snd w P n (ck (.ife c a b)) (den (evF P n) (.ife c a b)) := Snd.ofV fun ce W X e ok h => by
  split at h
  · obtain ⟨h1, h⟩ := and2 h
    obtain ⟨h2, h3⟩ := and2 h
    exact PE.imp (pe_ifExp (hc.t _ _ _ _ ok h1) (ha.v _ _ _ _ ok h2) (hb.v _ _ _ _ ok h3)) fun σ H Q q => imp_ife q
  · cases h
theorem snd_tup {a : E} (ha : Snd w P n (ck a) (den (evF P n) a)) : Snd w P n (ck (.tup a)) (den (evF P n) (.tup a)) := Snd.ofV fun ce W X e ok h => by
  split at h
  · exact PE.imp (pe_tup (ha.a _ _ _ _ ok h).1) fun σ H Q q => imp_tup q
  · cases h
theorem snd_lst {a : E} (ha : Snd w P n (ck a) (den (evF P n) a)) : Snd w P n (ck (.lst a)) (den (evF P n) (.lst a)) := Snd.ofV fun ce W X e ok h => by
  split at h
  · exact PE.imp (pe_lst (ha.a _ _ _ _ ok h).1) fun σ H Q q => imp_lst q
  · cases h
theorem snd_idx {a b : E} (ha : Snd w P n (ck a) (den (evF P n) a)) (hb : Snd w P n (ck b) (den (evF P n) b)) : Snd w P n (ck (.idx a b)) (den (evF P n) (.idx a b)) := Snd.ofV fun ce W X e ok h => by
  split at h
  · obtain ⟨h1, h⟩ := and2 h
    obtain ⟨h2, h3⟩ := and2 h
    refine PE.imp (pe_ix ix_seq (ha.v _ _ _ _ ok h2) (hb.v _ _ _ _ ok h3) (not_slice h1)) fun σ H Q q => ?_
    rw [ok.hK]
    exact imp_op2 prim_idx q
  · cases h
end
end Pd

/-! PdH: soundness of the check: calls, rows, comprehensions. -/
namespace Pd
open PySem PySem.Spec L2
section
variable {w : Wr} {P : Pg} {n : Nat}
theorem opt_some {lo : E} {ce : CE} {e : Expr} (h : (ck lo).o ce (some e) = true) : (ck lo).v ce e = true ∧ isTrueE lo = false := by
  cases lo <;> first
    | exact ⟨h, rfl⟩
    | cases h
theorem opt_none {lo : E} {ce : CE} (h : (ck lo).o ce none = true) : lo = .nil := by
  cases lo <;> first
    | rfl
    | cases h
theorem tE_mono {W : WX} {m : Vars → Mem → R Vl} {σ : L2.St} {H : Hp} {Q Q' : VK} (h : tE w W m σ H Q) (i : ∀ v H, Q v H → Q' v H) : tE w W m σ H Q' := by
  obtain ⟨F, G, μ, vs, M, g, s, h⟩ := h
  exact ⟨F, G, μ, vs, M, g, s, h.imp i⟩
theorem tO_mono {W : WX} {m : Vars → Mem → R (Option Int)} {σ : L2.St} {H : Hp} {Q Q' : Option Int → Hp → Prop} (h : tO w W m σ H Q) (i : ∀ v H, Q v H → Q' v H) : tO w W m σ H Q' := by
  obtain ⟨F, G, μ, vs, M, g, s, h⟩ := h
  exact ⟨F, G, μ, vs, M, g, s, h.imp i⟩
theorem snd_sl {a lo hi : E} (ha : Snd w P n (ck a) (den (evF P n) a)) (hl : Snd w P n (ck lo) (den (evF P n) lo)) (hh : Snd w P n (ck hi) (den (evF P n) hi)) : Snd w P n (ck (.sl a lo hi)) (den (evF P n) (.sl a lo hi)) := Snd.ofV fun ce W X e ok h => by
  split at h
  · rename_i x l hx _ _
    obtain ⟨h1, h⟩ := and2 h
    obtain ⟨h2, h3⟩ := and2 h
    have part : ∀ {u : E} {o : Option Expr}, Snd w P n (ck u) (den (evF P n) u) → (ck u).o ce o = true → ∃ t, PO X o t ∧ ∀ σ H Q, tO w W (fun vs M => optI ((den (evF P n) u).v vs M) (isTrueE u) M) σ H Q → t σ H Q := fun {u o} hu h => by
      cases o with
      | none =>
        cases opt_none h
        exact ⟨_, po_none, fun σ H Q q => imp_opt0 q⟩
      | some e =>
        obtain ⟨k1, k2⟩ := opt_some h
        refine ⟨_, po_some (hu.v _ _ _ _ ok k1), fun σ H Q q => ?_⟩
        rw [k2] at q
        exact imp_opt1 q
    obtain ⟨tl, p1, q1⟩ := part hl h2
    obtain ⟨th, p2, q2⟩ := part hh h3
    refine PE.imp (pe_slice slAny (ha.v _ _ _ _ ok h1) p1 p2) fun σ H Q q => ?_
    rw [ok.hK]
    have z := imp_sl (w := w) (W := W) (ma := (den (evF P n) a).v) (ml := fun vs M => optI ((den (evF P n) lo).v vs M) (isTrueE lo) M) (mh := fun vs M => optI ((den (evF P n) hi).v vs M) (isTrueE hi) M) (Q := Q) (σ := σ) (H := H) q
    exact tE_mono z fun x H1 y => q1 _ _ _ (tO_mono y fun l H2 y => q2 _ _ _ y)
  · cases h
theorem bi_boot (b : Bi) : bootBuiltins (biName b) = some (biFn b) := by
  cases b <;> decide +kernel
theorem bi_name (b : Bi) : biName b ≠ "__name__" ∧ (biName b == ("__debug__" : Str)) = false := by
  cases b <;> decide +kernel
theorem bi_kind (b : Bi) : (∃ id, biFn b = .builtin id) ∨ ∃ T, biFn b = .type T := by
  cases b <;> first
    | exact .inl ⟨_, rfl⟩
    | exact .inr ⟨_, rfl⟩
theorem snd_bi {b : Bi} {a : E} (ha : Snd w P n (ck a) (den (evF P n) a)) : Snd w P n (ck (.bi b a)) (den (evF P n) (.bi b a)) := Snd.ofV fun ce W X e ok h => by
  split at h
  · obtain ⟨h1, h2⟩ := and2 h
    obtain ⟨e1, g, m⟩ := ok.blt h1
    subst e1
    obtain ⟨pa, st⟩ := ha.a _ _ _ _ ok h2
    rw [List.all_cons] at st
    obtain ⟨s1, s2⟩ := and2 st
    have hb := bi_boot b
    have hr := biR (X := X) ok.calm b
    have red : ∀ σ H Q, tE w W (den (evF P n) (.bi b a)).v σ H Q → tCB (rBi X.K b) (tA w W (den (evF P n) a).a) σ H Q := fun σ H Q q => by
      rw [ok.hK]
      exact imp_bi (prim_bi b) q
    rcases bi_kind b with ⟨id, eb⟩ | ⟨T, eb⟩
    · rw [eb] at hb hr
      exact PE.imp (pe_callB hr g m hb pa (bi_name b).1 (bi_name b).2 (star_cons s1) (star_any s2)) red
    · rw [eb] at hb hr
      exact PE.imp (pe_callTy hr g m hb pa (bi_name b).1 (bi_name b).2 (star_cons s1) (star_any s2)) red
  · cases h
theorem row_len {C : Nat → List Vl → Mem → R Vl} : ∀ (r : E) (vs : Vars) (M : Mem) (xs : List Vl) (M1 : Mem), (den C r).a vs M = .ok xs M1 → xs.length = r.rowLen := by
  intro r
  induction r with
  | nil =>
    intro vs M xs M1 h
    cases h
    rfl
  | cons x r _ ih =>
    intro vs M xs M1 h
    obtain ⟨y, M2, _, h⟩ := bindOk h
    obtain ⟨ys, M3, e, h⟩ := bindOk h
    cases h
    rw [List.length_cons, ih _ _ _ _ e]
    rfl
  | _ => intro vs M xs M1 h; cases h
theorem evF_fill {f : Nat} {fn : Fn} (hf : P.fns[f]? = some fn) {xs : List Vl} (h1 : xs.length ≤ fn.np) (h2 : fn.np ≤ xs.length + fn.dfl.length) (M : Mem) :
    evF P n f xs M = evF P n f (xs ++ (fn.dfl.drop (xs.length + fn.dfl.length - fn.np)).map .d) M := by
  cases n with
  | zero => rfl
  | succ n =>
    have l1 : (xs ++ (fn.dfl.drop (xs.length + fn.dfl.length - fn.np)).map Vl.d).length = fn.np := by
      rw [List.length_append, List.length_map, List.length_drop]
      omega
    have e1 : fn.fits xs = true := by unfold Fn.fits; rw [Bool.and_eq_true]; exact ⟨decide_eq_true h1, decide_eq_true h2⟩
    have e2 : fn.fits (xs ++ (fn.dfl.drop (xs.length + fn.dfl.length - fn.np)).map Vl.d) = true := by unfold Fn.fits; rw [Bool.and_eq_true, l1]; exact ⟨decide_eq_true (Nat.le_refl _), decide_eq_true (by omega)⟩
    have e3 : startV fn (xs ++ (fn.dfl.drop (xs.length + fn.dfl.length - fn.np)).map Vl.d) = startV fn xs := by
      have e4 : (fn.dfl.drop (fn.np + fn.dfl.length - fn.np)) = [] := List.drop_eq_nil_of_le (by omega)
      unfold startV
      rw [l1, e4, List.map_nil, List.append_nil]
    simp only [evF, hf, e1, e2, e3]
theorem snd_call {f : Nat} {a : E} (ha : Snd w P n (ck a) (den (evF P n) a)) : Snd w P n (ck (.call f a)) (den (evF P n) (.call f a)) := Snd.ofV fun ce W X e ok h => by
  split at h
  · split at h
    · rename_i x _ y ys _ fe hfe
      obtain ⟨h1, h⟩ := and2 h
      obtain ⟨h2, h⟩ := and2 h
      obtain ⟨h3, h⟩ := and2 h
      obtain ⟨h4, h⟩ := and2 h
      obtain ⟨h5, h6⟩ := and2 h
      have h4 := of_decide_eq_true h4
      have h5 := of_decide_eq_true h5
      obtain ⟨⟨fn, f1, f2, f3⟩, fa, fd, ps, m, kp, F, bd⟩ := ok.fns f fe hfe
      have ex := of_decide_eq_true h1
      subst ex
      obtain ⟨pa, st⟩ := ha.a _ _ _ _ ok h6
      rw [List.all_cons] at st
      obtain ⟨s1, s2⟩ := and2 st
      obtain ⟨ds, dvs, hv, hb, hd⟩ := bd a.rowLen h4 h5
      refine PE.imp (pe_callSD F ok.room (ok.gl h2) m kp hb hv (passAt ok.tk) pa (nameOk_of h3).1 (star_cons s1) (star_any s2)) fun σ H Q q => ?_
      have ld : dvs.length = fe.np - a.rowLen := by
        rw [← (hd (fun _ => none) []).length, List.length_map, List.length_drop]
        omega
      refine imp_call (ma := (den (evF P n) a).a) (C := evF P n f) ((fe.dfl.drop (a.rowLen + fe.dfl.length - fe.np)).map .d) (fun vs M xs M1 e => ?_) hd (fun vs M xs M1 e => ?_) q
      · rw [row_len _ _ _ _ _ e, ld]
        omega
      · have l := row_len _ _ _ _ _ e
        have z := evF_fill (n := n) f1 (xs := xs) (by rw [l, f2]; exact h4) (by rw [l, f2, f3]; exact h5) M1
        rw [l, f2, f3] at z
        exact z
    · cases h
  · cases h
theorem ty_boot {t : Ty} (ht : t.blt = true) : bootBuiltins (tyStr t) = some (.type (tyName t)) := by
  cases t <;> first
    | decide +kernel
    | cases ht
theorem ty_name {t : Ty} (ht : t.blt = true) : tyStr t ≠ "__name__" ∧ (tyStr t == ("__debug__" : Str)) = false := by
  cases t <;> first
    | decide +kernel
    | cases ht
theorem ty_pe {ce : CE} {W : WX} {X : Cx} (ok : Cok w P n ce W X) {t : Ty} {e : Expr} (h : tyOk ce t e = true) : PE X e (tC (.ty (tyName t))) ∧ notStar e = true ∧ t.blt = true := by
  unfold tyOk at h
  split at h
  · obtain ⟨h1, h2⟩ := and2 h
    obtain ⟨e1, g, m⟩ := ok.blt h2
    subst e1
    exact ⟨pe_bltn g m (ty_boot h1) rfl (ty_name h1).1 (ty_name h1).2, rfl, h1⟩
  · cases h
theorem tys_pa {ce : CE} {W : WX} {X : Cx} (ok : Cok w P n ce W X) : ∀ {ts : List Ty} {es : List Expr}, tysOk ce ts es = true → PA X es (tTys ts) ∧ ts.all Ty.blt = true
  | [], [], _ => ⟨pa_nil, rfl⟩
  | t :: ts, e :: es, h => by
    obtain ⟨h1, h2⟩ := and2 h
    obtain ⟨p, st, b⟩ := ty_pe ok h1
    obtain ⟨q, r⟩ := tys_pa ok h2
    refine ⟨pa_cons p q (star_cons st), ?_⟩
    rw [List.all_cons, b, r]
    rfl
  | [], _ :: _, h => by cases h
  | _ :: _, [], h => by cases h
theorem snd_isi {ts : List Ty} {a : E} (ha : Snd w P n (ck a) (den (evF P n) a)) : Snd w P n (ck (.isi ts a)) (den (evF P n) (.isi ts a)) := Snd.ofV fun ce W X e ok h => by
  split at h
  · rename_i x p0 y es k1 p1 p2
    obtain ⟨h1, h⟩ := and2 h
    obtain ⟨h2, h⟩ := and2 h
    obtain ⟨h3, h⟩ := and2 h
    obtain ⟨h4, h5⟩ := and2 h
    obtain ⟨e1, g, m⟩ := ok.blt h1
    subst e1
    obtain ⟨p, b⟩ := tys_pa ok h5
    have pa : PA X [y, .Tuple es k1 p1] (tCons (tE w W (den (evF P n) a).v) (tCons (tTup (tTys ts)) tNil)) := pa_cons (ha.v _ _ _ _ ok h4) (pa_cons (pe_tup p) pa_nil (star_cons rfl)) (star_cons h2)
    refine PE.imp (pe_callB call_isiT g m PyProof.Rows.boot_isinstance pa (by decide) (by decide) (star_cons h2) (star_any rfl)) fun σ H Q q => ?_
    rw [ok.hK]
    exact imp_isiT b (of_decide_eq_true h3) q
  · rename_i x _ y z _ _
    obtain ⟨h1, h⟩ := and2 h
    obtain ⟨h2, h⟩ := and2 h
    obtain ⟨h4, h5⟩ := and2 h
    obtain ⟨e1, g, m⟩ := ok.blt h1
    subst e1
    cases ts with
    | nil => cases h5
    | cons t ts =>
      cases ts with
      | cons => simp [tysOk] at h5
      | nil =>
        have h5 : (tyOk ce t z && true) = true := h5
        rw [Bool.and_true] at h5
        obtain ⟨p, st, b⟩ := ty_pe ok h5
        refine PE.imp (pe_callB call_isi g m PyProof.Rows.boot_isinstance (pa_cons (ha.v _ _ _ _ ok h4) (pa_cons p pa_nil (star_cons st)) (star_cons h2)) (by decide) (by decide) (star_cons h2) (star_any (by rw [List.all_cons, st]; rfl))) fun σ H Q q => ?_
        rw [ok.hK]
        exact imp_isi1 b q
  · cases h
end
end Pd

/-! PdI: soundness of the check: methods, rows, comprehensions; all of it. -/
namespace Pd
open PySem PySem.Spec L2
section
variable {w : Wr} {P : Pg} {n : Nat}
theorem bm_slot {m : Bm} (h : m = .index ∨ m = .count ∨ m.mut = true) : Slot "list" (bmName m) (bmId m) ∧ typeOf (.builtin (bmId m)) = pure (.type "method_descriptor") := by
  cases m with
  | append => exact ⟨PySem.F.slot_list_append, PySem.F.type_list_append⟩
  | extend => exact ⟨PySem.F.slot_list_extend, PySem.F.type_list_extend⟩
  | pop => exact ⟨PySem.F.slot_list_pop, PySem.F.type_list_pop⟩
  | reverse => exact ⟨PySem.F.slot_list_reverse, PySem.F.type_list_reverse⟩
  | insert => exact ⟨PySem.F.slot_list_insert, PySem.F.type_list_insert⟩
  | index => exact ⟨PySem.F.slot_list_index, PySem.F.type_list_index⟩
  | count => exact ⟨PySem.F.slot_list_count, PySem.F.type_list_count⟩
  | join => rcases h with h | h | h <;> cases h
theorem row_one {C : Nat → List Vl → Mem → R Vl} {a : E} {ce : CE} {es : List Expr} (h : (ck a).a ce es = true) (hl : a.rowLen = 1) : ∃ x, a = .cons x .nil := by
  cases a <;> first
    | (cases h; done)
    | (cases hl; done)
    | skip
  rename_i x r
  refine ⟨x, ?_⟩
  cases r <;> first
    | rfl
    | (cases hl; done)
    | (cases es with
       | nil => cases h
       | cons e es =>
         obtain ⟨_, h⟩ := and2 h
         obtain ⟨_, h⟩ := and2 h
         cases h)
theorem row_none {a : E} {ce : CE} (h : (ck a).a ce [] = true) : a = .nil := by
  cases a <;> first
    | rfl
    | (cases h; done)
theorem snd_bm {m : Bm} {o a : E} (ho : Snd w P n (ck o) (den (evF P n) o)) (ha : Snd w P n (ck a) (den (evF P n) a)) (hx : ∀ x r, a = .cons x r → Snd w P n (ck x) (den (evF P n) x)) : Snd w P n (ck (.bm m o a)) (den (evF P n) (.bm m o a)) := Snd.ofV fun ce W X e ok h => by
  split at h
  · rename_i x name p ys q
    obtain ⟨h1, h⟩ := and2 h
    obtain ⟨h2, h⟩ := and2 h
    obtain ⟨h3, h⟩ := and2 h
    obtain ⟨h4, h⟩ := and2 h
    obtain ⟨h5, h⟩ := and2 h
    obtain ⟨h6, h7⟩ := and2 h
    have en := of_decide_eq_true h1
    subst en
    have h4 := of_decide_eq_true h4
    have po := ho.v _ _ _ _ ok h5
    obtain ⟨pa, st⟩ := ha.a _ _ _ _ ok h6
    have mutC : m.mut = true → PE X (.Call (.Attribute x (bmName m) p) ys [] q) (tE w W (den (evF P n) (.bm m o a)).v) := fun hm => by
      obtain ⟨sl, ty⟩ := bm_slot (.inr (.inr hm))
      cases ys with
      | nil =>
        cases row_none h6
        refine PE.imp (pe_bm0 PySem.F.plainAttrs_list sl ty (bmR ok.units m) po (not_super h2 _) h3) fun σ H Q z => ?_
        rw [ok.hK]
        exact imp_bmMut0 hm z
      | cons y ys =>
        rw [List.all_cons] at st
        obtain ⟨s1, s2⟩ := and2 st
        refine PE.imp (pe_bm PySem.F.plainAttrs_list sl ty (bmR ok.units m) po pa (not_super h2 _) (star_few (by rw [List.all_cons, s1, s2]; rfl) h4) h3 (star_cons s1) (star_any s2)) fun σ H Q z => ?_
        rw [ok.hK]
        exact imp_bmMut hm z
    cases m with
    | append => exact mutC rfl
    | extend => exact mutC rfl
    | pop => exact mutC rfl
    | reverse => exact mutC rfl
    | insert => exact mutC rfl
    | index =>
      cases ys with
      | nil => cases h7
      | cons y ys =>
        rw [List.all_cons] at st
        obtain ⟨s1, s2⟩ := and2 st
        obtain ⟨sl, ty⟩ := bm_slot (m := .index) (.inl rfl)
        refine PE.imp (pe_bm PySem.F.plainAttrs_list sl ty (bmR ok.units .index) po pa (not_super h2 _) (star_few (by rw [List.all_cons, s1, s2]; rfl) h4) h3 (star_cons s1) (star_any s2)) fun σ H Q z => ?_
        rw [ok.hK]
        exact imp_index z
    | count =>
      cases ys with
      | nil => cases h7
      | cons y ys =>
        rw [List.all_cons] at st
        obtain ⟨s1, s2⟩ := and2 st
        obtain ⟨sl, ty⟩ := bm_slot (m := .count) (.inr (.inl rfl))
        refine PE.imp (pe_bm PySem.F.plainAttrs_list sl ty (bmR ok.units .count) po pa (not_super h2 _) (star_few (by rw [List.all_cons, s1, s2]; rfl) h4) h3 (star_cons s1) (star_any s2)) fun σ H Q z => ?_
        rw [ok.hK]
        exact imp_count z
    | join =>
      obtain ⟨k1, k2⟩ := and2 h7
      obtain ⟨z, ez⟩ := row_one (C := evF P n) h6 (of_decide_eq_true k2)
      subst ez
      have k1 := of_decide_eq_true k1
      cases ys with
      | nil => cases k1
      | cons y ys =>
        cases ys with
        | cons => simp at k1
        | nil =>
          obtain ⟨r1, r2⟩ := and2 h6
          obtain ⟨r2, _⟩ := and2 r2
          have hz : PE X y (tE w W (den (evF P n) z).v) := (hx z .nil rfl).v _ _ _ _ ok r2
          refine PE.imp (pe_join po hz (star_cons r1) (not_super h2 _) h3) fun σ H Q zz => ?_
          rw [ok.hK]
          exact imp_join zz
  · cases h
theorem no_v {C : Nat → List Vl → Mem → R Vl} {d : Den} {ki : CE → Expr → Expr → Bool} (hi : ∀ ce W X tg e, Cok w P n ce W X → ki ce tg e = true → ∃ wi, PI X tg e wi ∧ ∀ σ H R, tI w W d.i σ H R → wi σ H R) : Snd w P n { Ck.ofV (fun _ _ => false) with i := ki } d where
  v := fun _ _ _ _ _ h => by cases h
  a := fun _ _ _ _ _ h => by cases h
  i := hi
  t := fun ce W X e c h => by
    have h : (plainT e && false) = true := h
    rw [Bool.and_false] at h
    cases h
  wv := fun ce W X op es pos c h => by
    obtain ⟨e, _, q⟩ := one_of (kv := fun _ => false) h
    cases q
  wt := fun ce W X op es pos c h => by
    obtain ⟨e, _, q⟩ := one_of (kv := fun e => plainT e && false) h
    have q : (plainT e && false) = true := q
    rw [Bool.and_false] at q
    cases q
theorem zero_of {lo : E} (h : isZero lo = true) : lo = .k (.int 0) := by
  unfold isZero at h
  split at h
  · rfl
  · cases h
theorem star1 {y : Expr} {env : Env} (h : notStar y = true) : starEach [y] env = [(false, eval y env)] := star_cons h
theorem snd_rng {a b : E} (ha : Snd w P n (ck a) (den (evF P n) a)) (hb : Snd w P n (ck b) (den (evF P n) b)) : Snd w P n (ck (.rng a b)) (den (evF P n) (.rng a b)) := no_v (C := evF P n) fun ce W X tg e ok h => by
  split at h
  · obtain ⟨h1, h⟩ := and2 h
    obtain ⟨h2, h⟩ := and2 h
    obtain ⟨h3, h4⟩ := and2 h
    obtain ⟨e1, g, m⟩ := ok.blt h1
    subst e1
    cases zero_of h3
    exact ⟨_, pi_range1 g m (pa_cons (hb.v _ _ _ _ ok h4) pa_nil (star_cons h2)) (star1 h2), fun σ H R q => imp_rng1 q⟩
  · obtain ⟨h1, h⟩ := and2 h
    obtain ⟨h2, h⟩ := and2 h
    obtain ⟨h3, h⟩ := and2 h
    obtain ⟨h4, h5⟩ := and2 h
    obtain ⟨e1, g, m⟩ := ok.blt h1
    subst e1
    exact ⟨_, pi_range2 g m (pa_cons (ha.v _ _ _ _ ok h4) (pa_cons (hb.v _ _ _ _ ok h5) pa_nil (star_cons h3)) (star_cons h2)) (by rw [star_cons h2, star1 h3]) (star1 h3), fun σ H R q => imp_rng2 q⟩
  · cases h
theorem snd_enum {a : E} (ha : Snd w P n (ck a) (den (evF P n) a)) : Snd w P n (ck (.enum a)) (den (evF P n) (.enum a)) := no_v (C := evF P n) fun ce W X tg e ok h => by
  split at h
  · obtain ⟨h1, h⟩ := and2 h
    obtain ⟨h2, h3⟩ := and2 h
    obtain ⟨e1, g, m⟩ := ok.blt h1
    subst e1
    refine ⟨_, pi_enumA g m (pa_cons (ha.v _ _ _ _ ok h3) pa_nil (star_cons h2)) (star1 h2), fun σ H R q => ?_⟩
    rw [ok.hK]
    exact imp_enum q
  · cases h
theorem snd_zip {a b : E} (ha : Snd w P n (ck a) (den (evF P n) a)) (hb : Snd w P n (ck b) (den (evF P n) b)) : Snd w P n (ck (.zip a b)) (den (evF P n) (.zip a b)) := no_v (C := evF P n) fun ce W X tg e ok h => by
  split at h
  · obtain ⟨h1, h⟩ := and2 h
    obtain ⟨h2, h⟩ := and2 h
    obtain ⟨h3, h⟩ := and2 h
    obtain ⟨h4, h5⟩ := and2 h
    obtain ⟨e1, g, m⟩ := ok.blt h1
    subst e1
    refine ⟨_, RZ.pi_zipA g m (pa_cons (ha.v _ _ _ _ ok h4) (pa_cons (hb.v _ _ _ _ ok h5) pa_nil (star_cons h3)) (star_cons h2)) (star_cons h2) (star_any (by rw [List.all_cons, h3]; rfl)), fun σ H R q => ?_⟩
    rw [ok.hK]
    exact imp_zip q
  · cases h
/-! ### targets -/
theorem each_cons {e : Expr} {es : List Expr} {env : Env} (h : notStar e = true) : assignEach (e :: es) env = (false, assign e env) :: assignEach es env := by
  cases e <;> first | rfl | cases h
theorem tg_star {ce : CE} {t : T} {e : Expr} (h : tgOk ce t e = true) : notStar e = true := by
  cases e <;> first | rfl | (cases t <;> cases h)
theorem tgs_each {ce : CE} {env : Env} : ∀ {t : T} {es : List Expr}, tgOk.tgsOk ce t es = true → (assignEach es env).length = tgLen t ∧ (assignEach es env).findIdx? (·.1) = none
  | .t0, [], _ => ⟨rfl, rfl⟩
  | .tc a r, e :: es, h => by
    obtain ⟨h1, h2⟩ := and2 (show (tgOk ce a e && tgOk.tgsOk ce r es) = true from h)
    obtain ⟨l, f⟩ := tgs_each (env := env) h2
    rw [each_cons (tg_star h1)]
    refine ⟨by simp [tgLen, l], ?_⟩
    rw [List.findIdx?_cons, f]
    rfl
  | .t0, _ :: _, h => by cases h
  | .tc _ _, [], h => by cases h
  | .n _, es, h => by cases es <;> cases h
  | .t _, es, h => by cases es <;> cases h
theorem loc_of {ce : CE} {W : WX} {X : Cx} (ok : Cok w P n ce W X) {x : Str} (h : locB ce x = true) : Loc X.env.scope x ∧ (X.fn x = true ∨ X.env.scope.names.lookup x = some .local) := by
  unfold locB at h
  rw [← ok.sc] at h
  split at h
  · rename_i e
    exact ⟨.inl e, .inr e⟩
  · rename_i e
    exact ⟨.inr e, .inl (ok.fnc _ (of_decide_eq_true h))⟩
  · cases h
mutual
theorem tg_pg {ce : CE} {W : WX} {X : Cx} (ok : Cok w P n ce W X) : ∀ {t : T} {e : Expr}, tgOk ce t e = true → PG X e (tgT X.K t)
  | .n i, .Name x _, h => by
    obtain ⟨h1, h2⟩ := and2 (show (decide (ce.N[i]? = some x) && locB ce x) = true from h)
    obtain ⟨l, f⟩ := loc_of ok h2
    exact pg_name (by rw [ok.hN]; exact ok.nd) (by rw [ok.hN]; exact of_decide_eq_true h1) l f
  | .t r, .Tuple es _ _, h => by
    have h : tgOk.tgsOk ce r es = true := h
    obtain ⟨l, f⟩ := tgs_each (env := X.env) h
    exact pg_tup ok.calm (tgs_pg ok h) l f
  | .n i, .BoolOp .., h => by cases h
  | .n i, .Tuple .., h => by cases h
  | .t r, .Name .., h => by cases h
  | .t0, e, h => by cases e <;> cases h
  | .tc _ _, e, h => by cases e <;> cases h
theorem tgs_pg {ce : CE} {W : WX} {X : Cx} (ok : Cok w P n ce W X) : ∀ {t : T} {es : List Expr}, tgOk.tgsOk ce t es = true → PGs X es (tgTs X.K t)
  | .t0, [], _ => pgs_nil
  | .tc a r, e :: es, h => by
    obtain ⟨h1, h2⟩ := and2 (show (tgOk ce a e && tgOk.tgsOk ce r es) = true from h)
    exact pgs_cons (tg_pg ok h1) (tgs_pg ok h2) (by rw [each_cons (tg_star h1)]; rfl)
  | .t0, _ :: _, h => by cases h
  | .tc _ _, [], h => by cases h
  | .n _, es, h => by cases es <;> cases h
  | .t _, es, h => by cases es <;> cases h
end
end
end Pd

/-! PdJ: comprehensions checked; the whole check of expressions is sound. -/
namespace Pd
open PySem PySem.Spec L2
section
variable {w : Wr} {P : Pg} {n : Nat}
theorem own_snd (N : List Str) : ∀ own : List Nat, (ownOf N own).map (·.2) = own
  | [] => rfl
  | i :: r => by
    show i :: (ownOf N r).map (·.2) = _
    rw [own_snd N r]
theorem slots_of {ls own : List Nat} (h : slotsIn ls own = true) : ∀ i ∈ ls, i ∈ own := fun i hi => of_decide_eq_true (List.all_eq_true.mp h i hi)
theorem snd_lc {own : List Nat} {t : T} {it c elt : E} (hi : Snd w P n (ck it) (den (evF P n) it)) (hc : Snd w P n (ck c) (den (evF P n) c)) (he : Snd w P n (ck elt) (den (evF P n) elt)) : Snd w P n (ck (.lc own t it c elt)) (den (evF P n) (.lc own t it c elt)) := Snd.ofV fun ce W X e ok h => by
  split at h
  · rename_i x tg iter ifs scope pos
    obtain ⟨h1, h⟩ := and2 h
    obtain ⟨h2, h⟩ := and2 h
    obtain ⟨h3, h⟩ := and2 h
    obtain ⟨h4, h⟩ := and2 h
    obtain ⟨h5, h⟩ := and2 h
    obtain ⟨h6, h7⟩ := and2 h
    have bo := blkOk_by h2
    obtain ⟨wi, pi, ri⟩ := hi.i _ _ _ _ _ ok h5
    have key : ∃ tt, (∀ (s : Shared) (H : Hp) (C : Addr) (cl : List (Str × Addr)) (fp : List Addr), PTs (X.blk s H scope (compEnvC scope cl C X.env) fp) ifs tt) ∧
        ∀ σ H Q, tT w W0 (if isTrueE c then fun _ M => .ok true M else (den (evF P n) c).t) σ H Q → tt σ H Q := by
      cases ifs with
      | nil =>
        have h7 : isTrueE c = true := h7
        refine ⟨_, fun s H C cl fp => pts_nil, fun σ H Q q => ?_⟩
        rw [if_pos h7] at q
        exact imp_yes q
      | cons y r =>
        cases r with
        | nil =>
          obtain ⟨k1, k2⟩ := and2 (show (!isTrueE c && (ck c).t (ce.blk scope) y) = true from h7)
          refine ⟨_, fun s H C cl fp => pts_one (hc.t _ _ _ _ (ok.blk bo.uniq s H C cl fp) k2), fun σ H Q q => ?_⟩
          have k1 : ¬ isTrueE c = true := by simpa using k1
          rw [if_neg k1] at q
          exact q
        | cons => cases h7
    obtain ⟨tt, pt, rt⟩ := key
    have pg : ∀ (s : Shared) (H : Hp) (C : Addr) (cl : List (Str × Addr)) (fp : List Addr), PG (X.blk s H scope (compEnvC scope cl C X.env) fp) tg (tgT X.K t) := fun s H C cl fp => tg_pg (ok.blk bo.uniq s H C cl fp) h4
    refine PE.imp (pe_lc (own := ownOf ce.N own) ok.calm (by rw [ok.hN]; exact ok.nd) pi (by rw [ok.hN, ok.sc]; exact bo) pg pt (fun s H C cl fp => he.v _ _ _ _ (ok.blk bo.uniq s H C cl fp) h6) (not_set h1)) fun σ H Q q => ?_
    rw [own_snd, ok.hK]
    exact imp_lc ri rt (slots_of h3) q
  · cases h
theorem ck_all (w : Wr) (P : Pg) (n : Nat) : ∀ e : E, Snd w P n (ck e) (den (evF P n) e) ∧ ∀ x r, e = .cons x r → Snd w P n (ck x) (den (evF P n) x) := by
  intro e
  induction e with
  | nil => exact ⟨snd_nil, fun x r h => by cases h⟩
  | cons x r hx hr => exact ⟨snd_cons hx.1 hr.1, fun y s h => by cases h; exact hx.1⟩
  | var i => exact ⟨snd_var, fun x r h => by cases h⟩
  | k d => exact ⟨snd_k, fun x r h => by cases h⟩
  | g x d => exact ⟨snd_g, fun x r h => by cases h⟩
  | op1 o a ha => exact ⟨snd_op1 ha.1, fun x r h => by cases h⟩
  | op2 o a b ha hb => exact ⟨snd_op2 ha.1 hb.1, fun x r h => by cases h⟩
  | chain o p a b c ha hb hc => exact ⟨snd_chain ha.1 hb.1 hc.1, fun x r h => by cases h⟩
  | and a b ha hb => exact ⟨snd_and ha.1 hb.1, fun x r h => by cases h⟩
  | or a b ha hb => exact ⟨snd_or ha.1 hb.1, fun x r h => by cases h⟩
  | not a ha => exact ⟨snd_not ha.1, fun x r h => by cases h⟩
  | ife c a b hc ha hb => exact ⟨snd_ife hc.1 ha.1 hb.1, fun x r h => by cases h⟩
  | tup a ha => exact ⟨snd_tup ha.1, fun x r h => by cases h⟩
  | lst a ha => exact ⟨snd_lst ha.1, fun x r h => by cases h⟩
  | idx a i ha hi => exact ⟨snd_idx ha.1 hi.1, fun x r h => by cases h⟩
  | sl a lo hi ha hl hh => exact ⟨snd_sl ha.1 hl.1 hh.1, fun x r h => by cases h⟩
  | bi b a ha => exact ⟨snd_bi ha.1, fun x r h => by cases h⟩
  | bm m o a ho ha => exact ⟨snd_bm ho.1 ha.1 ha.2, fun x r h => by cases h⟩
  | call f a ha => exact ⟨snd_call ha.1, fun x r h => by cases h⟩
  | isi ts a ha => exact ⟨snd_isi ha.1, fun x r h => by cases h⟩
  | rng a b ha hb => exact ⟨snd_rng ha.1 hb.1, fun x r h => by cases h⟩
  | enum a ha => exact ⟨snd_enum ha.1, fun x r h => by cases h⟩
  | zip a b ha hb => exact ⟨snd_zip ha.1 hb.1, fun x r h => by cases h⟩
  | lc own t it c elt hi hc he => exact ⟨snd_lc hi.1 hc.1 he.1, fun x r h => by cases h⟩
theorem ck_ok (w : Wr) (P : Pg) (n : Nat) (e : E) : Snd w P n (ck e) (den (evF P n) e) := (ck_all w P n e).1
end
end Pd

/-! PdK: statements: the readings follow from the evaluator. -/
namespace Pd
open PySem PySem.Spec L2
section
variable (w : Wr)
def OutS (F G : Hp) (μ : List Addr) (r : RS) (D : Ends) (W : WX) : Prop := match r with
  | .nx v M => ∀ F' H σ' μ', Fle F F' → μ <+: μ' → GR w F' G H μ' M → SR w F' μ' v σ' → D.nx σ' H
  | .brk v M => ∀ F' H σ' μ', Fle F F' → μ <+: μ' → GR w F' G H μ' M → SR w F' μ' v σ' → D.bk σ' H
  | .cnt v M => ∀ F' H σ' μ', Fle F F' → μ <+: μ' → GR w F' G H μ' M → SR w F' μ' v σ' → D.ct σ' H
  | .ret x M => ∀ F' H v μ', Fle F F' → μ <+: μ' → GR w F' G H μ' M → RR w F' G μ' H x v → D.rt v H
  | .exc c fs v M => ∀ F' H σ' μ' dd, Fle F F' → μ <+: μ' → GR w F' G H μ' M → SR w F' μ' v σ' → ExcR w F' H fs dd → W (.ref (w.ca c)) (some dd) σ' H
  | .no => False
def tS (W : WX) (m : Vars → Mem → RS) : TS := fun D σ H => ∃ F G μ vs M, GR w F G H μ M ∧ SR w F μ vs σ ∧ OutS w F G μ (m vs M) D W
end
section
variable {w : Wr} {W : WX} {σ : L2.St} {H : Hp} {D : Ends}
theorem OutS.le {F F' G : Hp} {μ μ' : List Addr} {r : RS} (l : Fle F F') (p : μ <+: μ') (h : OutS w F G μ r D W) : OutS w F' G μ' r D W := by
  cases r with
  | nx v M => exact fun F2 H σ2 μ2 l2 p2 => h F2 H σ2 μ2 (l.trans l2) (p.trans p2)
  | brk v M => exact fun F2 H σ2 μ2 l2 p2 => h F2 H σ2 μ2 (l.trans l2) (p.trans p2)
  | cnt v M => exact fun F2 H σ2 μ2 l2 p2 => h F2 H σ2 μ2 (l.trans l2) (p.trans p2)
  | ret x M => exact fun F2 H v μ2 l2 p2 => h F2 H v μ2 (l.trans l2) (p.trans p2)
  | exc c fs v M => exact fun F2 H σ2 μ2 dd l2 p2 => h F2 H σ2 μ2 dd (l.trans l2) (p.trans p2)
  | no => exact h
/-- the parts of a statement -/
theorem tE.stepR {ma : Vars → Mem → R Vl} {F G : Hp} {μ : List Addr} {vs : Vars} {M : Mem} {f : Vl → Mem → RS} {P : VK}
    (g : GR w F G H μ M) (s : SR w F μ vs σ) (h : OutS w F G μ ((ma vs M).thenS vs f) D W)
    (k : ∀ v H1 x M1 F1, GR w F1 G H1 μ M1 → SR w F1 μ vs σ → Fle F F1 → RR w F1 G μ H1 x v → OutS w F1 G μ (f x M1) D W → P v H1) : tE w W ma σ H P := by
  refine ⟨F, G, μ, vs, M, g, s, ?_⟩
  cases e : ma vs M with
  | ok x M1 =>
    rw [e] at h
    exact fun F1 H1 v l1 g1 r1 => k v H1 x M1 F1 g1 (s.le l1) l1 r1 (OutS.le l1 List.prefix_rfl h)
  | exc c fs M1 =>
    rw [e] at h
    exact fun F1 H1 dd l1 g1 x1 => h F1 H1 σ μ dd l1 List.prefix_rfl g1 (s.le l1) x1
  | no => rw [e] at h; exact h
theorem tE.stepS {ma : Vars → Mem → R Vl} {F G : Hp} {μ : List Addr} {vs : Vars} {M : Mem} {f : Vl → Mem → RS} {P : VK}
    (g : GR w F G H μ M) (s : SR w F μ vs σ) (h : OutS w F G μ ((ma vs M).thenS vs f) D W)
    (k : ∀ v H1 x M1 F1, GR w F1 G H1 μ M1 → SR w F1 μ vs σ → Fle F F1 → VR w F1 μ (frz x) v → OutS w F1 G μ (f x M1) D W → P v H1) : tE w W ma σ H P :=
  tE.stepR g s h fun v H1 x M1 F1 g1 s1 l1 r1 h1 => by
    obtain ⟨F2, l2, g2, r2⟩ := g1.frz r1
    exact k v H1 x M1 F2 g2 (s1.le l2) (l1.trans l2) r2 (OutS.le l2 List.prefix_rfl h1)
theorem tT.stepS {ma : Vars → Mem → R Bool} {F G : Hp} {μ : List Addr} {vs : Vars} {M : Mem} {f : Bool → Mem → RS} {P : Bool → Hp → Prop}
    (g : GR w F G H μ M) (s : SR w F μ vs σ) (h : OutS w F G μ ((ma vs M).thenS vs f) D W)
    (k : ∀ b H1 M1 F1, GR w F1 G H1 μ M1 → SR w F1 μ vs σ → Fle F F1 → OutS w F1 G μ (f b M1) D W → P b H1) : tT w W ma σ H P := by
  refine ⟨F, G, μ, vs, M, g, s, ?_⟩
  cases e : ma vs M with
  | ok x M1 =>
    rw [e] at h
    intro F1 H1 b l1 g1 r1
    have r1 : x = b := r1
    subst r1
    exact k _ H1 M1 F1 g1 (s.le l1) l1 (OutS.le l1 List.prefix_rfl h)
  | exc c fs M1 =>
    rw [e] at h
    exact fun F1 H1 dd l1 g1 x1 => h F1 H1 σ μ dd l1 List.prefix_rfl g1 (s.le l1) x1
  | no => rw [e] at h; exact h

theorem s_skip (h : tS w W (fun v M => .nx v M) D σ H) : tNext D σ H := by
  obtain ⟨F, G, μ, vs, M, g, s, h⟩ := h
  exact h F H σ μ Fle.refl List.prefix_rfl g s
theorem s_brk (h : tS w W (fun v M => .brk v M) D σ H) : tBreak D σ H := by
  obtain ⟨F, G, μ, vs, M, g, s, h⟩ := h
  exact h F H σ μ Fle.refl List.prefix_rfl g s
theorem s_cnt (h : tS w W (fun v M => .cnt v M) D σ H) : tCont D σ H := by
  obtain ⟨F, G, μ, vs, M, g, s, h⟩ := h
  exact h F H σ μ Fle.refl List.prefix_rfl g s
theorem s_retn (h : tS w W (fun v M => .ret (.d .non) M) D σ H) : tRetN D σ H := by
  obtain ⟨F, G, μ, vs, M, g, s, h⟩ := h
  refine h F H .non μ Fle.refl List.prefix_rfl g ?_
  show DR w F .non .non
  simp only [DR]
theorem s_nev (h : tS w W (fun _ _ => .no) D σ H) : tNever D σ H := by
  obtain ⟨F, G, μ, vs, M, g, s, h⟩ := h
  exact h
theorem s_seq {a b : Vars → Mem → RS} (h : tS w W (fun v M => (a v M).andThen b) D σ H) : tSeq (tS w W a) (tS w W b) D σ H := by
  obtain ⟨F, G, μ, vs, M, g, s, h⟩ := h
  refine ⟨F, G, μ, vs, M, g, s, ?_⟩
  have h : OutS w F G μ ((a vs M).andThen b) D W := h
  cases e : a vs M with
  | nx v M1 =>
    rw [e] at h
    exact fun F' H' σ' μ' l p g' s' => ⟨F', G, μ', v, M1, g', s', OutS.le l p h⟩
  | brk v M1 => rw [e] at h; exact h
  | cnt v M1 => rw [e] at h; exact h
  | ret x M1 => rw [e] at h; exact h
  | exc c fs v M1 => rw [e] at h; exact h
  | no => rw [e] at h; exact h
theorem s_ret {m : Vars → Mem → R Vl} (h : tS w W (fun v M => (m v M).thenS v fun x M1 => .ret x M1) D σ H) : tRet (tE w W m) D σ H := by
  obtain ⟨F, G, μ, vs, M, g, s, h⟩ := h
  exact tE.stepR g s h fun v H1 x M1 F1 g1 s1 l1 r1 h1 => h1 F1 H1 v μ Fle.refl List.prefix_rfl g1 r1
theorem s_ex {m : Vars → Mem → R Vl} (h : tS w W (fun v M => (m v M).thenS v fun _ M1 => .nx v M1) D σ H) : tDrop (tE w W m) D σ H := by
  obtain ⟨F, G, μ, vs, M, g, s, h⟩ := h
  exact tE.stepR g s h fun v H1 x M1 F1 g1 s1 l1 r1 h1 => h1 F1 H1 σ μ Fle.refl List.prefix_rfl g1 s1
theorem s_ite {c : Vars → Mem → R Bool} {a b : Vars → Mem → RS} (h : tS w W (fun v M => (c v M).thenS v fun x M1 => if x then a v M1 else b v M1) D σ H) : tIfS (tT w W c) (tS w W a) (tS w W b) D σ H := by
  obtain ⟨F, G, μ, vs, M, g, s, h⟩ := h
  refine tT.stepS g s h fun k H1 M1 F1 g1 s1 l1 h1 => ?_
  cases k with
  | true =>
    rw [if_pos rfl] at h1 ⊢
    exact ⟨F1, G, μ, vs, M1, g1, s1, h1⟩
  | false =>
    rw [if_neg (by decide)] at h1 ⊢
    exact ⟨F1, G, μ, vs, M1, g1, s1, h1⟩
theorem s_setN {i : Nat} {m : Vars → Mem → R Vl} (h : tS w W (fun v M => (m v M).thenS v fun x M1 => if i < v.length then .nx (v.set i (some (frz x))) M1 else .no) D σ H) : tAsg (tE w W m) (gName i) D σ H := by
  obtain ⟨F, G, μ, vs, M, g, s, h⟩ := h
  refine tE.stepS g s h fun v H1 x M1 F1 g1 s1 l1 r1 h1 => ?_
  split at h1
  · exact h1 F1 H1 _ μ Fle.refl List.prefix_rfl g1 (s1.set r1)
  · exact h1.elim
theorem s_setT {t : T} {m : Vars → Mem → R Vl} (h : tS w W (fun v M => (m v M).thenS v fun x M1 => match frz x with
        | .d x => (match bindT t x v with
          | some v1 => .nx v1 M1
          | none => .no)
        | _ => .no) D σ H) : tAsg (tE w W m) (tgT w.K t) D σ H := by
  obtain ⟨F, G, μ, vs, M, g, s, h⟩ := h
  refine tE.stepS g s h fun v H1 x M1 F1 g1 s1 l1 r1 h1 => ?_
  split at h1
  · rename_i d ed
    rw [ed] at r1
    split at h1
    · rename_i v1 eb
      exact bind_ok g1.sub t d v vs v1 σ _ s1 r1 eb fun σ' s' => h1 F1 H1 σ' μ Fle.refl List.prefix_rfl g1 s'
    · exact h1.elim
  · exact h1.elim
theorem as_cell {F G H1 : Hp} {μ : List Addr} {M M' : Mem} {x y : Vl} {v : V} (g : GR w F G H1 μ M) (r : RR w F G μ H1 x v) (e : asCell M x = .ok y M') : ∃ a, v = .ref a ∧ GR w F G H1 (μ ++ [a]) M' ∧ y = .loc M.length ∧ VR w F (μ ++ [a]) y v := by
  cases x with
  | new d =>
    obtain ⟨a, o, ev, f, k, m, ho, q⟩ := r
    cases e
    refine ⟨a, ev, g.addCell f k m ho q, rfl, a, ?_, ev⟩
    rw [← g.len, List.getElem?_append_right (Nat.le_refl _), Nat.sub_self]
    rfl
  | d x => cases e
  | loc n => cases e
theorem s_cell {i : Nat} {m : Vars → Mem → R Vl} (h : tS w W (fun v M => (m v M).thenS v fun x M1 => match asCell M1 x with
      | .ok y M2 => if i < v.length then .nx (v.set i (some y)) M2 else .no
      | _ => .no) D σ H) : tAsg (tE w W m) (gName i) D σ H := by
  obtain ⟨F, G, μ, vs, M, g, s, h⟩ := h
  refine tE.stepR g s h fun v H1 x M1 F1 g1 s1 l1 r1 h1 => ?_
  cases e : asCell M1 x with
  | ok y M2 =>
    rw [e] at h1
    obtain ⟨a, ev, g2, ey, r2⟩ := as_cell g1 r1 e
    dsimp only at h1
    split at h1
    · exact h1 F1 H1 _ (μ ++ [a]) Fle.refl (List.prefix_append _ _) g2 (s1.ext.set r2)
    · exact h1.elim
  | exc c fs M2 => rw [e] at h1; exact h1.elim
  | no => rw [e] at h1; exact h1.elim
theorem s_setix {mo mi me : Vars → Mem → R Vl} (h : tS w W (fun v M => (me v M).thenS v fun y M1 => match toD M1 y with
      | some (yd, M2) => (mo v M2).thenS v fun x M3 => (mi v M3).thenS v fun k M4 => match k with
        | .d kd => (match setIx M4 x kd yd with
          | some M5 => .nx v M5
          | none => .no)
        | _ => .no
      | none => .no) D σ H) : tAsg (tE w W me) (gSub (tE w W mo) (tE w W mi) rSetL) D σ H := by
  obtain ⟨F, G, μ, vs, M, g, s, h⟩ := h
  refine tE.stepS g s h fun v H1 y M1 F1 g1 s1 l1 r1 h1 => ?_
  cases et : toD M1 y with
  | none => rw [et] at h1; exact h1.elim
  | some p =>
    obtain ⟨yd, M2⟩ := p
    rw [et] at h1
    have et' : toD M1 (frz y) = some (yd, M2) := by cases y <;> exact et
    obtain ⟨F2, l2, g2, d2⟩ := g1.toD r1 et'
    refine tE.stepS g2 (s1.le l2) (OutS.le l2 List.prefix_rfl h1) fun o H2 x M3 F3 g3 s3 l3 r3 h3 => ?_
    refine tE.stepS g3 s3 h3 fun k H3 kx M4 F4 g4 s4 l4 r4 h4 => ?_
    split at h4
    · rename_i kd
      have r4 : DR w F4 kd k := r4
      split at h4
      · rename_i M5 e5
        unfold setIx at e5
        split at e5
        · rename_i n z hh
          split at e5
          · rename_i xs hn
            obtain ⟨j, ej, e6⟩ := Option.bind_eq_some_iff.mp e5
            split at e6
            · rename_i hj
              cases Option.some.inj e6
              obtain ⟨a, ea, ev⟩ := r3.le l4
              subst ev
              simp only [DR] at r4
              obtain ⟨b, e1, q1, _⟩ := g4.cell n _ hn
              rw [ea] at e1
              cases e1
              obtain ⟨_, _, ob, hob, us, eob, zl, dr⟩ := q1 rfl
              subst eob
              refine ⟨a, us, z, j, rfl, r4, hob, by rw [← dr.length]; exact ej, ?_⟩
              refine h4 F4 _ σ μ Fle.refl List.prefix_rfl (g4.write hn ea ⟨us.set j v, rfl, by rw [List.length_set]; exact zl, dr.set w (d2.le w (l3.trans l4)) j⟩) s4
            · cases e6
          · cases e5
        · cases e5
      · exact h4.elim
    · exact h4.elim
def ipOf : Op2 → TIp
  | .add => ipI fun i j => i + j
  | .sub => ipI fun i j => i - j
  | _ => fun _ _ _ _ => False
theorem s_aug {i : Nat} {o : Op2} {m : Vars → Mem → R Vl} (ho : o = .add ∨ o = .sub) (h : tS w W (fun v M => match v[i]? with
      | some (some (.d x)) => (m v M).thenS v fun y M1 => match y with
        | .d y => if augOk o x y then (match op2 o x y with
          | some z => .nx (v.set i (some z)) M1
          | none => .no) else .no
        | _ => .no
      | _ => .no) D σ H) : tAug i (tE w W m) (ipOf o) D σ H := by
  obtain ⟨F, G, μ, vs, M, g, s, h⟩ := h
  dsimp only at h
  split at h
  · rename_i x ex
    obtain ⟨v, ev, rx⟩ := s.at_ i _ ex
    have rx : DR w F x v := rx
    refine ⟨v, ev, tE.stepS g s h fun u H1 y M1 F1 g1 s1 l1 r1 h1 => ?_⟩
    split at h1
    · rename_i d
      have r1 : DR w F1 d u := r1
      split at h1
      · rename_i ha
        split at h1
        · rename_i z ez
          have rx := rx.le w l1
          unfold augOk at ha
          split at ha
          · simp only [DR] at rx r1
            cases Option.some.inj ez
            exact ⟨_, _, rx, r1, h1 F1 H1 _ μ Fle.refl List.prefix_rfl g1 (s1.set (x := .d (.int _)) (by show DR w F1 (.int _) (.int _); simp only [DR]))⟩
          · simp only [DR] at rx r1
            cases Option.some.inj ez
            exact ⟨_, _, rx, r1, h1 F1 H1 _ μ Fle.refl List.prefix_rfl g1 (s1.set (x := .d (.int _)) (by show DR w F1 (.int _) (.int _); simp only [DR]))⟩
          · rcases ho with ho | ho <;> cases ho
          · cases ha
        · exact h1.elim
      · exact h1.elim
    · exact h1.elim
  · exact h.elim
theorem s_while {c : Vars → Mem → R Bool} {b : Vars → Mem → RS} {N : Nat} (h : tS w W (whGo c b N) D σ H) : tWhile (tT w W c) (tS w W b) D σ H := by
  refine ⟨fun m σ H => tS w W (whGo c b m) D σ H, ⟨N, h⟩, fun m σ H h => ?_⟩
  obtain ⟨F, G, μ, vs, M, g, s, h⟩ := h
  cases m with
  | zero => exact h.elim
  | succ m =>
    refine tT.stepS g s h fun k H1 M1 F1 g1 s1 l1 h1 => ?_
    cases k with
    | true =>
      rw [if_pos rfl] at h1 ⊢
      refine ⟨fun σ H => tS w W (whGo c b m) D σ H, fun σ' H' q => ⟨m, Nat.lt_succ_self m, q⟩, F1, G, μ, vs, M1, g1, s1, ?_⟩
      cases e : b vs M1 with
      | nx v M2 =>
        rw [e] at h1
        exact fun F' H' σ' μ' l p g' s' => ⟨F', G, μ', v, M2, g', s', OutS.le l p h1⟩
      | cnt v M2 =>
        rw [e] at h1
        exact fun F' H' σ' μ' l p g' s' => ⟨F', G, μ', v, M2, g', s', OutS.le l p h1⟩
      | brk v M2 => rw [e] at h1; exact h1
      | ret x M2 => rw [e] at h1; exact h1
      | exc cc fs v M2 => rw [e] at h1; exact h1
      | no => rw [e] at h1; exact h1
    | false =>
      rw [if_neg (by decide)] at h1 ⊢
      exact h1 F1 H1 σ μ Fle.refl List.prefix_rfl g1 s1
theorem s_for {wi : TI} {mi : Vars → Mem → R (List Pd.D × Gd)} {t : T} {mb : Vars → Mem → RS} (hi : ∀ σ H R, tI w W mi σ H R → wi σ H R) (h : tS w W (fun v M => (mi v M).thenS v fun xs M1 => forGo t xs.2 mb xs.1 v M1) D σ H) :
    tFor wi (tgT w.K t) (tS w W mb) D σ H := by
  obtain ⟨F, G, μ, vs, M, g, s, h⟩ := h
  refine hi σ H _ ⟨F, G, μ, vs, M, g, s, ?_⟩
  have h : OutS w F G μ ((mi vs M).thenS vs fun xs M1 => forGo t xs.2 mb xs.1 vs M1) D W := h
  cases e : mi vs M with
  | exc c fs M1 =>
    rw [e] at h
    exact fun F1 H1 dd l1 g1 x1 => h F1 H1 σ μ dd l1 List.prefix_rfl g1 (s.le l1) x1
  | no => rw [e] at h; exact h
  | ok p M1 =>
    rw [e] at h
    obtain ⟨xs, gd⟩ := p
    intro F1 H1 J l1 g1 iok
    have h1 : OutS w F1 G μ (forGo t gd mb xs vs M1) D W := OutS.le l1 List.prefix_rfl h
    obtain ⟨hlen, iok⟩ := iok
    refine ⟨fun i m σ H => ∃ F' G' μ' v M', Fle F1 F' ∧ μ <+: μ' ∧ GR w F' G' H μ' M' ∧ SR w F' μ' v σ ∧ i ≤ xs.length ∧ m = xs.length - i ∧ OutS w F' G' μ' (forGo t gd mb (xs.drop i) v M') D W,
      ⟨xs.length, F1, G, μ, vs, M1, Fle.refl, List.prefix_rfl, g1, s.le l1, Nat.zero_le _, rfl, h1⟩, fun i m σ H hW => ?_⟩
    obtain ⟨F', G', μ', v, M', l', p', g', s', hil, em, ho⟩ := hW
    cases hx : xs[i]? with
    | none =>
      rw [List.drop_eq_nil_of_le (List.getElem?_eq_none_iff.mp hx)] at ho
      unfold forGo at ho
      split at ho
      · rename_i hc
        exact .inl ⟨(iok i F' G' H μ' M' l' p' g' hc).2 hx, ho F' H σ μ' Fle.refl List.prefix_rfl g' s'⟩
      · exact ho.elim
    | some x =>
      have hi' : i < xs.length := (List.getElem?_eq_some_iff.mp hx).1
      have ed : xs.drop i = x :: xs.drop (i + 1) := by
        rw [List.drop_eq_getElem_cons hi']
        rw [List.getElem?_eq_getElem hi'] at hx
        cases hx
        rfl
      rw [ed] at ho
      unfold forGo at ho
      split at ho
      · rename_i hc
        obtain ⟨hgo, hyld⟩ := (iok i F' G' H μ' M' l' p' g' hc).1 x hx
        refine .inr ⟨hgo, fun σ2 H2 => ∃ F2 G2 μ2 v2 M2, Fle F1 F2 ∧ μ <+: μ2 ∧ GR w F2 G2 H2 μ2 M2 ∧ SR w F2 μ2 v2 σ2 ∧ OutS w F2 G2 μ2 (forGo t gd mb (xs.drop (i + 1)) v2 M2) D W, fun σ2 H2 hN => ?_, fun u H2 hy => ?_⟩
        · obtain ⟨F2, G2, μ2, v2, M2, a1, a2, a3, a4, a5⟩ := hN
          exact ⟨xs.length - (i + 1), by omega, F2, G2, μ2, v2, M2, a1, a2, a3, a4, hi', rfl, a5⟩
        · obtain ⟨F2, l2, g2, dx⟩ := hyld u H2 hy
          split at ho
          · exact ho.elim
          · rename_i v1 hb
            refine bind_ok g2.sub t x u v v1 _ _ (s'.le l2) dx hb fun σ2 s2 => ⟨F2, G', μ', v1, M', g2, s2, ?_⟩
            have ho := OutS.le l2 (List.prefix_rfl (l := μ')) ho
            cases eb : mb v1 M' with
            | nx v2 M2 =>
              rw [eb] at ho
              exact fun F3 H3 σ3 μ3 l3 p3 g3 s3 => ⟨F3, G', μ3, v2, M2, (l'.trans l2).trans l3, p'.trans p3, g3, s3, OutS.le l3 p3 ho⟩
            | cnt v2 M2 =>
              rw [eb] at ho
              exact fun F3 H3 σ3 μ3 l3 p3 g3 s3 => ⟨F3, G', μ3, v2, M2, (l'.trans l2).trans l3, p'.trans p3, g3, s3, OutS.le l3 p3 ho⟩
            | brk v2 M2 => rw [eb] at ho; exact ho
            | ret y M2 => rw [eb] at ho; exact ho
            | exc cc fs v2 M2 => rw [eb] at ho; exact ho
            | no => rw [eb] at ho; exact ho
      · exact ho.elim
end
end Pd

/-! PdL: several names stored at once. -/
namespace Pd
open PySem PySem.Spec L2
section
variable {w : Wr} {W : WX} {σ : L2.St} {H : Hp} {D : Ends}
theorem thenS_bind {α β : Type} {r : R α} {f : α → Mem → R β} {vs : Vars} {g : β → Mem → RS} : (r.bind f).thenS vs g = r.thenS vs fun a M => (f a M).thenS vs g := by
  cases r <;> rfl
/-- a row, item by item -/
def rowT (w : Wr) (W : WX) (C : Nat → List Vl → Mem → R Vl) : E → TA
  | .cons x r => tCons (tE w W (den C x).v) (rowT w W C r)
  | _ => tNil
theorem SR.pre {F : Hp} {μ μ' : List Addr} {vs : Vars} {σ : L2.St} (p : μ <+: μ') (s : SR w F μ vs σ) : SR w F μ' vs σ := by
  obtain ⟨t, e⟩ := p
  rw [← e]
  exact s.ext
theorem VR.pre {F : Hp} {μ μ' : List Addr} {x : Vl} {v : V} (p : μ <+: μ') (s : VR w F μ x v) : VR w F μ' x v := by
  obtain ⟨t, e⟩ := p
  rw [← e]
  exact s.ext
theorem row_p {C : Nat → List Vl → Mem → R Vl} {vs : Vars} : ∀ {es : E} {cs : List Bool} {F G : Hp} {μ : List Addr} {M : Mem} {f : List Vl → Mem → RS} {H : Hp} {P : List V → Hp → Prop},
    GR w F G H μ M → SR w F μ vs σ → OutS w F G μ (((den C es).p cs vs M).thenS vs f) D W →
    (∀ us H1 zs M1 F1 μ1, GR w F1 G H1 μ1 M1 → SR w F1 μ1 vs σ → Fle F F1 → μ <+: μ1 → VRs w F1 μ1 zs us → OutS w F1 G μ1 (f zs M1) D W → P us H1) → rowT w W C es σ H P := by
  intro es
  induction es with
  | nil =>
    intro cs F G μ M f H P g s h k
    cases cs with
    | nil => exact k [] H [] M F μ g s Fle.refl List.prefix_rfl rfl h
    | cons => exact h.elim
  | cons x r _ ih =>
    intro cs F G μ M f H P g s h k
    cases cs with
    | nil => exact h.elim
    | cons c cs =>
      have h : OutS w F G μ (((den C x).v vs M).thenS vs fun y M1 => ((if c then asCell M1 y else .ok (frz y) M1).bind fun z M2 => ((den C r).p cs vs M2).bind fun zs M3 => .ok (z :: zs) M3).thenS vs f) D W := by
        rw [← thenS_bind]
        exact h
      refine tE.stepR g s h fun v H1 y M1 F1 g1 s1 l1 r1 h1 => ?_
      rw [thenS_bind] at h1
      have fin : ∀ (z : Vl) (M2 : Mem) (F2 : Hp) (μ2 : List Addr), GR w F2 G H1 μ2 M2 → SR w F2 μ2 vs σ → Fle F F2 → μ <+: μ2 → VR w F2 μ2 z v → OutS w F2 G μ2 ((((den C r).p cs vs M2).bind fun zs M3 => .ok (z :: zs) M3).thenS vs f) D W →
          rowT w W C r σ H1 fun xs H2 => P (v :: xs) H2 := fun z M2 F2 μ2 g2 s2 l2 p2 rz h2 => by
        rw [thenS_bind] at h2
        refine ih g2 s2 h2 fun us H2 zs M3 F3 μ3 g3 s3 l3 p3 r3 h3 => ?_
        exact k (v :: us) H2 (z :: zs) M3 F3 μ3 g3 s3 (l2.trans l3) (p2.trans p3) ⟨v, us, rfl, (rz.le l3).pre p3, r3⟩ h3
      cases c with
      | true =>
        rw [if_pos rfl] at h1
        cases ec : asCell M1 y with
        | ok z M2 =>
          rw [ec] at h1
          obtain ⟨a, ev, g2, _, r2⟩ := as_cell g1 r1 ec
          exact fin z M2 F1 (μ ++ [a]) g2 s1.ext l1 (List.prefix_append _ _) r2 (OutS.le Fle.refl (List.prefix_append _ _) h1)
        | exc c' fs M2 => cases y <;> cases ec
        | no => rw [ec] at h1; exact h1.elim
      | false =>
        rw [if_neg (by decide)] at h1
        obtain ⟨F2, l2, g2, r2⟩ := g1.frz r1
        exact fin (frz y) M1 F2 μ g2 (s1.le l2) (l1.trans l2) List.prefix_rfl r2 (OutS.le l2 List.prefix_rfl h1)
  | _ => intro cs F G μ M f H P g s h k; exact h.elim
def isT : List Nat → T
  | [] => .t0
  | i :: r => .tc (.n i) (isT r)
theorem isT_len : ∀ is : List Nat, tgLen (isT is) = is.length
  | [] => rfl
  | i :: r => by simp [isT, tgLen, isT_len r]
theorem setAll_ok {K : PySem.W.Frag} {F : Hp} {μ : List Addr} {Q : L2.St → Hp → Prop} : ∀ {is : List Nat} {xs : List Vl} {us : List V} {v v1 : Vars} {σ : L2.St}, VRs w F μ xs us → SR w F μ v σ → setAll v is xs = some v1 → (∀ σ', SR w F μ v1 σ' → Q σ' H) → tgTs K (isT is) us σ H Q
  | [], [], us, v, v1, σ, r, s, e, k => by
    have r : us = [] := r
    cases e
    subst r
    exact ⟨rfl, k σ s⟩
  | i :: is, x :: xs, us, v, v1, σ, r, s, e, k => by
    obtain ⟨u, ur, eu, r1, r2⟩ := r
    subst eu
    simp only [setAll] at e
    split at e
    · exact ⟨u, ur, rfl, setAll_ok (K := K) r2 (s.set r1) e k⟩
    · cases e
  | [], _ :: _, _, _, _, _, _, _, e, _ => by cases e
  | _ :: _, [], _, _, _, _, _, _, e, _ => by cases e
theorem setAll_len : ∀ {is : List Nat} {xs : List Vl} {v v1 : Vars}, setAll v is xs = some v1 → xs.length = is.length
  | [], [], _, _, _ => rfl
  | i :: is, x :: xs, v, v1, e => by
    simp only [setAll] at e
    split at e
    · simp [setAll_len e]
    · cases e
  | [], _ :: _, _, _, e => by cases e
  | _ :: _, [], _, _, e => by cases e
theorem par_rel {C : Nat → List Vl → Mem → R Vl} {es : E} {is : List Nat} {cs : List Bool} {P : List V → Hp → Prop} (h : tS w W (fun v M => ((den C es).p cs v M).thenS v fun xs M1 => match setAll v is xs with
      | some v1 => .nx v1 M1
      | none => .no) D σ H)
    (k : ∀ us H1 F1 G1 μ1 vs M1 zs v1, GR w F1 G1 H1 μ1 M1 → SR w F1 μ1 vs σ → VRs w F1 μ1 zs us → setAll vs is zs = some v1 → OutS w F1 G1 μ1 (.nx v1 M1) D W → P us H1) : rowT w W C es σ H P := by
  obtain ⟨F, G, μ, vs, M, g, s, h⟩ := h
  refine row_p g s h fun us H1 zs M1 F1 μ1 g1 s1 l1 p1 r1 h1 => ?_
  split at h1
  · rename_i v1 e
    exact k us H1 F1 G μ1 vs M1 zs v1 g1 s1 r1 e h1
  · exact h1.elim
theorem s_parT {C : Nat → List Vl → Mem → R Vl} {es : E} {is : List Nat} {cs : List Bool} (hl : is.length ≤ 1000) (h : tS w W (fun v M => ((den C es).p cs v M).thenS v fun xs M1 => match setAll v is xs with
      | some v1 => .nx v1 M1
      | none => .no) D σ H) : tAsg (tTup (rowT w W C es)) (tgT w.K (.t (isT is))) D σ H := by
  refine par_rel h fun us H1 F1 G1 μ1 vs M1 zs v1 g1 s1 r1 e h1 => ?_
  have l1 : us.length = is.length := by rw [← r1.length, setAll_len e]
  refine ⟨by rw [l1]; exact le1000 hl, fun p hp => ?_⟩
  have g2 := g1.grow (o := .tup us) hp
  simp only [tgT]
  exact ⟨p, us, rfl, .of upd_same, by rw [isT_len, l1], setAll_ok r1 s1 e fun σ' s' => h1 F1 _ σ' μ1 Fle.refl List.prefix_rfl g2 s'⟩
theorem s_par2 {C : Nat → List Vl → Mem → R Vl} {es : E} {i j : Nat} {cs : List Bool} (h : tS w W (fun v M => ((den C es).p cs v M).thenS v fun xs M1 => match setAll v [i, j] xs with
      | some v1 => .nx v1 M1
      | none => .no) D σ H) : tPar i j (rowT w W C es) D σ H := by
  refine par_rel h fun us H1 F1 G1 μ1 vs M1 zs v1 g1 s1 r1 e h1 => ?_
  have q := setAll_ok (K := w.K) (Q := fun σ' H' => D.nx σ' H') r1 s1 e fun σ' s' => h1 F1 H1 σ' μ1 Fle.refl List.prefix_rfl g1 s'
  obtain ⟨a, ur, e1, b, ur2, e2, e3, q⟩ := q
  subst e1 e2 e3
  exact ⟨a, b, rfl, q⟩
theorem s_par3 {C : Nat → List Vl → Mem → R Vl} {es : E} {i j l : Nat} {cs : List Bool} (h : tS w W (fun v M => ((den C es).p cs v M).thenS v fun xs M1 => match setAll v [i, j, l] xs with
      | some v1 => .nx v1 M1
      | none => .no) D σ H) : tPar3 i j l (rowT w W C es) D σ H := by
  refine par_rel h fun us H1 F1 G1 μ1 vs M1 zs v1 g1 s1 r1 e h1 => ?_
  have q := setAll_ok (K := w.K) (Q := fun σ' H' => D.nx σ' H') r1 s1 e fun σ' s' => h1 F1 H1 σ' μ1 Fle.refl List.prefix_rfl g1 s'
  obtain ⟨a, ur, e1, b, ur2, e2, c, ur3, e4, e3, q⟩ := q
  subst e1 e2 e4 e3
  exact ⟨a, b, c, rfl, q⟩
end
/-! ### which stores are swapped -/
def swLine (ts : List Expr) : Nat := (ts.head?.map (·.pos.line)).getD 0
def swName (sc : Scope) (line : Nat) : Expr → Option Str
  | .Name id pos => if sc.names.lookup id == some .local && pos.line == line then some id else none
  | _ => none
def swNames (sc : Scope) (ts : List Expr) : List Str := ts.filterMap (swName sc (swLine ts))
def swB (sc : Scope) (ts vs : List Expr) : Option Bool :=
  if !(ts.length == 2 || ts.length == 3) || vs.length != ts.length then some false
  else if !vs.all notStar then some false
  else if (swNames sc ts).length != ts.length || (swNames sc ts).eraseDups.length != (swNames sc ts).length then some false
  else if vs.all (foldedForSure 8) then some false
  else if vs.all (constantsAlone 8) then none
  else some true
theorem any_star {f : Expr → Bool} (hf : ∀ e, f e = !notStar e) : ∀ vs : List Expr, vs.any f = !vs.all notStar
  | [] => rfl
  | e :: r => by
    rw [List.any_cons, List.all_cons, any_star hf r, hf e]
    cases notStar e <;> cases List.all r notStar <;> rfl
theorem fm_names {f : Expr → Option Str} {sc : Scope} {ts : List Expr} (hf : ∀ e, f e = swName sc (swLine ts) e) : ts.filterMap f = swNames sc ts := by
  unfold swNames
  congr 1
  funext e
  exact hf e
theorem sw_eq {env : Env} {ts vs : List Expr} {kt k2 : Nat} {pt p2 : Pos} {b : Bool} (hk : env.scope.kind = .function) (h : swB env.scope ts vs = some b) :
    swappedStores [.Tuple ts kt pt] (.Tuple vs k2 p2) env = pure (if b then some (swNames env.scope ts) else none) := by
  have hb : (env.blockKind != ScopeKind.function) = false := by
    unfold Env.blockKind
    rw [hk]
    rfl
  unfold swB at h
  unfold swappedStores
  simp only [hb, Bool.or_false]
  by_cases c1 : (!(ts.length == 2 || ts.length == 3) || vs.length != ts.length) = true
  · rw [if_pos c1] at h ⊢
    cases h
    rfl
  · rw [if_neg c1] at h ⊢
    rw [any_star (fun e => by cases e <;> rfl) vs, fm_names (sc := env.scope) (ts := ts) (fun e => by cases e <;> rfl)]
    by_cases c2 : (!vs.all notStar) = true
    · rw [if_pos c2] at h ⊢
      cases h
      rfl
    · rw [if_neg c2] at h ⊢
      by_cases c3 : ((swNames env.scope ts).length != ts.length || (swNames env.scope ts).eraseDups.length != (swNames env.scope ts).length) = true
      · rw [if_pos c3] at h ⊢
        cases h
        rfl
      · rw [if_neg c3] at h ⊢
        by_cases c4 : vs.all (foldedForSure 8) = true
        · rw [if_pos c4] at h ⊢
          cases h
          rfl
        · rw [if_neg c4] at h ⊢
          by_cases c5 : vs.all (constantsAlone 8) = true
          · rw [if_pos c5] at h
            cases h
          · rw [if_neg c5] at h ⊢
            cases h
            rfl
end Pd

/-! PdM: the check of statements, its soundness. -/
namespace Pd
open PySem PySem.Spec L2

structure CkS where
  s : CE → Stmt → Bool
  ss : CE → List Stmt → Bool
def notComp : Expr → Bool
  | .ListComp _ _ _ _ | .SetComp _ _ _ _ | .DictComp _ _ _ _ _ => false
  | _ => true
def isLC : Expr → Bool
  | .ListComp _ _ _ _ => true
  | _ => false
def notTup : Expr → Bool
  | .Tuple _ _ _ => false
  | _ => true
def nameTg (ce : CE) (i : Nat) (x : Str) : Bool := decide (ce.N[i]? = some x) && locB ce x
def rowOk (ce : CE) : E → List Expr → Bool
  | .nil, [] => true
  | .cons x r, e :: es => notStar e && ((ck x).v ce e && rowOk ce r es)
  | _, _ => false
def localB (sc : Scope) (x : Str) : Bool := match sc.names.lookup x with
  | some .local => true
  | _ => false
def parOk (ce : CE) (is : List Nat) (ts vs : List Expr) : Bool := match swB ce.sc ts vs with
  | none => false
  | some false => tgOk.tgsOk ce (isT is) ts && decide (is.length ≤ 1000)
  | some true => match is, ts with
    | [i, j], [.Name x _, .Name y _] => decide (ce.N[i]? = some x) && (decide (ce.N[j]? = some y) && (decide (i ≠ j) && (localB ce.sc x && (localB ce.sc y && decide (swNames ce.sc ts = [x, y])))))
    | [i, j, l], [.Name x _, .Name y _, .Name z _] => decide (ce.N[i]? = some x) && (decide (ce.N[j]? = some y) && (decide (ce.N[l]? = some z) && (decide (i ≠ j) && (decide (i ≠ l) && (decide (j ≠ l) &&
        (localB ce.sc x && (localB ce.sc y && (localB ce.sc z && decide (swNames ce.sc ts = [x, y, z])))))))))
    | _, _ => false
def CkS.of (s : CE → Stmt → Bool) : CkS := ⟨s, fun _ _ => false⟩
def setNm (i : Nat) (e : E) (ce : CE) : Stmt → Bool
  | .Assign [.Name x _] v _ => nameTg ce i x && ((notComp v || isLC v) && (ck e).v ce v)
  | _ => false
def addsub : Op2 → Bool
  | .add | .sub => true
  | _ => false
def ckS : S → CkS
  | .skip => ⟨fun _ st => match st with
      | .Pass _ => true
      | _ => false, fun _ ss => match ss with
      | [] => true
      | _ => false⟩
  | .seq a b => ⟨fun _ _ => false, fun ce ss => match ss with
      | st :: rest => (ckS a).s ce st && (ckS b).ss ce rest
      | _ => false⟩
  | .set (.n i) e => .of (setNm i e)
  | .set t e => .of fun ce st => match st with
      | .Assign [.Tuple ts k p] v _ => notTup v && (tgOk ce t (.Tuple ts k p) && (ck e).v ce v)
      | _ => false
  | .cell i e => .of (setNm i e)
  | .par is _ es => .of fun ce st => match st with
      | .Assign [.Tuple ts _ _] (.Tuple vs _ _) _ => parOk ce is ts vs && rowOk ce es vs
      | _ => false
  | .setix o i e => .of fun ce st => match st with
      | .Assign [.Subscript a b _] v _ => notSlice b && ((ck o).v ce a && ((ck i).v ce b && (ck e).v ce v))
      | _ => false
  | .aug i o e => .of fun ce st => match st with
      | .AugAssign (.Name x _) op v _ => bOk o op && (addsub o && (nameTg ce i x && (ck e).v ce v))
      | _ => false
  | .ex e => .of fun ce st => match st with
      | .Expr v _ => notComp v && (ck e).v ce v
      | _ => false
  | .ret e => .of fun ce st => match st with
      | .Return (some v) _ => (ck e).v ce v
      | _ => false
  | .retn => .of fun ce st => match st with
      | .Return none _ => true
      | _ => false
  | .ite c a b => .of fun ce st => match st with
      | .If x p q _ => (ck c).t ce x && ((ckS a).ss ce p && (ckS b).ss ce q)
      | _ => false
  | .for t it b => .of fun ce st => match st with
      | .For tg iter p [] _ => notSet iter && ((ck it).i ce tg iter && (tgOk ce t tg && (ckS b).ss ce p))
      | _ => false
  | .whil c b => .of fun ce st => match st with
      | .While x p [] _ => (ck c).t ce x && (ckS b).ss ce p
      | _ => false
  | .raise _ _ => .of fun _ _ => false
  | .brk => .of fun _ st => match st with
      | .Break _ => true
      | _ => false
  | .cnt => .of fun _ st => match st with
      | .Continue _ => true
      | _ => false
  | .nev => ⟨fun _ _ => true, fun _ _ => true⟩

section
variable {w : Wr} {P : Pg} {n : Nat}
structure Sok (w : Wr) (P : Pg) (n : Nat) (ce : CE) (W : WX) (X : Cx) : Prop where
  ok : Cok w P n ce W X
  pas : PassesOwn (model X.prog X.w) X.A X.env X.xe
  kind : ce.sc.kind = .function
structure SndS (w : Wr) (P : Pg) (n : Nat) (k : CkS) (m : Vars → Mem → RS) : Prop where
  s : ∀ ce W X st, Sok w P n ce W X → k.s ce st = true → PS X st (tS w W m)
  ss : ∀ ce W X st, Sok w P n ce W X → k.ss ce st = true → PSs X st (tS w W m)
theorem SndS.of {k : CE → Stmt → Bool} {m : Vars → Mem → RS} (h : ∀ ce W X st, Sok w P n ce W X → k ce st = true → PS X st (tS w W m)) : SndS w P n (CkS.of k) m := ⟨h, fun _ _ _ _ _ h => by cases h⟩
/-- the parts of a comprehension -/
theorem lc_parts {ce : CE} {W : WX} {X : Cx} {own : List Nat} {t : T} {it c elt : E} {e : Expr} (ok : Cok w P n ce W X) (h : (ck (.lc own t it c elt)).v ce e = true) :
    ∃ x tg iter ifs scope pos wi tt ow te, e = .ListComp x [⟨tg, iter, ifs, 0⟩] scope pos ∧ PI X tg iter wi ∧ BlkOk X.N X.env.scope scope ow ∧
      (∀ (s : Shared) (H : Hp) (C : Addr) (cl : List (Str × Addr)) (fp : List Addr), PG (X.blk s H scope (compEnvC scope cl C X.env) fp) tg (tgT X.K t)) ∧
      (∀ (s : Shared) (H : Hp) (C : Addr) (cl : List (Str × Addr)) (fp : List Addr), PTs (X.blk s H scope (compEnvC scope cl C X.env) fp) ifs tt) ∧
      (∀ (s : Shared) (H : Hp) (C : Addr) (cl : List (Str × Addr)) (fp : List Addr), PE (X.blk s H scope (compEnvC scope cl C X.env) fp) x te) ∧ notSet iter = true ∧
      ∀ σ H Q, tE w W (den (evF P n) (.lc own t it c elt)).v σ H Q → tLc wi (tgT X.K t) tt te (ow.map (·.2)) σ H Q := by
  simp only [ck, Ck.ofV] at h
  split at h
  · rename_i x tg iter ifs scope pos
    obtain ⟨h1, h⟩ := and2 h
    obtain ⟨h2, h⟩ := and2 h
    obtain ⟨h3, h⟩ := and2 h
    obtain ⟨h4, h⟩ := and2 h
    obtain ⟨h5, h⟩ := and2 h
    obtain ⟨h6, h7⟩ := and2 h
    have bo := blkOk_by h2
    obtain ⟨wi, pi, ri⟩ := (ck_ok w P n it).i _ _ _ _ _ ok h5
    have key : ∃ tt, (∀ (s : Shared) (H : Hp) (C : Addr) (cl : List (Str × Addr)) (fp : List Addr), PTs (X.blk s H scope (compEnvC scope cl C X.env) fp) ifs tt) ∧
        ∀ σ H Q, tT w W0 (if isTrueE c then fun _ M => .ok true M else (den (evF P n) c).t) σ H Q → tt σ H Q := by
      cases ifs with
      | nil =>
        have h7 : isTrueE c = true := h7
        refine ⟨_, fun s H C cl fp => pts_nil, fun σ H Q q => ?_⟩
        rw [if_pos h7] at q
        exact imp_yes q
      | cons y r =>
        cases r with
        | nil =>
          obtain ⟨k1, k2⟩ := and2 (show (!isTrueE c && (ck c).t (ce.blk scope) y) = true from h7)
          refine ⟨_, fun s H C cl fp => pts_one ((ck_ok w P n c).t _ _ _ _ (ok.blk bo.uniq s H C cl fp) k2), fun σ H Q q => ?_⟩
          have k1 : ¬ isTrueE c = true := by simpa using k1
          rw [if_neg k1] at q
          exact q
        | cons => cases h7
    obtain ⟨tt, pt, rt⟩ := key
    refine ⟨x, tg, iter, ifs, scope, pos, wi, tt, ownOf ce.N own, tE w W0 (den (evF P n) elt).v, rfl, pi, by rw [ok.hN, ok.sc]; exact bo, fun s H C cl fp => tg_pg (ok.blk bo.uniq s H C cl fp) h4, pt, fun s H C cl fp => (ck_ok w P n elt).v _ _ _ _ (ok.blk bo.uniq s H C cl fp) h6, h1, fun σ H Q q => ?_⟩
    rw [own_snd, ok.hK]
    exact imp_lc ri rt (slots_of h3) q
  · cases h
theorem is_lc {e : E} {ce : CE} {v : Expr} (hv : isLC v = true) (h : (ck e).v ce v = true) : ∃ own t it c elt, e = .lc own t it c elt := by
  cases v with
  | ListComp x gs sc p =>
    cases e <;> first
      | exact ⟨_, _, _, _, _, rfl⟩
      | (cases h; done)
      | skip
    · rename_i d
      cases d <;> cases h
  | _ => cases hv
theorem swaps_no {v : Expr} {t : Option Expr} {l : Nat} {env : Env} (h : notComp v = true) : swapsWith v t l env = pure false := by
  cases v <;> first
    | rfl
    | cases h
/-- a comprehension that is stored by name -/
def lcSwap (env : Env) (t : Str) (pos : Pos) (v : Expr) (scope : Scope) : Bool := env.blockKind == .function && env.kindOf t == some .local && pos.line == v.pos.line
      && !(scope.names.any fun (n, k) => n == t && (k == .local || k == .cell))
theorem setNm_ok {i : Nat} {e : E} {ce : CE} {W : WX} {X : Cx} {st : Stmt} (ok : Sok w P n ce W X) (h : setNm i e ce st = true) : ∃ ts : TS, PS X st ts ∧ ∀ D σ H, tAsg (tE w W (den (evF P n) e).v) (gName i) D σ H → ts D σ H := by
  unfold setNm at h
  split at h
  · rename_i x px v pos
    obtain ⟨h1, h⟩ := and2 h
    obtain ⟨h2, h3⟩ := and2 h
    obtain ⟨k1, k2⟩ := and2 h1
    have k1 : X.N[i]? = some x := by
      rw [ok.ok.hN]
      exact of_decide_eq_true k1
    obtain ⟨l, f⟩ := loc_of ok.ok k2
    have nd : X.N.Nodup := by
      rw [ok.ok.hN]
      exact ok.ok.nd
    have pe := (ck_ok w P n e).v _ _ _ _ ok.ok h3
    by_cases hc : notComp v = true
    · exact ⟨_, ps_set nd k1 l pe (swaps_no hc) f, fun D σ H q => q⟩
    · have hl : isLC v = true := by
        rw [Bool.or_eq_true] at h2
        rcases h2 with z | z
        · exact absurd z hc
        · exact z
      obtain ⟨own, t, it, c, elt, ee⟩ := is_lc hl h3
      subst ee
      obtain ⟨xx, tg, iter, ifs, scope, p2, wi, tt, ow, te, ev, pi, bo, pg, pt, pel, ns, red⟩ := lc_parts ok.ok h3
      subst ev
      have sw : swapsWith (.ListComp xx [⟨tg, iter, ifs, 0⟩] scope p2) (some (.Name x px)) pos.line X.env = pure (lcSwap X.env x px (.ListComp xx [⟨tg, iter, ifs, 0⟩] scope p2) scope) := rfl
      cases hb : lcSwap X.env x px (.ListComp xx [⟨tg, iter, ifs, 0⟩] scope p2) scope with
      | false =>
        rw [hb] at sw
        exact ⟨_, ps_set nd k1 l pe sw f, fun D σ H q => q⟩
      | true =>
        rw [hb] at sw
        have hy : X.env.scope.names.lookup x = some .local := by
          unfold lcSwap at hb
          simp only [Bool.and_eq_true, beq_iff_eq] at hb
          exact hb.1.1.2
        exact ⟨_, ps_setLc ok.ok.calm nd k1 hy sw pi bo pg pt pel (not_set ns), fun D σ H q => red σ H _ q⟩
  · cases h
theorem row_pa {ce : CE} {W : WX} {X : Cx} (ok : Cok w P n ce W X) : ∀ {es : E} {l : List Expr}, rowOk ce es l = true → PA X l (rowT w W (evF P n) es)
  | .nil, [], _ => pa_nil
  | .cons x r, e :: es, h => by
    obtain ⟨h1, h⟩ := and2 (show (notStar e && ((ck x).v ce e && rowOk ce r es)) = true from h)
    obtain ⟨h2, h3⟩ := and2 h
    exact pa_cons ((ck_ok w P n x).v _ _ _ _ ok h2) (row_pa ok h3) (star_cons h1)
  | .nil, _ :: _, h => by cases h
  | .cons _ _, [], h => by cases h
theorem local_of {sc : Scope} {x : Str} (h : localB sc x = true) : sc.names.lookup x = some .local := by
  unfold localB at h
  split at h
  · assumption
  · cases h
end
end Pd

/-! PdN: the check of statements is sound. -/
namespace Pd
open PySem PySem.Spec L2
section
variable {w : Wr} {P : Pg} {n : Nat}
abbrev Zm (P : Pg) (n : Nat) : Sm := ⟨evF P n, P.W, P.X⟩
theorem ipOf_ok {X : Cx} {o : Op2} {op : Operator} (h : bOk o op = true) (ha : addsub o = true) : PIp X op (ipOf o) ∧ (o = .add ∨ o = .sub) := by
  cases o <;> first
    | (cases ha; done)
    | skip
  · cases op <;> first
      | (cases h; done)
      | exact ⟨ip_add, .inl rfl⟩
  · cases op <;> first
      | (cases h; done)
      | exact ⟨ip_sub, .inr rfl⟩
theorem swT_no {v : Expr} {ts : List Expr} {k : Nat} {p : Pos} {l : Nat} {env : Env} : swapsWithSole [.Tuple ts k p] v l env = pure false := by
  cases v <;> rfl
theorem swS_no {v a b : Expr} {p : Pos} {l : Nat} {env : Env} : swapsWithSole [.Subscript a b p] v l env = pure false := by
  cases v <;> rfl
theorem swT_none {v : Expr} {ts : List Expr} {k : Nat} {p : Pos} {env : Env} (h : notTup v = true) : swappedStores [.Tuple ts k p] v env = pure none := by
  cases v <;> first
    | rfl
    | cases h
theorem swS_none {v a b : Expr} {p : Pos} {env : Env} : swappedStores [.Subscript a b p] v env = pure none := by
  cases v <;> rfl
theorem snd_setNm {i : Nat} {e : E} {s : S} (hs : ckS s = .of (setNm i e)) (red : ∀ W D σ H, tS w W (evS (Zm P n) s) D σ H → tAsg (tE w W (den (evF P n) e).v) (gName i) D σ H) : SndS w P n (ckS s) (evS (Zm P n) s) := by
  rw [hs]
  refine SndS.of fun ce W X st ok h => ?_
  obtain ⟨ts, p, r⟩ := setNm_ok ok h
  exact PS.imp p fun D σ H q => r D σ H (red W D σ H q)
theorem snd_par {is : List Nat} {cs : List Bool} {es : E} : SndS w P n (ckS (.par is cs es)) (evS (Zm P n) (.par is cs es)) := SndS.of fun ce W X st ok h => by
  split at h
  · rename_i ts kt pt vs k2 p2 pos
    obtain ⟨h1, h2⟩ := and2 h
    have pr := row_pa ok.ok h2
    have hk : X.env.scope.kind = .function := by
      rw [ok.ok.sc]
      exact ok.kind
    have nd : X.N.Nodup := by
      rw [ok.ok.hN]
      exact ok.ok.nd
    unfold parOk at h1
    split at h1
    · cases h1
    · rename_i hsw
      obtain ⟨k1, k2'⟩ := and2 h1
      have sw := sw_eq (env := X.env) (ts := ts) (vs := vs) (kt := kt) (k2 := k2) (pt := pt) (p2 := p2) hk (by rw [ok.ok.sc]; exact hsw)
      have tg : tgOk ce (.t (isT is)) (.Tuple ts kt pt) = true := k1
      refine PS.imp (ps_asg (pe_tup pr) (tg_pg ok.ok tg) swT_no sw) fun D σ H q => ?_
      rw [ok.ok.hK]
      exact s_parT (of_decide_eq_true k2') q
    · rename_i hsw
      have sw := sw_eq (env := X.env) (ts := ts) (vs := vs) (kt := kt) (k2 := k2) (pt := pt) (p2 := p2) hk (by rw [ok.ok.sc]; exact hsw)
      rw [if_pos rfl, ok.ok.sc] at sw
      have lk : ∀ {x : Str}, localB ce.sc x = true → X.env.scope.names.lookup x = some .local := fun h => by
        rw [ok.ok.sc]
        exact local_of h
      have nx : ∀ {i : Nat} {x : Str}, decide (ce.N[i]? = some x) = true → X.N[i]? = some x := fun h => by
        rw [ok.ok.hN]
        exact of_decide_eq_true h
      split at h1
      · obtain ⟨a1, h1⟩ := and2 h1
        obtain ⟨a2, h1⟩ := and2 h1
        obtain ⟨a3, h1⟩ := and2 h1
        obtain ⟨a4, h1⟩ := and2 h1
        obtain ⟨a5, a6⟩ := and2 h1
        rw [of_decide_eq_true a6] at sw
        have hv : vs.length = 2 := by
          unfold swB at hsw
          split at hsw
          · cases hsw
          · rename_i c
            simp at c
            omega
        match vs, hv with
        | [va, vb], _ => exact PS.imp (ps_par ok.ok.calm nd (nx a1) (nx a2) (of_decide_eq_true a3) (lk a4) (lk a5) pr sw swT_no) fun D σ H q => s_par2 q
      · obtain ⟨a1, h1⟩ := and2 h1
        obtain ⟨a2, h1⟩ := and2 h1
        obtain ⟨a3, h1⟩ := and2 h1
        obtain ⟨a4, h1⟩ := and2 h1
        obtain ⟨a5, h1⟩ := and2 h1
        obtain ⟨a6, h1⟩ := and2 h1
        obtain ⟨a7, h1⟩ := and2 h1
        obtain ⟨a8, h1⟩ := and2 h1
        obtain ⟨a9, b1⟩ := and2 h1
        rw [of_decide_eq_true b1] at sw
        have hv : vs.length = 3 := by
          unfold swB at hsw
          split at hsw
          · cases hsw
          · rename_i c
            simp at c
            omega
        match vs, hv with
        | [va, vb, vc], _ => exact PS.imp (ps_par3 ok.ok.calm nd (nx a1) (nx a2) (nx a3) (of_decide_eq_true a4) (of_decide_eq_true a5) (of_decide_eq_true a6) (lk a7) (lk a8) (lk a9) pr sw swT_no) fun D σ H q => s_par3 q
      · cases h1
  · cases h
theorem ckS_ok (w : Wr) (P : Pg) (n : Nat) : ∀ s : S, SndS w P n (ckS s) (evS (Zm P n) s) := by
  intro s
  induction s with
  | skip =>
    constructor
    · intro ce W X st ok h
      simp only [ckS] at h
      split at h
      · exact PS.imp ps_pass fun D σ H q => s_skip q
      · cases h
    · intro ce W X st ok h
      simp only [ckS] at h
      split at h
      · exact PSs.imp pss_nil fun D σ H q => s_skip q
      · cases h
  | seq a b ha hb =>
    constructor
    · intro ce W X st ok h
      cases h
    · intro ce W X st ok h
      simp only [ckS] at h
      split at h
      · obtain ⟨h1, h2⟩ := and2 h
        exact PSs.imp (pss_cons (ha.s _ _ _ _ ok h1) (hb.ss _ _ _ _ ok h2)) fun D σ H q => s_seq q
      · cases h
  | set t e =>
    cases t with
    | n i => exact snd_setNm (i := i) (e := e) rfl fun W D σ H q => s_setN q
    | t r =>
      refine SndS.of fun ce W X st ok h => ?_
      split at h
      · obtain ⟨h1, h⟩ := and2 h
        obtain ⟨h2, h3⟩ := and2 h
        refine PS.imp (ps_asg ((ck_ok w P n e).v _ _ _ _ ok.ok h3) (tg_pg ok.ok h2) swT_no (swT_none h1)) fun D σ H q => ?_
        rw [ok.ok.hK]
        exact s_setT q
      · cases h
    | t0 =>
      refine SndS.of fun ce W X st ok h => ?_
      split at h
      · obtain ⟨h1, h⟩ := and2 h
        obtain ⟨h2, h3⟩ := and2 h
        cases h2
      · cases h
    | tc a r =>
      refine SndS.of fun ce W X st ok h => ?_
      split at h
      · obtain ⟨h1, h⟩ := and2 h
        obtain ⟨h2, h3⟩ := and2 h
        cases h2
      · cases h
  | cell i e => exact snd_setNm (i := i) (e := e) rfl fun W D σ H q => s_cell q
  | par is cs es => exact snd_par
  | setix o i e =>
    refine SndS.of fun ce W X st ok h => ?_
    split at h
    · rename_i a b p v pos
      obtain ⟨h1, h⟩ := and2 h
      obtain ⟨h2, h⟩ := and2 h
      obtain ⟨h3, h4⟩ := and2 h
      have pg : PG X (.Subscript a b p) (gSub (tE w W (den (evF P n) o).v) (tE w W (den (evF P n) i).v) rSetL) :=
        pg_sub ((ck_ok w P n o).v _ _ _ _ ok.ok h2) ((ck_ok w P n i).v _ _ _ _ ok.ok h3) set_list (by
          intro v
          cases b <;> first
            | rfl
            | cases h1)
      exact PS.imp (ps_asg ((ck_ok w P n e).v _ _ _ _ ok.ok h4) pg swS_no swS_none) fun D σ H q => s_setix q
    · cases h
  | aug i o e =>
    refine SndS.of fun ce W X st ok h => ?_
    split at h
    · obtain ⟨h1, h⟩ := and2 h
      obtain ⟨h2, h⟩ := and2 h
      obtain ⟨h3, h4⟩ := and2 h
      obtain ⟨k1, k2⟩ := and2 h3
      obtain ⟨l, f⟩ := loc_of ok.ok k2
      obtain ⟨ip, oo⟩ := ipOf_ok (X := X) h1 h2
      exact PS.imp (ps_aug (by rw [ok.ok.hN]; exact ok.ok.nd) (by rw [ok.ok.hN]; exact of_decide_eq_true k1) l ((ck_ok w P n e).v _ _ _ _ ok.ok h4) ip f) fun D σ H q => s_aug oo q
    · cases h
  | ex e =>
    refine SndS.of fun ce W X st ok h => ?_
    split at h
    · obtain ⟨h1, h2⟩ := and2 h
      exact PS.imp (ps_expr ((ck_ok w P n e).v _ _ _ _ ok.ok h2) (swaps_no h1)) fun D σ H q => s_ex q
    · cases h
  | ret e =>
    refine SndS.of fun ce W X st ok h => ?_
    split at h
    · exact PS.imp (ps_ret ((ck_ok w P n e).v _ _ _ _ ok.ok h)) fun D σ H q => s_ret q
    · cases h
  | retn =>
    refine SndS.of fun ce W X st ok h => ?_
    split at h
    · exact PS.imp ps_retN fun D σ H q => s_retn q
    · cases h
  | ite c a b ha hb =>
    refine SndS.of fun ce W X st ok h => ?_
    split at h
    · obtain ⟨h1, h⟩ := and2 h
      obtain ⟨h2, h3⟩ := and2 h
      exact PS.imp (ps_if ((ck_ok w P n c).t _ _ _ _ ok.ok h1) (ha.ss _ _ _ _ ok h2) (hb.ss _ _ _ _ ok h3)) fun D σ H q => s_ite q
    · cases h
  | «for» t it b hb =>
    refine SndS.of fun ce W X st ok h => ?_
    split at h
    · obtain ⟨h1, h⟩ := and2 h
      obtain ⟨h2, h⟩ := and2 h
      obtain ⟨h3, h4⟩ := and2 h
      obtain ⟨wi, pi, ri⟩ := (ck_ok w P n it).i _ _ _ _ _ ok.ok h2
      refine PS.imp (ps_for ok.pas ok.ok.calm pi (tg_pg ok.ok h3) (hb.ss _ _ _ _ ok h4) (not_set h1)) fun D σ H q => ?_
      rw [ok.ok.hK]
      exact s_for ri q
    · cases h
  | whil c b hb =>
    refine SndS.of fun ce W X st ok h => ?_
    split at h
    · obtain ⟨h1, h2⟩ := and2 h
      exact PS.imp (ps_while ok.pas ((ck_ok w P n c).t _ _ _ _ ok.ok h1) (hb.ss _ _ _ _ ok h2)) fun D σ H q => s_while q
    · cases h
  | raise c as => exact SndS.of fun ce W X st ok h => by cases h
  | brk =>
    refine SndS.of fun ce W X st ok h => ?_
    split at h
    · exact PS.imp ps_break fun D σ H q => s_brk q
    · cases h
  | cnt =>
    refine SndS.of fun ce W X st ok h => ?_
    split at h
    · exact PS.imp ps_continue fun D σ H q => s_cnt q
    · cases h
  | nev => exact ⟨fun ce W X st ok h => PS.imp ps_never fun D σ H q => s_nev q, fun ce W X st ok h => PSs.imp pss_never fun D σ H q => s_nev q⟩
end
end Pd

/-! PdO: defs keep what the evaluator promises. -/
namespace Pd
open PySem PySem.Spec L2
section
variable {w : Wr} {P : Pg} {prog : Program} {wd : World} {mg : Str → Option Value} {base : Heap}
/-- a def of the text and its written form -/
structure DefOk (w : Wr) (P : Pg) (mg : Str → Option Value) (fes : List FE) (glo : List (Str × Pd.D)) (free : List Str) (i : Nat) (fe : FE) : Prop where
  ok : ∃ (fn : Fn) (f : Addr) (fd : FuncData) (ps N : List Str) (x qual : Str) (params : Arguments) (body : List Stmt) (scope : Scope) (dvs : List V) (kws : List (Str × V)),
    P.fns[i]? = some fn ∧ fn.np = fe.np ∧ fn.dfl = fe.dfl ∧ mg fe.name = some (.ref f) ∧ FunD w.K x qual params body scope dvs kws f fd ∧ FnScope N ps scope ∧ ps.length = fn.np ∧ N.length = fn.ns ∧ (ckS fn.body).ss ⟨N, scope, N, fes, glo, free⟩ body = true ∧
    ∀ m, m ≤ fe.np → fe.np ≤ m + fe.dfl.length → ∃ ds dvs, Vals dvs ds ∧ Binds w.K fd ps ds ∧ ∀ (F : Hp) (μ : List Addr), VRs w F μ ((fe.dfl.drop (m + fe.dfl.length - fe.np)).map .d) dvs
theorem take_pre {μ μ' : List Addr} (p : μ <+: μ') {b : Nat} (h : μ.length = b) : μ'.take b = μ := by
  obtain ⟨t, e⟩ := p
  rw [← e, ← h, List.take_left']
  rfl
theorem sr_start {F : Hp} {μ : List Addr} : ∀ {args : List Vl} {vs : List V} (k : Nat), VRs w F μ args vs → SR w F μ (args.map some ++ List.replicate k none) (vs.map some ++ List.replicate k none)
  | [], vs, k, r => by
    have r : vs = [] := r
    subst r
    refine ⟨by simp, fun i x e => ?_⟩
    rw [List.map_nil, List.nil_append, List.getElem?_replicate] at e
    split at e <;> cases e
  | x :: xs, vs, k, r => by
    obtain ⟨v, ur, e, r1, r2⟩ := r
    subst e
    have s := sr_start k r2
    refine ⟨by simpa using s.len, fun i y e => ?_⟩
    cases i with
    | zero =>
      cases e
      exact ⟨v, rfl, r1⟩
    | succ i => exact s.at_ i y e
theorem fin_ok {F G : Hp} {μ : List Addr} {M : Mem} {r : RS} {Q : VK} {E : XK} (hl : μ.length = M.length) (h : Out w F G μ [] (relV w G μ) (finish M.length r) Q (fun c d _ H => E c d H)) :
    OutS w F G μ r { nx := fun _ H' => Q .non H', rt := Q } (fun c d _ H => E c d H) := by
  have dr : ∀ {F' H : Hp} {μ' : List Addr} {M1 : Mem}, μ <+: μ' → GR w F' G H μ' M1 → GR w F' G H μ (M1.take M.length) := fun {F' H μ' M1} p g => by
    have z := g.drop M.length
    rw [take_pre p hl] at z
    exact z
  cases r with
  | nx v M1 =>
    intro F' H σ' μ' l p g s
    refine h F' H .non l (dr p g) ?_
    show DR w F' .non .non
    simp only [DR]
  | brk v M1 => exact h.elim
  | cnt v M1 => exact h.elim
  | no => exact h.elim
  | exc c fs v M1 => exact fun F' H σ' μ' dd l p g s x => h F' H dd l (dr p g) x
  | ret x M1 =>
    intro F' H v μ' l p g rr
    cases x with
    | d x => exact h F' H v l (dr p g) rr
    | new x =>
      obtain ⟨a, o, ev, f, k, m, ho, q⟩ := rr
      refine h F' H v l (dr p g) ⟨a, o, ev, f, k, fun z => m ?_, ho, q⟩
      obtain ⟨t, e⟩ := p
      rw [← e]
      exact List.mem_append_left _ z
    | loc i =>
      obtain ⟨a, ea, ev⟩ := rr
      by_cases hi : i < M.length
      · simp only [finish, if_pos hi] at h
        refine h F' H v l (dr p g) ⟨a, ?_, ev⟩
        rw [← take_pre p hl, List.getElem?_take_of_lt hi]
        exact ea
      · simp only [finish, if_neg hi] at h
        cases ec : M1[i]? with
        | none => rw [ec] at h; exact h.elim
        | some c =>
          rw [ec] at h
          obtain ⟨b, e1, q1, q2⟩ := g.cell i c ec
          rw [ea] at e1
          cases e1
          refine h F' H v l (dr p g) ?_
          subst ev
          cases hc : c.live with
          | true =>
            obtain ⟨f, k, o, ho, q⟩ := q1 hc
            rw [if_pos rfl]
            refine ⟨a, o, rfl, f, k, fun z => ?_, ho, q⟩
            obtain ⟨j, hj, ej⟩ := List.getElem_of_mem z
            have e3 : μ'[j]? = some a := pre_get p (by rw [List.getElem?_eq_getElem hj, ej])
            have e4 := nodup_ix g.nd e3 ea
            rw [hl] at hj
            omega
          | false =>
            rw [if_neg (by decide)]
            exact (q2 hc).2
/-- what level n says of all defs -/
def Lev (w : Wr) (P : Pg) (prog : Program) (wd : World) (mg : Str → Option Value) (base : Heap) (fes : List FE) (n : Nat) : Prop := ∀ (i : Nat) (fe : FE), fes[i]? = some fe →
      ∃ fn, P.fns[i]? = some fn ∧ fn.np = fe.np ∧ fn.dfl = fe.dfl ∧ ∃ (f : Addr) (fd : FuncData) (ps : List Str), mg fe.name = some (.ref f) ∧ PySem.W.keepIn w.K (.ref f) = true ∧ FnOk prog wd w.K mg base (L2.CX prog wd) n f fd ps (spC w fe.np fun a M => evF P n i a M) ∧
    ∀ m, m ≤ fe.np → fe.np ≤ m + fe.dfl.length → ∃ ds dvs, Vals dvs ds ∧ Binds w.K fd ps ds ∧ ∀ (F : Hp) (μ : List Addr), VRs w F μ ((fe.dfl.drop (m + fe.dfl.length - fe.np)).map .d) dvs
theorem fn_step {fes : List FE} {glo : List (Str × Pd.D)} {free : List Str} {n i np : Nat} {fn : Fn} {f : Addr} {fd : FuncData} {ps N : List Str} {x qual : Str} {params : Arguments} {body : List Stmt} {scope : Scope} {dvs : List V} {kws : List (Str × V)}
    (hfree : ∀ x ∈ free, mg x = none) (hglo : ∀ p ∈ glo, ∃ v u, mg p.1 = some u ∧ RelV v u ∧ ∀ F : Hp, DR w F p.2 v) (ih : Lev w P prog wd mg base fes n)
    (h1 : P.fns[i]? = some fn) (h2 : fn.np = np) (F : FunD w.K x qual params body scope dvs kws f fd) (S : FnScope N ps scope) (h5 : ps.length = fn.np) (h6 : N.length = fn.ns) (h7 : (ckS fn.body).ss ⟨N, scope, N, fes, glo, free⟩ body = true) :
    FnOk prog wd w.K mg base (L2.CX prog wd) (n + 1) f fd ps (spC w np fun a M => evF P (n + 1) i a M) := by
  refine F.ok S (fun vs H Q E q => by rw [h5, h2]; exact q.1) fun cdv A outer s H vs Q E hr q => ?_
  have ck : Cok w P n ⟨N, scope, N, fes, glo, free⟩ (fun c d _ H => E c d H) (cxOf (L2.CX prog wd) prog wd w.K mg base N qual scope f cdv A outer s H E) := by
    refine ⟨rfl, rfl, S.nd, rfl, fun _ _ => rfl, rfl, hr, takes_of rfl rfl rfl rfl, hfree, hglo, fun j fj hj => ?_⟩
    obtain ⟨fn', e1, e2, e3, f', fd', ps', e4, e5, e6, e7⟩ := ih j fj hj
    exact ⟨⟨fn', e1, e2, e3⟩, f', fd', ps', e4, e5, e6, e7⟩
  have sok : Sok w P n ⟨N, scope, N, fes, glo, free⟩ (fun c d _ H => E c d H) (cxOf (L2.CX prog wd) prog wd w.K mg base N qual scope f cdv A outer s H E) := ⟨ck, passes_of rfl, S.kind⟩
  refine ⟨_, (ckS_ok w P n fn.body).ss _ _ _ _ sok h7, ?_⟩
  obtain ⟨lv, F0, G, μ, M, args, g, r, o⟩ := q
  have la : args.length = fn.np := by rw [r.length, lv, h2]
  refine ⟨F0, G, μ, startV fn args, M, g, ?_, ?_⟩
  · have e1 : startV fn args = args.map some ++ List.replicate (fn.ns - fn.np) none := by
      unfold startV
      rw [la, show fn.np + fn.dfl.length - fn.np = fn.dfl.length by omega, List.drop_length, List.map_nil, List.append_nil]
    rw [e1]
    unfold L2.start
    rw [h6, lv, ← h2]
    exact sr_start _ r
  · refine fin_ok g.len ?_
    have fits : fn.fits args = true := by
      unfold Fn.fits
      rw [la, Bool.and_eq_true]
      exact ⟨decide_eq_true (Nat.le_refl _), decide_eq_true (Nat.le_add_right _ _)⟩
    simp only [evF, h1, fits, if_true] at o
    exact o
theorem level_ok {fes : List FE} {glo : List (Str × Pd.D)} {free : List Str} (hfree : ∀ x ∈ free, mg x = none) (hglo : ∀ p ∈ glo, ∃ v u, mg p.1 = some u ∧ RelV v u ∧ ∀ F : Hp, DR w F p.2 v)
    (hd : ∀ i fe, fes[i]? = some fe → DefOk w P mg fes glo free i fe) : ∀ n : Nat, Lev w P prog wd mg base fes n := by
  intro n
  induction n with
  | zero =>
    intro i fe h
    obtain ⟨fn, f, fd, ps, N, x, qual, params, body, scope, dvs, kws, h1, h2, h3, h4, F, S, h5, h6, h7, bd⟩ := (hd i fe h).ok
    refine ⟨fn, h1, h2, h3, f, fd, ps, h4, F.kp, ⟨fun vs H Q E q => ?_, fun A outer s H args us vs Q E _ _ _ _ q => ?_⟩, bd⟩
    · rw [h5, h2]
      exact q.1
    · obtain ⟨_, _, _, _, _, _, _, _, z⟩ := q
      exact z.elim
  | succ n ih =>
    intro i fe h
    obtain ⟨fn, f, fd, ps, N, x, qual, params, body, scope, dvs, kws, h1, h2, h3, h4, F, S, h5, h6, h7, bd⟩ := (hd i fe h).ok
    exact ⟨fn, h1, h2, h3, f, fd, ps, h4, F.kp, fn_step hfree hglo ih h1 h2 F S h5 h6 h7, bd⟩
end
end Pd

/-! PdP: a law's end. -/
namespace Pd
open PySem PySem.Spec L2
/-- as walk_ofE, what a def may let out by the world -/
theorem walk_ofW {l : PySem.W.OpenLaw} {most k : Nat} {q : Program} {loose : List Str} {XP : (Str → Option Value) → Heap → Prop} {YP : World → Heap → Prop} {d : DefRec} {CX : World → CXT} {x : Str}
    (h1 : l.most = some most) (h2 : most ≤ sizeLine) (h3 : d.params.defaults = []) (h4 : Room k callerA)
    (F : ∀ (wd : World) (mg : Str → Option Value) (fa : Addr) (h : Heap), YP wd h → h.Ns mainGlobals mg → mg d.name = some (.ref fa) →
      ∃ (K : PySem.W.Frag) (fd : FuncData) (sp : Sp), K.In h ∧ (∀ (s : Shared) (u : Value), BindsTo s fd ⟨[u], []⟩ [(x, u)]) ∧
        (∀ (H : Hp) (a : Addr) (ns : List Int), ns.length ≤ most → Only H → SqL K H a (ns.map V.int) → sp [.ref a] H (fun v _ => v = .bl true) fun _ _ _ => False) ∧
        ∀ base : Heap, K.In base → base.Ns mainGlobals mg → FnOk l.prog wd K mg base (CX wd) k fa fd [x] sp)
    (hCX : ∀ (wd : World) (H : Hp) (s : Shared) (e : Value) (s' : Shared), CX wd [] H s (fun _ _ _ => False) e s' → False) :
    PySem.W.WalkO q loose XP YP l.row.toRowW d [] (fun f vs => PySem.call f vs) := by
  refine Att.attach_call h1 h3 fun wd sA sB mg mb fa o pm cd doc a vs ns G Y ho hd hcd hmg hobj hints hlen hg => ?_
  obtain ⟨K, fd, sp, KX, hb, hsp, hF⟩ := F wd mg fa _ Y G.T.g hmg
  exact law_call KX G.T.g G.T.b G.T.builtins G.T.nolimit hg hobj hints (Nat.le_trans hlen h2) h4 hF hb (fun H hO hS => hsp H a ns hlen hO hS) fun H e s' => hCX wd H sB e s'
theorem CX_no {P : Program} {wd : World} {H : Hp} {s : Shared} {e : Value} {s' : Shared} (h : L2.CX P wd [] H s (fun _ _ _ => False) e s') : False := by
  obtain ⟨_, _, _, _, _, _, _, _, _, _, _, _, z⟩ := h
  exact z
section
variable {w : Wr} {P : Pg} {mg : Str → Option Value} {fes : List FE} {glo : List (Str × Pd.D)} {free : List Str}
/-- a def without defaults -/
theorem DefOk.of0 {i : Nat} {fe : FE} {fn : Fn} {f : Addr} {fd : FuncData} {ps N : List Str} {x qual : Str} {params : Arguments} {body : List Stmt} {scope : Scope} {kws : List (Str × V)} (h1 : P.fns[i]? = some fn) (h2 : fn.np = fe.np) (h3 : fn.dfl = fe.dfl) (h0 : fe.dfl = [])
    (hm : mg fe.name = some (.ref f)) (F : FunD w.K x qual params body scope [] kws f fd) (S : FnScope N ps scope) (h4 : ps.length = fn.np) (h5 : N.length = fn.ns) (hc : (ckS fn.body).ss ⟨N, scope, N, fes, glo, free⟩ body = true)
    (hb : ∀ (kV doc pm : Value) (an : Option Addr) (cdv ct : Value) (us : List Value), us.length = ps.length → bindArgs (PySem.W.fnOf x qual params body scope .none kV doc pm an cdv ct) ⟨us, []⟩ = pure (ps.zip us)) : DefOk w P mg fes glo free i fe := by
  refine ⟨fn, f, fd, ps, N, x, qual, params, body, scope, [], kws, h1, h2, h3, hm, F, S, h4, h5, hc, fun m _ _ => ⟨[], [], .nil, F.bindsN hb, fun F' μ => ?_⟩⟩
  rw [h0, List.drop_nil]
  exact rfl
/-- the script as the law's argument -/
theorem sp_law {n i : Nat} {ns : List Int} {H : Hp} {a : Addr} (hS : SqL w.K H a (ns.map V.int)) (h : evF P n i [.d (.scr ns)] [] = .ok (.d (.bl true)) []) :
    spC w 1 (fun as M => evF P n i as M) [.ref a] H (fun v _ => v = .bl true) fun _ _ _ => False := by
  refine ⟨rfl, fun b => if b = a then H b else none, fun _ => none, [], [], [.d (.scr ns)], ⟨fun b o e => ?_, fun b o e => ?_, fun b o e => ?_, rfl, List.nodup_nil, fun i c e => ?_⟩, ⟨.ref a, [], rfl, ?_, rfl⟩, ?_⟩
  · split at e
    · exact e
    · cases e
  · cases e
  · cases e
  · rw [List.getElem?_nil] at e
    cases e
  · show DR w _ (.scr ns) (.ref a)
    simp only [DR]
    refine ⟨a, rfl, ?_⟩
    rcases hS with (e | ⟨o, e⟩) | e
    · exact .inl (.inl ((if_pos rfl).trans e))
    · exact .inl (.inr ⟨o, (if_pos rfl).trans e⟩)
    · exact .inr e
  · show Out w _ _ _ _ _ (evF P n i [.d (.scr ns)] []) _ _
    rw [h]
    intro F' H' v _ _ r
    have r : DR w F' (.bl true) v := r
    simpa only [DR] using r
end
end Pd

/-! PdR: the evaluator without cells: a live list stands in its slot. -/
namespace Pd
open PySem PySem.Spec PyProof.Rows L2

/-- a slot's content: data, an own live list, a list of the caller's (still live?) -/
inductive Pv where
  | d (x : D) | c (x : D) | b (l : Bool) (x : D)
  deriving Inhabited
def Pv.dat : Pv → D
  | .d x | .c x | .b _ x => x
abbrev Pvs := List (Option Pv)
/-- an outcome: data, data of a new object, what a slot holds -/
inductive Po where
  | d (x : D) | n (x : D) | v (i : Nat)
  deriving Inhabited
inductive RP (α : Type) where
  | ok (a : α) (s : Pvs) | exc (c : Nat) (fs : List (Str × D)) (s : Pvs) | no
def RP.bind {α β : Type} (r : RP α) (f : α → Pvs → RP β) : RP β := match r with
  | .ok a s => f a s
  | .exc c fs s => .exc c fs s
  | .no => .no
def RP.lift {α : Type} (o : Option α) (s : Pvs) : RP α := match o with
  | some a => .ok a s
  | none => .no
inductive RQ where
  | nx (s : Pvs) | ret (r : Po) (s : Pvs) | brk (s : Pvs) | cnt (s : Pvs)
  | exc (c : Nat) (fs : List (Str × D)) (s : Pvs) | no
def RP.thenS {α : Type} (r : RP α) (f : α → Pvs → RQ) : RQ := match r with
  | .ok a s => f a s
  | .exc c fs s => .exc c fs s
  | .no => .no
def RQ.andThen (r : RQ) (f : Pvs → RQ) : RQ := match r with
  | .nx s => f s
  | .ret x s => .ret x s
  | .brk s => .brk s
  | .cnt s => .cnt s
  | .exc c fs s => .exc c fs s
  | .no => .no
/-- what a call tells -/
inductive RF where
  | ok (r : Po) (as : List Pv) | exc (c : Nat) (fs : List (Str × D)) (as : List Pv) | no

def isL : D → Bool
  | .lst _ => true
  | _ => false
def pget (s : Pvs) (i : Nat) : Option Pv := (s[i]?).join
def pder (s : Pvs) : Po → Option D
  | .d x => some x
  | .n x => some x
  | .v i => (pget s i).map Pv.dat
def pfrz : Po → Po
  | .n x => .d x
  | r => r
def ptoD (s : Pvs) : Po → Option (D × Pvs)
  | .d x => some (x, s)
  | .n x => some (x, s)
  | .v i => match pget s i with
    | some (.d x) => some (x, s)
    | some (.c x) => some (x, s.set i (some (.d x)))
    | some (.b _ x) => some (x, s.set i (some (.b false x)))
    | none => none
def ptoDs : Pvs → List Po → Option (List D × Pvs)
  | s, [] => some ([], s)
  | s, r :: rs => (ptoD s r).bind fun p => (ptoDs p.2 rs).map fun q => (p.1 :: q.1, q.2)
def pders (s : Pvs) : List Po → Option (List D)
  | [] => some []
  | r :: rs => (pder s r).bind fun x => (pders s rs).map (x :: ·)
def Pv.upd : Pv → D → Option Pv
  | .c _, y => some (.c y)
  | .b true _, y => some (.b true y)
  | _, _ => none
def pmutate (m : Bm) (s : Pvs) (o : Po) (as : List D) : RP Po := match o with
  | .v i => match pget s i with
    | some p => match p.dat with
      | .lst xs => (match bmM m xs as with
        | some (ys, r) => (match p.upd (.lst ys) with
          | some q => .ok (.d r) (s.set i (some q))
          | none => .no)
        | none => .no)
      | _ => .no
    | none => .no
  | _ => .no
/-- binding a slot: a list of the caller's keeps its slot -/
def psetD (s : Pvs) (i : Nat) (p : Pv) : Option Pvs := match s[i]? with
  | some (some (.b _ _)) => none
  | some _ => some (s.set i (some p))
  | none => none
mutual
def pbindT : T → D → Pvs → Option Pvs
  | .n i, x, s => psetD s i (.d x)
  | .t r, .tup xs, s => pbindTs r xs s
  | _, _, _ => none
def pbindTs : T → List D → Pvs → Option Pvs
  | .t0, [], s => some s
  | .tc a r, x :: xs, s => (pbindT a x s).bind fun s1 => pbindTs r xs s1
  | _, _, _ => none
end
abbrev Pg1 := List (Nat × D)
def pchk1 (s : Pvs) (g : Nat × D) : Bool := match pget s g.1 with
  | some (.c y) => D.same g.2 y
  | some (.b true y) => D.same g.2 y
  | _ => false
def pchkG (g : Pg1) (s : Pvs) : Bool := g.all (pchk1 s)
def pseqOf (s : Pvs) : Po → Option (Bool × List D × Pg1)
  | .d (.lst xs) | .n (.lst xs) => some (false, xs, [])
  | .d (.tup xs) => some (true, xs, [])
  | .v i => match pget s i with
    | some (.d (.lst xs)) => some (false, xs, [])
    | some (.d (.tup xs)) => some (true, xs, [])
    | some (.c (.lst xs)) => some (false, xs, [(i, .lst xs)])
    | some (.b true (.lst xs)) => some (false, xs, [(i, .lst xs)])
    | some (.b false (.lst xs)) => some (false, xs, [])
    | _ => none
  | _ => none
def piterOf (s : Pvs) : Po → Option (List D × Pg1)
  | .d (.str z) => some (chars z, [])
  | x => (pseqOf s x).map (·.2)
structure PDen where
  v : Pvs → RP Po
  a : Pvs → RP (List Po)
  p : List Bool → Pvs → RP (List Po)
  t : Pvs → RP Bool
  i : Pvs → RP (List D × Pg1)
def PDen.ofV (v : Pvs → RP Po) : PDen where
  v := v
  a := fun _ => .no
  p := fun _ _ => .no
  t := fun s => (v s).bind fun x s1 => RP.lift ((pder s1 x).bind D.truth) s1
  i := fun s => (v s).bind fun x s1 => RP.lift (piterOf s1 (pfrz x)) s1
def PDen.none : PDen := ⟨fun _ => .no, fun _ => .no, fun _ _ => .no, fun _ => .no, fun _ => .no⟩
/-- a comprehension's own slots are empty at each turn -/
def pwipe (s : Pvs) : List Nat → Pvs
  | [] => s
  | i :: r => (pwipe s r).set i none
def prest (s0 s : Pvs) : List Nat → Pvs
  | [] => s
  | i :: r => (prest s0 s r).set i (pget s0 i)
mutual
def T.within (own : List Nat) : T → Bool
  | .n i => own.contains i
  | .t r => T.withins own r
  | _ => false
def T.withins (own : List Nat) : T → Bool
  | .t0 => true
  | .tc a r => T.within own a && T.withins own r
  | _ => false
end
def plcGo (t : T) (g : Pg1) (own : List Nat) (c : Pvs → RP Bool) (e : Pvs → RP Po) : List D → Pvs → RP (List D)
  | [], s => if pchkG g s then .ok [] s else .no
  | x :: r, s => if pchkG g s then (match pbindT t x s with
    | none => .no
    | some s1 => match c s1 with
      | .ok true s2 => (match e s2 with
        | .ok y s3 => (match ptoD s3 y with
          | some (yd, s4) => (match plcGo t g own c e r (pwipe s4 own) with
            | .ok ys s5 => .ok (yd :: ys) s5
            | _ => .no)
          | none => .no)
        | _ => .no)
      | .ok false s2 => plcGo t g own c e r (pwipe s2 own)
      | _ => .no) else .no
def poptI : RP Po → Bool → Pvs → RP (Option Int)
  | _, true, s => .ok Option.none s
  | r, false, _ => r.bind fun x s1 => match x with
    | .d (.int i) => .ok (some i) s1
    | _ => .no
def pasB : Po → Option Bool
  | .d (.bl b) => some b
  | _ => none
/-- the arguments of a call: a live list goes as the caller's -/
def pres1 (s : Pvs) : Po → Option Pv
  | .d x => some (.d x)
  | .n _ => none
  | .v i => match pget s i with
    | some (.d x) => some (.d x)
    | some (.c x) => some (.b true x)
    | some (.b true x) => some (.b true x)
    | some (.b false x) => some (.d x)
    | none => none
def presolve (s : Pvs) : List Po → Option (List Pv)
  | [] => some []
  | r :: rs => (pres1 s r).bind fun p => (presolve s rs).map (p :: ·)
def refOf (s : Pvs) : Po → Option Nat
  | .v i => match pget s i with
    | some (.c _) | some (.b true _) => some i
    | _ => none
  | _ => none
def prefs (s : Pvs) : List Po → List Nat
  | [] => []
  | r :: rs => match refOf s r with
    | some i => i :: prefs s rs
    | none => prefs s rs
def Pv.back : Pv → Pv → Pv
  | .c _, .b true x => .c x
  | .c _, .b false x => .d x
  | .b true _, .b l x => .b l x
  | p, _ => p
def pback (s : Pvs) : List Po → List Pv → Pvs
  | r :: rs, a :: as => match refOf s r with
    | some i => (match pget s i with
      | some p => pback (s.set i (some (p.back a))) rs as
      | none => pback s rs as)
    | none => pback s rs as
  | _, _ => s
def pcall (C : Nat → List Pv → RF) (f : Nat) (rs : List Po) (s : Pvs) : RP Po := match presolve s rs with
  | some as => if (prefs s rs).Nodup then (match C f as with
    | .ok r as' => .ok r (pback s rs as')
    | .exc c fs as' => .exc c fs (pback s rs as')
    | .no => .no) else .no
  | none => .no
def poOf : Vl → Option Po
  | .d y => some (.d y)
  | .new y => some (.n y)
  | .loc _ => none
/-- a short row -/
def short (n : Nat) : Bool := decide (n ≤ 1000)

def pden (C : Nat → List Pv → RF) : E → PDen
  | .nil => { PDen.none with a := fun s => .ok [] s, p := fun cs s => match cs with
      | [] => .ok [] s
      | _ => .no }
  | .cons x r => { PDen.none with
      a := fun s => ((pden C x).v s).bind fun y s1 => ((pden C r).a s1).bind fun ys s2 => .ok (pfrz y :: ys) s2
      p := fun cs s => match cs with
        | [] => .no
        | c :: cs => ((pden C x).v s).bind fun y s1 => (if c then (match y with
            | .n z => RP.ok (Po.n z) s1
            | _ => RP.no) else RP.ok (pfrz y) s1).bind fun z s2 => ((pden C r).p cs s2).bind fun zs s3 => .ok (z :: zs) s3 }
  | .var i => .ofV fun s => match pget s i with
      | some (.d x) => .ok (.d x) s
      | some _ => .ok (.v i) s
      | none => .no
  | .k d => .ofV fun s => .ok (.d d) s
  | .g _ d => .ofV fun s => .ok (.d d) s
  | .op1 o a => .ofV fun s => ((pden C a).v s).bind fun x s1 => RP.lift (((pder s1 x).bind (op1 o)).bind poOf) s1
  | .op2 o a b => .ofV fun s => ((pden C a).v s).bind fun x s1 => ((pden C b).v s1).bind fun y s2 => RP.lift (((pder s2 x).bind fun x => (pder s2 y).bind fun y => op2 o x y).bind poOf) s2
  | .chain o p a b c => .ofV fun s => ((pden C a).v s).bind fun x s1 => ((pden C b).v s1).bind fun y s2 =>
      match (pder s2 x).bind fun x => (pder s2 y).bind fun y => (op2 o x y).bind asB with
      | some true => ((pden C c).v s2).bind fun z s3 => RP.lift (((pder s3 y).bind fun y => (pder s3 z).bind fun z => op2 p y z).bind poOf) s3
      | some false => .ok (.d (.bl false)) s2
      | none => .no
  | .and a b => { PDen.ofV (fun s => ((pden C a).v s).bind fun x s1 => match pasB x with
        | some true => (pden C b).v s1
        | some false => .ok (.d (.bl false)) s1
        | none => .no) with
      t := fun s => ((pden C a).t s).bind fun x s1 => if x then (pden C b).t s1 else .ok false s1 }
  | .or a b => { PDen.ofV (fun s => ((pden C a).v s).bind fun x s1 => match pasB x with
        | some false => (pden C b).v s1
        | some true => .ok (.d (.bl true)) s1
        | none => .no) with
      t := fun s => ((pden C a).t s).bind fun x s1 => if x then .ok true s1 else (pden C b).t s1 }
  | .not a => { PDen.ofV (fun s => ((pden C a).v s).bind fun x s1 => match (pder s1 x).bind D.truth with
        | some b => .ok (.d (.bl (!b))) s1
        | none => .no) with
      t := fun s => ((pden C a).t s).bind fun x s1 => .ok (!x) s1 }
  | .ife c a b => .ofV fun s => ((pden C c).t s).bind fun x s1 => if x then (pden C a).v s1 else (pden C b).v s1
  | .tup as => .ofV fun s => ((pden C as).a s).bind fun xs s1 => match ptoDs s1 xs with
      | some (ds, s2) => if short ds.length then .ok (.d (.tup ds)) s2 else .no
      | none => .no
  | .lst as => .ofV fun s => ((pden C as).a s).bind fun xs s1 => match ptoDs s1 xs with
      | some (ds, s2) => if short ds.length then .ok (.n (.lst ds)) s2 else .no
      | none => .no
  | .idx a i => .ofV fun s => ((pden C a).v s).bind fun x s1 => ((pden C i).v s1).bind fun y s2 => RP.lift (((pder s2 x).bind fun x => (pder s2 y).bind fun y => idx x y).bind poOf) s2
  | .sl a lo hi => .ofV fun s => ((pden C a).v s).bind fun x s1 => (poptI ((pden C lo).v s1) (isTrueE lo) s1).bind fun l s2 => (poptI ((pden C hi).v s2) (isTrueE hi) s2).bind fun u s3 =>
      RP.lift (((pder s3 x).bind fun x => slice x l u).bind poOf) s3
  | .bi b as => .ofV fun s => ((pden C as).a s).bind fun xs s1 => RP.lift (((pders s1 xs).bind fun ds => bi b ds).bind poOf) s1
  | .bm m o as => .ofV fun s => ((pden C o).v s).bind fun x s1 => if bmTy m (pder s1 x) then (((pden C as).a s1).bind fun xs s2 =>
      if m.mut then (match ptoDs s2 xs with
        | some (ds, s3) => pmutate m s3 (pfrz x) ds
        | none => .no)
      else RP.lift (((pder s2 x).bind fun x => (pders s2 xs).bind fun ds => bmP m x ds).bind poOf) s2) else .no
  | .call f as => .ofV fun s => ((pden C as).a s).bind fun xs s1 => pcall C f xs s1
  | .isi ts a => .ofV fun s => ((pden C a).v s).bind fun x s1 => RP.lift (((pder s1 x).bind (isi ts)).bind poOf) s1
  | .rng lo hi => { PDen.none with i := fun s => ((pden C lo).v s).bind fun x s1 => ((pden C hi).v s1).bind fun y s2 => match x, y with
      | .d (.int l), .d (.int h) => if rngOk l h then .ok (rangeD l h, []) s2 else .no
      | _, _ => .no }
  | .enum a => { PDen.none with i := fun s => ((pden C a).v s).bind fun x s1 => RP.lift ((pseqOf s1 (pfrz x)).map fun p => (enumFrom 0 p.2.1, p.2.2)) s1 }
  | .zip a b => { PDen.none with i := fun s => ((pden C a).v s).bind fun x s1 => ((pden C b).v s1).bind fun y s2 => RP.lift ((pseqOf s2 (pfrz x)).bind fun p => (pseqOf s2 (pfrz y)).bind fun q => if p.1 == q.1 then some (zipD p.2.1 q.2.1, p.2.2 ++ q.2.2) else none) s2 }
  | .lc own t it c e => .ofV fun s => ((pden C it).i s).bind fun xs s1 =>
      if t.within own then (match plcGo t xs.2 own (if isTrueE c then fun s => .ok true s else (pden C c).t) (pden C e).v xs.1 (pwipe s1 own) with
      | .ok ys s2 => .ok (.n (.lst ys)) (prest s1 s2 own)
      | _ => .no) else .no

def psetAll (s : Pvs) : List Nat → List Po → Option Pvs
  | [], [] => some s
  | i :: is, x :: xs => (match x with
    | .d y => psetD s i (.d y)
    | .n y => if isL y then psetD s i (.c y) else none
    | .v _ => none).bind fun s1 => psetAll s1 is xs
  | _, _ => none
/-- while a live list is walked its slot is not bound -/
def plock (s : Pvs) : Pg1 → Pvs
  | [] => s
  | (i, _) :: r => match pget (plock s r) i with
    | some (.c x) => (plock s r).set i (some (.b true x))
    | _ => plock s r
def punlock (s0 s : Pvs) : Pg1 → Pvs
  | [] => s
  | (i, _) :: r => match pget s0 i, pget (punlock s0 s r) i with
    | some (.c _), some (.b true x) => (punlock s0 s r).set i (some (.c x))
    | some (.c _), some (.b false x) => (punlock s0 s r).set i (some (.d x))
    | _, _ => punlock s0 s r
def RQ.onS (f : Pvs → Pvs) : RQ → RQ
  | .nx s => .nx (f s)
  | .ret x s => .ret x (f s)
  | .brk s => .brk (f s)
  | .cnt s => .cnt (f s)
  | .exc c fs s => .exc c fs (f s)
  | .no => .no
def pforGo (t : T) (g : Pg1) (b : Pvs → RQ) : List D → Pvs → RQ
  | [], s => if pchkG g s then .nx s else .no
  | x :: r, s => if pchkG g s then (match pbindT t x s with
    | none => .no
    | some s1 => match b s1 with
      | .nx s2 => pforGo t g b r s2
      | .cnt s2 => pforGo t g b r s2
      | .brk s2 => .nx s2
      | o => o) else .no
def pwhGo (c : Pvs → RP Bool) (b : Pvs → RQ) : Nat → Pvs → RQ
  | 0, _ => .no
  | n + 1, s => (c s).thenS fun x s1 => if x then (match b s1 with
      | .nx s2 => pwhGo c b n s2
      | .cnt s2 => pwhGo c b n s2
      | .brk s2 => .nx s2
      | o => o) else .nx s1
def psetIx (s : Pvs) (o : Po) (k : Int) (y : D) : Option Pvs := match o with
  | .v i => (pget s i).bind fun p => match p.dat with
    | .lst xs => (ixN xs.length k).bind fun j => if j < xs.length then (p.upd (.lst (xs.set j y))).map fun q => s.set i (some q) else none
    | _ => none
  | _ => none
structure PSm where
  C : Nat → List Pv → RF
  W : Nat
  X : Nat → List Str
def pS (Z : PSm) : S → Pvs → RQ
  | .skip, s => .nx s
  | .seq a b, s => (pS Z a s).andThen fun s => pS Z b s
  | .set t e, s => ((pden Z.C e).v s).thenS fun x s1 => match pfrz x with
      | .d y => (match pbindT t y s1 with
        | some s2 => .nx s2
        | none => .no)
      | .v j => (match pget s1 j, t with
        | some (.d y), .n i => (match psetD s1 i (.d y) with
          | some s2 => .nx s2
          | none => .no)
        | _, _ => .no)
      | _ => .no
  | .cell i e, s => ((pden Z.C e).v s).thenS fun x s1 => match x with
      | .n y => if isL y then (match psetD s1 i (.c y) with
        | some s2 => .nx s2
        | none => .no) else .no
      | _ => .no
  | .par is cs es, s => ((pden Z.C es).p cs s).thenS fun xs s1 => match psetAll s1 is xs with
      | some s2 => .nx s2
      | none => .no
  | .setix o i e, s => ((pden Z.C e).v s).thenS fun y s1 => match ptoD s1 y with
      | some (yd, s2) => ((pden Z.C o).v s2).thenS fun x s3 => ((pden Z.C i).v s3).thenS fun k s4 => match k with
        | .d (.int k) => (match psetIx s4 x k yd with
          | some s5 => .nx s5
          | none => .no)
        | _ => .no
      | none => .no
  | .aug i o e, s => match pget s i with
      | some (.d x) => if isL x then .no else ((pden Z.C e).v s).thenS fun y s1 => match y with
        | .d y => if augOk o x y then (match op2 o x y with
          | some (.d z) => (match psetD s1 i (.d z) with
            | some s2 => .nx s2
            | none => .no)
          | _ => .no) else .no
        | _ => .no
      | _ => .no
  | .ex e, s => ((pden Z.C e).v s).thenS fun _ s1 => .nx s1
  | .ret e, s => ((pden Z.C e).v s).thenS fun x s1 => .ret x s1
  | .retn, s => .ret (.d .non) s
  | .ite c a b, s => ((pden Z.C c).t s).thenS fun x s1 => if x then pS Z a s1 else pS Z b s1
  | .for t it b, s => ((pden Z.C it).i s).thenS fun xs s1 => (pforGo t xs.2 (pS Z b) xs.1 (plock s1 xs.2)).onS fun s2 => punlock s1 s2 xs.2
  | .whil c b, s => pwhGo (pden Z.C c).t (pS Z b) Z.W s
  | .raise c as, s => ((pden Z.C as).a s).thenS fun xs s1 => match ptoDs s1 xs with
      | some (ds, s2) => (match exFields (Z.X c) ds with
        | some fs => .exc c fs s2
        | none => .no)
      | none => .no
  | .brk, s => .brk s
  | .cnt, s => .cnt s
  | .nev, _ => .no
def pargsGo : Nat → List Pv → Pvs → List Pv
  | _, [], _ => []
  | i, .b l x :: r, s => (pget s i).getD (.b l x) :: pargsGo (i + 1) r s
  | i, p :: r, s => p :: pargsGo (i + 1) r s
def pargs (as : List Pv) (s : Pvs) : List Pv := pargsGo 0 as s
def pfin (as : List Pv) : RQ → RF
  | .nx s => .ok (.d .non) (pargs as s)
  | .ret (.d x) s => .ok (.d x) (pargs as s)
  | .ret (.n x) s => .ok (.n x) (pargs as s)
  | .ret (.v i) s => (match pget s i with
    | some (.d x) => .ok (.d x) (pargs as s)
    | some (.c x) => .ok (.n x) (pargs as s)
    | _ => .no)
  | .exc c fs s => .exc c fs (pargs as s)
  | _ => .no
def pstart (f : Fn) (as : List Pv) : Pvs := (as ++ (f.dfl.drop (as.length + f.dfl.length - f.np)).map Pv.d).map some ++ List.replicate (f.ns - f.np) none
def Fn.pfits (f : Fn) (as : List Pv) : Bool := decide (as.length ≤ f.np) && decide (f.np ≤ as.length + f.dfl.length)
def pF0 (P : Pg) : Nat → Nat → List Pv → RF
  | 0, _, _ => .no
  | n + 1, f, as => match P.fns[f]? with
    | none => .no
    | some fn => if fn.pfits as then pfin as (pS ⟨pF0 P n, P.W, P.X⟩ fn.body (pstart fn as)) else .no
@[irreducible] def pF (P : Pg) (n f : Nat) (as : List Pv) : RF := pF0 P n f as
theorem pF_eq (P : Pg) (n : Nat) : pF P n = pF0 P n := by
  funext f as
  unfold pF
  rfl
theorem pF_zero {P : Pg} {f : Nat} {as : List Pv} : pF P 0 f as = .no := by
  rw [pF_eq]
  rfl
theorem pF_succ {P : Pg} {n f : Nat} {as : List Pv} : pF P (n + 1) f as = (match P.fns[f]? with
    | none => .no
    | some fn => if fn.pfits as then pfin as (pS ⟨pF P n, P.W, P.X⟩ fn.body (pstart fn as)) else .no) := by
  rw [pF_eq, pF_eq]
  rfl
end Pd

/-! PdT: what the evaluator without cells tells, the evaluator tells. Relations. -/
namespace Pd
open PySem PySem.Spec PyProof.Rows L2

def PvR (M : Mem) : Pv → Vl → Prop
  | .d x, y => y = .d x ∨ ∃ l, y = .loc l ∧ M[l]? = some ⟨false, x⟩ ∧ isL x = true
  | .c x, y => ∃ l, y = .loc l ∧ M[l]? = some ⟨true, x⟩ ∧ isL x = true
  | .b lv x, y => ∃ l, y = .loc l ∧ M[l]? = some ⟨lv, x⟩ ∧ isL x = true
def Pv.live : Pv → Bool
  | .c _ => true
  | .b l _ => l
  | _ => false
structure ER (M : Mem) (s : Pvs) (v : Vars) : Prop where
  len : s.length = v.length
  at_ : ∀ i p, pget s i = some p → ∃ y, v[i]? = some (some y) ∧ PvR M p y
  dis : ∀ i j p q l, pget s i = some p → pget s j = some q → p.live = true → q.live = true → v[i]? = some (some (.loc l)) → v[j]? = some (some (.loc l)) → i = j
def Own (s : Pvs) (v : Vars) (l : Nat) : Prop := ∃ i p, pget s i = some p ∧ p.live = true ∧ v[i]? = some (some (.loc l))
def Pv.to : Pv → Pv → Prop
  | .d x, q => q = .d x
  | .c _, q => (∃ y, q = .c y) ∨ ∃ y, q = .d y
  | .b l _, q => ∃ l' y, q = .b l' y ∧ (l' = true → l = true)
theorem Pv.to.refl : ∀ p : Pv, p.to p
  | .d _ => rfl
  | .c x => .inl ⟨x, rfl⟩
  | .b l x => ⟨l, x, rfl, id⟩
theorem Pv.to.trans {p q r : Pv} (h : p.to q) (k : q.to r) : p.to r := by
  cases p with
  | d x => cases h; exact k
  | c x =>
    rcases h with ⟨y, h⟩ | ⟨y, h⟩
    · subst h; exact k
    · subst h; exact .inr ⟨y, k⟩
  | b l x =>
    obtain ⟨l', y, h, h2⟩ := h
    subst h
    obtain ⟨l'', z, h3, h4⟩ := k
    exact ⟨l'', z, h3, fun e => h2 (h4 e)⟩
theorem Pv.to.live {p q : Pv} (h : p.to q) (k : q.live = true) : p.live = true := by
  cases p with
  | d x => cases h; exact k
  | c x => rfl
  | b l x =>
    obtain ⟨l', y, h, h2⟩ := h
    subst h
    exact h2 k
/-- slots go on -/
structure Le (s s' : Pvs) : Prop where
  len : s'.length = s.length
  fw : ∀ i p, pget s i = some p → ∃ q, pget s' i = some q ∧ p.to q
  bw : ∀ i, pget s i = none → pget s' i = none
theorem Le.refl (s : Pvs) : Le s s := ⟨rfl, fun i p h => ⟨p, h, .refl p⟩, fun _ h => h⟩
theorem Le.trans {s t u : Pvs} (h : Le s t) (k : Le t u) : Le s u := ⟨k.len.trans h.len, fun i p e => by
  obtain ⟨q, e1, r1⟩ := h.fw i p e
  obtain ⟨q2, e2, r2⟩ := k.fw i q e1
  exact ⟨q2, e2, r1.trans r2⟩, fun i e => k.bw i (h.bw i e)⟩
theorem Le.own {s s' : Pvs} {v : Vars} {l : Nat} (h : Le s s') (k : Own s' v l) : Own s v l := by
  obtain ⟨i, q, e, lq, ev⟩ := k
  cases ep : pget s i with
  | none => rw [h.bw i ep] at e; cases e
  | some p =>
    obtain ⟨q', e', r⟩ := h.fw i p ep
    rw [e] at e'
    cases e'
    exact ⟨i, p, ep, r.live lq, ev⟩
structure Fr (s : Pvs) (v : Vars) (M M' : Mem) : Prop where
  len : M.length ≤ M'.length
  at_ : ∀ l c, M[l]? = some c → ¬ Own s v l → M'[l]? = some c
/-- behind an expression -/
structure EP (s : Pvs) (v : Vars) (M : Mem) (s' : Pvs) (M' : Mem) : Prop where
  er : ER M' s' v
  le : Le s s'
  fr : Fr s v M M'
theorem EP.refl {s : Pvs} {v : Vars} {M : Mem} (h : ER M s v) : EP s v M s M := ⟨h, .refl s, ⟨Nat.le_refl _, fun _ _ h _ => h⟩⟩
theorem EP.trans {s t u : Pvs} {v : Vars} {M M1 M2 : Mem} (h : EP s v M t M1) (k : EP t v M1 u M2) : EP s v M u M2 :=
  ⟨k.er, h.le.trans k.le, ⟨Nat.le_trans h.fr.len k.fr.len, fun l c e n => k.fr.at_ l c (h.fr.at_ l c e n) fun o => n (h.le.own o)⟩⟩
theorem ER.ownLive {M : Mem} {s : Pvs} {v : Vars} {l : Nat} (h : ER M s v) (o : Own s v l) : ∃ x, M[l]? = some ⟨true, x⟩ ∧ isL x = true := by
  obtain ⟨i, p, e, lp, ev⟩ := o
  obtain ⟨y, e1, r⟩ := h.at_ i p e
  rw [ev] at e1
  cases e1
  cases p with
  | d x => cases lp
  | c x =>
    obtain ⟨l', e2, e3, e4⟩ := r
    cases e2
    exact ⟨x, e3, e4⟩
  | b lv x =>
    obtain ⟨l', e2, e3, e4⟩ := r
    cases e2
    have lp : lv = true := lp
    subst lp
    exact ⟨x, e3, e4⟩
theorem ER.notOwn {M : Mem} {s : Pvs} {v : Vars} {l : Nat} {x : D} (h : ER M s v) (e : M[l]? = some ⟨false, x⟩) : ¬ Own s v l := fun o => by
  obtain ⟨y, e2, _⟩ := h.ownLive o
  rw [e] at e2
  cases e2
/-- an outcome -/
def Ro (M : Mem) (s : Pvs) (v : Vars) : Po → Vl → Prop
  | .d x, y => PvR M (.d x) y
  | .n x, y => y = .new x
  | .v i, y => v[i]? = some (some y) ∧ ∃ p, pget s i = some p
theorem PvR.d_mono {s s' : Pvs} {v : Vars} {M M' : Mem} {x : D} {y : Vl} (h : PvR M (.d x) y) (er : ER M s v) (f : Fr s v M M') : PvR M' (.d x) y := by
  rcases h with h | ⟨l, h1, h2, h3⟩
  · exact .inl h
  · exact .inr ⟨l, h1, f.at_ l _ h2 (er.notOwn h2), h3⟩
theorem Ro.mono {s s' : Pvs} {v : Vars} {M M' : Mem} {r : Po} {y : Vl} (h : Ro M s v r y) (er : ER M s v) (p : EP s v M s' M') : Ro M' s' v r y := by
  cases r with
  | d x => exact PvR.d_mono (s' := s') h er p.fr
  | n x => exact h
  | v i =>
    obtain ⟨h1, q, h2⟩ := h
    obtain ⟨q', h3, _⟩ := p.le.fw i q h2
    exact ⟨h1, q', h3⟩
theorem PvR.fz {M : Mem} {p : Pv} {y : Vl} (h : PvR M p y) : frz y = y := by
  cases p with
  | d x => rcases h with h | ⟨l, h1, _⟩ <;> subst_vars <;> rfl
  | c x => obtain ⟨l, h1, _⟩ := h; subst h1; rfl
  | b lv x => obtain ⟨l, h1, _⟩ := h; subst h1; rfl
theorem Ro.frz {s : Pvs} {v : Vars} {M : Mem} {r : Po} {y : Vl} (er : ER M s v) (h : Ro M s v r y) : Ro M s v (pfrz r) (frz y) := by
  cases r with
  | d x => rw [PvR.fz (p := .d x) h]; exact h
  | n x => cases h; exact .inl rfl
  | v i =>
    obtain ⟨h1, q, h2⟩ := h
    obtain ⟨y', e1, e2⟩ := er.at_ i q h2
    rw [h1] at e1
    cases e1
    rw [e2.fz]
    exact ⟨h1, q, h2⟩
theorem PvR.der {M : Mem} {p : Pv} {y : Vl} (h : PvR M p y) : der M y = some p.dat := by
  cases p with
  | d x =>
    rcases h with h | ⟨l, h1, h2, _⟩
    · subst h; rfl
    · subst h1; simp only [Pd.der, h2, Option.map_some, Pv.dat]
  | c x => obtain ⟨l, h1, h2, _⟩ := h; subst h1; simp only [Pd.der, h2, Option.map_some, Pv.dat]
  | b lv x => obtain ⟨l, h1, h2, _⟩ := h; subst h1; simp only [Pd.der, h2, Option.map_some, Pv.dat]
theorem Ro.der {s : Pvs} {v : Vars} {M : Mem} {r : Po} {y : Vl} (er : ER M s v) (h : Ro M s v r y) : pder s r = der M y := by
  cases r with
  | d x => rw [PvR.der (p := .d x) h]; rfl
  | n x => cases h; rfl
  | v i =>
    obtain ⟨h1, q, h2⟩ := h
    obtain ⟨y', e1, e2⟩ := er.at_ i q h2
    rw [h1] at e1
    cases e1
    rw [e2.der]
    simp only [pder, h2, Option.map_some]
/-- rows of outcomes -/
def Ros (M : Mem) (s : Pvs) (v : Vars) : List Po → List Vl → Prop
  | [], ys => ys = []
  | r :: rs, ys => ∃ y t, ys = y :: t ∧ Ro M s v r y ∧ Ros M s v rs t
theorem Ros.mono {s s' : Pvs} {v : Vars} {M M' : Mem} : ∀ {rs : List Po} {ys : List Vl}, Ros M s v rs ys → ER M s v → EP s v M s' M' → Ros M' s' v rs ys
  | [], _, h, _, _ => h
  | r :: rs, _, h, er, p => by
    obtain ⟨y, t, e, h1, h2⟩ := h
    exact ⟨y, t, e, h1.mono er p, h2.mono er p⟩
theorem Ros.ders {s : Pvs} {v : Vars} {M : Mem} (er : ER M s v) : ∀ {rs : List Po} {ys : List Vl}, Ros M s v rs ys → pders s rs = ders M ys
  | [], _, h => by cases h; rfl
  | r :: rs, _, h => by
    obtain ⟨y, t, e, h1, h2⟩ := h
    subst e
    simp only [pders, Pd.ders, h1.der er, Ros.ders er h2]
theorem set_same {M : Mem} {l : Nat} {c : Cell} (h : M[l]? = some c) : M.set l c = M := by
  apply List.ext_getElem?
  intro k
  by_cases e : l = k
  · subst e
    rw [List.getElem?_set_self (List.getElem?_eq_some_iff.mp h).1, h]
  · rw [List.getElem?_set_ne e]
theorem pget_set {s : Pvs} {i j : Nat} {p : Option Pv} : pget (s.set i p) j = if i = j ∧ i < s.length then p else pget s j := by
  unfold pget
  by_cases e : i = j
  · subst e
    by_cases h : i < s.length
    · rw [List.getElem?_set_self h, if_pos ⟨rfl, h⟩]; rfl
    · rw [if_neg (fun z => h z.2), List.getElem?_eq_none (by rw [List.length_set]; omega), List.getElem?_eq_none (by omega)]
  · rw [List.getElem?_set_ne e, if_neg (fun z => e z.1)]
theorem pget_lt {s : Pvs} {i : Nat} {p : Pv} (h : pget s i = some p) : i < s.length := by
  unfold pget at h
  cases e : s[i]? with
  | none => rw [e] at h; cases h
  | some q => exact (List.getElem?_eq_some_iff.mp e).1
/-- a live list's slot gets other content -/
theorem EP.upd {s : Pvs} {v : Vars} {M : Mem} {i l : Nat} {p q : Pv} {c : Cell} (er : ER M s v) (hp : pget s i = some p) (lp : p.live = true) (hv : v[i]? = some (some (.loc l)))
    (ht : p.to q) (hq : PvR (M.set l c) q (.loc l)) (hl : q.live = true → c.live = true) : EP s v M (s.set i (some q)) (M.set l c) := by
  have own : Own s v l := ⟨i, p, hp, lp, hv⟩
  obtain ⟨x0, ex0, _⟩ := er.ownLive own
  have il := pget_lt hp
  refine ⟨⟨by rw [List.length_set]; exact er.len, fun j r h => ?_, fun j k r t l' h1 h2 h3 h4 h5 h6 => ?_⟩, ⟨by rw [List.length_set], fun j r h => ?_, fun j h => ?_⟩, ⟨by rw [List.length_set]; exact Nat.le_refl _, fun l' c' e n => ?_⟩⟩
  · rw [pget_set] at h
    by_cases e : i = j
    · subst e
      rw [if_pos ⟨rfl, il⟩] at h
      cases h
      exact ⟨_, hv, hq⟩
    · rw [if_neg (fun z => e z.1)] at h
      obtain ⟨y, e1, r1⟩ := er.at_ j r h
      refine ⟨y, e1, ?_⟩
      have ne : ∀ l' c', y = .loc l' → M[l']? = some c' → r.live = c'.live → l' ≠ l := by
        intro l' c' ey em el z
        subst z
        rw [ex0] at em
        cases em
        exact e (er.dis i j p r l' hp h lp el hv (by rw [e1, ey]))
      cases r with
      | d x =>
        rcases r1 with r1 | ⟨l', h1, h2, h3⟩
        · exact .inl r1
        · exact .inr ⟨l', h1, by rw [List.getElem?_set_ne (Ne.symm (ne l' _ h1 h2 rfl))]; exact h2, h3⟩
      | c x =>
        obtain ⟨l', h1, h2, h3⟩ := r1
        exact ⟨l', h1, by rw [List.getElem?_set_ne (Ne.symm (ne l' _ h1 h2 rfl))]; exact h2, h3⟩
      | b lv x =>
        obtain ⟨l', h1, h2, h3⟩ := r1
        exact ⟨l', h1, by rw [List.getElem?_set_ne (Ne.symm (ne l' _ h1 h2 rfl))]; exact h2, h3⟩
  · have key : ∀ j r, pget (s.set i (some q)) j = some r → r.live = true → ∃ r', pget s j = some r' ∧ r'.live = true := by
      intro j r h lr
      rw [pget_set] at h
      by_cases e : i = j
      · subst e
        exact ⟨p, hp, lp⟩
      · rw [if_neg (fun z => e z.1)] at h
        exact ⟨r, h, lr⟩
    obtain ⟨r', a1, a2⟩ := key j r h1 h3
    obtain ⟨t', b1, b2⟩ := key k t h2 h4
    exact er.dis j k r' t' l' a1 b1 a2 b2 h5 h6
  · rw [pget_set]
    by_cases e : i = j
    · subst e
      rw [hp] at h
      cases h
      exact ⟨q, by rw [if_pos ⟨rfl, il⟩], ht⟩
    · exact ⟨r, by rw [if_neg (fun z => e z.1)]; exact h, .refl r⟩
  · rw [pget_set]
    by_cases e : i = j
    · subst e
      rw [hp] at h
      cases h
    · rw [if_neg (fun z => e z.1)]; exact h
  · by_cases e2 : l = l'
    · subst e2
      exact absurd own n
    · rw [List.getElem?_set_ne e2]; exact e
theorem Ro.toD {s s' : Pvs} {v : Vars} {M : Mem} {r : Po} {y : Vl} {x : D} (er : ER M s v) (h : Ro M s v r y) (k : ptoD s r = some (x, s')) : ∃ M', toD M y = some (x, M') ∧ EP s v M s' M' := by
  have dcase : ∀ x', PvR M (.d x') y → ∃ M', Pd.toD M y = some (x', M') ∧ EP s v M s M' := by
    intro x' h
    rcases h with h | ⟨l, h1, h2, h3⟩
    · subst h; exact ⟨M, rfl, .refl er⟩
    · subst h1
      refine ⟨M, ?_, .refl er⟩
      simp only [Pd.toD, h2, set_same h2]
  cases r with
  | d x' =>
    simp only [ptoD, Option.some.injEq, Prod.mk.injEq] at k
    obtain ⟨k1, k2⟩ := k
    subst k1; subst k2
    exact dcase _ h
  | n x' =>
    simp only [ptoD, Option.some.injEq, Prod.mk.injEq] at k
    obtain ⟨k1, k2⟩ := k
    subst k1; subst k2
    cases h
    exact ⟨M, rfl, .refl er⟩
  | v i =>
    obtain ⟨h1, q, h2⟩ := h
    obtain ⟨y', e1, e2⟩ := er.at_ i q h2
    rw [h1] at e1
    cases e1
    simp only [ptoD, h2] at k
    cases q with
    | d x' =>
      simp only [Option.some.injEq, Prod.mk.injEq] at k
      obtain ⟨k1, k2⟩ := k
      subst k1; subst k2
      exact dcase _ e2
    | c x' =>
      simp only [Option.some.injEq, Prod.mk.injEq] at k
      obtain ⟨k1, k2⟩ := k
      subst k1; subst k2
      obtain ⟨l, a1, a2, a3⟩ := e2
      subst a1
      refine ⟨M.set l ⟨false, x'⟩, by simp only [Pd.toD, a2], EP.upd er h2 rfl h1 (.inr ⟨_, rfl⟩) (.inr ⟨l, rfl, ?_, a3⟩) (fun z => by cases z)⟩
      rw [List.getElem?_set_self (List.getElem?_eq_some_iff.mp a2).1]
    | b lv x' =>
      simp only [Option.some.injEq, Prod.mk.injEq] at k
      obtain ⟨k1, k2⟩ := k
      subst k1; subst k2
      obtain ⟨l, a1, a2, a3⟩ := e2
      subst a1
      cases lv with
      | true =>
        refine ⟨M.set l ⟨false, x'⟩, by simp only [Pd.toD, a2], EP.upd er h2 rfl h1 ⟨false, _, rfl, fun z => by cases z⟩ ⟨l, rfl, ?_, a3⟩ (fun z => by cases z)⟩
        rw [List.getElem?_set_self (List.getElem?_eq_some_iff.mp a2).1]
      | false =>
        have e : s.set i (some (.b false x')) = s := by
          apply List.ext_getElem?
          intro k
          by_cases e : i = k
          · subst e
            have il := pget_lt h2
            rw [List.getElem?_set_self il]
            unfold pget at h2
            cases e3 : s[i]? with
            | none => rw [e3] at h2; cases h2
            | some q => rw [e3] at h2; rw [← h2]; rfl
          · rw [List.getElem?_set_ne e]
        rw [e]
        exact ⟨M, by simp only [Pd.toD, a2, set_same a2], .refl er⟩
theorem Ros.toDs {v : Vars} : ∀ {rs : List Po} {ys : List Vl} {s s' : Pvs} {M : Mem} {xs : List D}, ER M s v → Ros M s v rs ys → ptoDs s rs = some (xs, s') → ∃ M', toDs M ys = some (xs, M') ∧ EP s v M s' M'
  | [], _, s, s', M, xs, er, h, k => by
    cases h
    simp only [ptoDs, Option.some.injEq, Prod.mk.injEq] at k
    obtain ⟨k1, k2⟩ := k
    subst k1; subst k2
    exact ⟨M, rfl, .refl er⟩
  | r :: rs, _, s, s', M, xs, er, h, k => by
    obtain ⟨y, t, e, h1, h2⟩ := h
    subst e
    simp only [ptoDs] at k
    cases e1 : ptoD s r with
    | none => rw [e1] at k; cases k
    | some p =>
      obtain ⟨x, s1⟩ := p
      rw [e1] at k
      simp only [Option.bind_some] at k
      obtain ⟨M1, m1, p1⟩ := h1.toD er e1
      cases e2 : ptoDs s1 rs with
      | none => rw [e2] at k; cases k
      | some q =>
        obtain ⟨xs', s2⟩ := q
        rw [e2] at k
        simp only [Option.map_some, Option.some.injEq, Prod.mk.injEq] at k
        obtain ⟨k1, k2⟩ := k
        subst k1; subst k2
        obtain ⟨M2, m2, p2⟩ := (h2.mono er p1).toDs p1.er e2
        exact ⟨M2, by simp only [Pd.toDs, m1, Option.bind_some, m2, Option.map_some], p1.trans p2⟩
def RelP {α β : Type} (s : Pvs) (v : Vars) (M : Mem) (G : α → β → Pvs → Mem → Prop) : RP α → R β → Prop
  | .ok a s', .ok b M' => EP s v M s' M' ∧ G a b s' M'
  | .exc c fs s', .exc c' fs' M' => c = c' ∧ fs = fs' ∧ EP s v M s' M'
  | .no, _ => True
  | _, _ => False
theorem RelP.bind {α β γ δ : Type} {s : Pvs} {v : Vars} {M : Mem} {G : α → β → Pvs → Mem → Prop} {G' : γ → δ → Pvs → Mem → Prop} {r : RP α} {q : R β} {f : α → Pvs → RP γ} {g : β → Mem → R δ}
    (h : RelP s v M G r q) (k : ∀ a b s1 M1, EP s v M s1 M1 → G a b s1 M1 → RelP s1 v M1 G' (f a s1) (g b M1)) : RelP s v M G' (r.bind f) (q.bind g) := by
  cases r with
  | no => trivial
  | exc c fs s' =>
    cases q with
    | exc c' fs' M' => exact h
    | ok b M' => exact h.elim
    | no => exact h.elim
  | ok a s' =>
    cases q with
    | exc c' fs' M' => exact h.elim
    | no => exact h.elim
    | ok b M' =>
      obtain ⟨h1, h2⟩ := h
      have z := k a b s' M' h1 h2
      show RelP s v M G' (f a s') (g b M')
      cases hf : f a s' with
      | no => trivial
      | ok c s2 =>
        rw [hf] at z
        cases hg : g b M' with
        | ok d M2 =>
          rw [hg] at z
          exact ⟨h1.trans z.1, z.2⟩
        | exc _ _ _ => rw [hg] at z; exact z.elim
        | no => rw [hg] at z; exact z.elim
      | exc c fs s2 =>
        rw [hf] at z
        cases hg : g b M' with
        | ok d M2 => rw [hg] at z; exact z.elim
        | exc _ _ _ =>
          rw [hg] at z
          exact ⟨z.1, z.2.1, h1.trans z.2.2⟩
        | no => rw [hg] at z; exact z.elim
end Pd

/-! PdU: what the evaluator without cells tells, the evaluator tells. Calls, binding, walks. -/
namespace Pd
open PySem PySem.Spec PyProof.Rows L2
/-! ### calls -/
def ArgR (M : Mem) : List Pv → List Vl → Prop
  | [], ys => ys = []
  | a :: as, ys => ∃ y t, ys = y :: t ∧ PvR M a y ∧ (∀ x, a ≠ .c x) ∧ (∀ x, a ≠ .b false x) ∧ ArgR M as t
def Alocs : List Pv → List Vl → List Nat
  | .b _ _ :: as, .loc l :: ys => l :: Alocs as ys
  | _ :: as, _ :: ys => Alocs as ys
  | _, _ => []
/-- the lists behind a call -/
def ArgB (M' : Mem) : List Pv → List Pv → List Vl → Prop
  | [], as', _ => as' = []
  | a :: as, as', ys => ∃ a' r y t, as' = a' :: r ∧ ys = y :: t ∧ (match a with
      | .b _ _ => ∃ lv x, a' = .b lv x ∧ PvR M' a' y
      | a => a' = a) ∧ ArgB M' as r t
structure AP (as : List Pv) (ys : List Vl) (M : Mem) (as' : List Pv) (M' : Mem) : Prop where
  bk : ArgB M' as as' ys
  len : M'.length = M.length
  fr : ∀ l c, M[l]? = some c → l ∉ Alocs as ys → M'[l]? = some c
def ResR (M : Mem) : Po → Vl → Prop
  | .d x, y => PvR M (.d x) y
  | .n x, y => y = .new x
  | .v _, _ => False
def RelF (as : List Pv) (ys : List Vl) (M : Mem) : RF → R Vl → Prop
  | .ok r as', .ok y M' => AP as ys M as' M' ∧ ResR M' r y
  | .exc c fs as', .exc c' fs' M' => c = c' ∧ fs = fs' ∧ AP as ys M as' M'
  | .no, _ => True
  | _, _ => False
def CR (C : Nat → List Pv → RF) (C' : Nat → List Vl → Mem → R Vl) : Prop := ∀ f as ys M, ArgR M as ys → (Alocs as ys).Nodup → RelF as ys M (C f as) (C' f ys M)

theorem prefs_mem {s : Pvs} : ∀ {rs : List Po} {i : Nat}, i ∈ prefs s rs → ∃ p, pget s i = some p ∧ p.live = true
  | [], i, h => by cases h
  | r :: rs, i, h => by
    simp only [prefs] at h
    cases e : refOf s r with
    | none => rw [e] at h; exact prefs_mem h
    | some j =>
      rw [e] at h
      rcases List.mem_cons.mp h with h | h
      · subst h
        cases r with
        | d x => cases e
        | n x => cases e
        | v k =>
          simp only [refOf] at e
          cases e2 : pget s k with
          | none => rw [e2] at e; cases e
          | some p =>
            rw [e2] at e
            cases p with
            | d x => cases e
            | c x => cases e; exact ⟨_, e2, rfl⟩
            | b l x =>
              cases l with
              | true => cases e; exact ⟨_, e2, rfl⟩
              | false => cases e
      · exact prefs_mem h
/-- the arguments as a call takes them -/
theorem resolve_ok {M : Mem} {s : Pvs} {v : Vars} (er : ER M s v) : ∀ {rs : List Po} {ys : List Vl} {as : List Pv}, Ros M s v rs ys → presolve s rs = some as →
    ArgR M as ys ∧ (∀ l, l ∈ Alocs as ys → ∃ i, i ∈ prefs s rs ∧ v[i]? = some (some (.loc l)))
  | [], ys, as, h, k => by
    cases h
    cases k
    exact ⟨rfl, fun l h => by cases h⟩
  | r :: rs, ys, as, h, k => by
    obtain ⟨y, t, e, h1, h2⟩ := h
    subst e
    simp only [presolve] at k
    cases hp : pres1 s r with
    | none => rw [hp] at k; cases k
    | some a =>
      rw [hp, Option.bind_some] at k
      cases e2 : presolve s rs with
      | none => rw [e2] at k; cases k
      | some as1 =>
        rw [e2] at k
        cases k
        obtain ⟨i1, i2⟩ := resolve_ok er h2 e2
        have key : (PvR M a y ∧ (∀ x, a ≠ .c x) ∧ (∀ x, a ≠ .b false x)) ∧ ∀ l x z, a = .b z x → y = .loc l → ∃ i, refOf s r = some i ∧ v[i]? = some (some (.loc l)) := by
          cases r with
          | d x =>
            simp only [pres1] at hp
            cases hp
            exact ⟨⟨h1, by constructor <;> intro _ h <;> cases h⟩, fun l x z h => by cases h⟩
          | n x => cases hp
          | v i =>
            obtain ⟨h1, p, h3⟩ := h1
            obtain ⟨y', e1, e3⟩ := er.at_ i p h3
            rw [h1] at e1
            cases e1
            simp only [pres1, h3] at hp
            cases p with
            | d x =>
              cases hp
              exact ⟨⟨e3, by constructor <;> intro _ h <;> cases h⟩, fun l x z h => by cases h⟩
            | c x =>
              cases hp
              exact ⟨⟨e3, by constructor <;> intro _ h <;> cases h⟩, fun l x z h ey => ⟨i, by simp only [refOf, h3], by rw [h1, ey]⟩⟩
            | b lv x =>
              cases lv with
              | true =>
                cases hp
                exact ⟨⟨e3, by constructor <;> intro _ h <;> cases h⟩, fun l x z h ey => ⟨i, by simp only [refOf, h3], by rw [h1, ey]⟩⟩
              | false =>
                cases hp
                exact ⟨⟨.inr e3, by constructor <;> intro _ h <;> cases h⟩, fun l x z h => by cases h⟩
        refine ⟨⟨y, t, rfl, key.1.1, key.1.2.1, key.1.2.2, i1⟩, fun l hl => ?_⟩
        simp only [prefs]
        have tail : l ∈ Alocs as1 t → ∃ i, (i ∈ match refOf s r with
            | some i => i :: prefs s rs
            | none => prefs s rs) ∧ v[i]? = some (some (.loc l)) := fun h => by
          obtain ⟨i, a1, a2⟩ := i2 l h
          refine ⟨i, ?_, a2⟩
          cases refOf s r with
          | none => exact a1
          | some j => exact List.mem_cons_of_mem _ a1
        cases a with
        | d x => exact tail hl
        | c x => exact absurd rfl (key.1.2.1 x)
        | b z x =>
          cases y with
          | d x' => exact tail hl
          | new x' => exact tail hl
          | loc l' =>
            rcases List.mem_cons.mp hl with h | h
            · subst h
              obtain ⟨i, a1, a2⟩ := key.2 l x z rfl rfl
              rw [a1]
              exact ⟨i, List.mem_cons_self, a2⟩
            · exact tail h
theorem resolve_nd {M : Mem} {s : Pvs} {v : Vars} (er : ER M s v) : ∀ {rs : List Po} {ys : List Vl} {as : List Pv}, Ros M s v rs ys → presolve s rs = some as → (prefs s rs).Nodup → (Alocs as ys).Nodup
  | [], ys, as, h, k, _ => by
    cases h
    cases k
    exact List.nodup_nil
  | r :: rs, ys, as, h, k, nd => by
    obtain ⟨y, t, e, h1, h2⟩ := h
    subst e
    simp only [presolve] at k
    cases hp : pres1 s r with
    | none => rw [hp] at k; cases k
    | some a =>
      rw [hp, Option.bind_some] at k
      cases e2 : presolve s rs with
      | none => rw [e2] at k; cases k
      | some as1 =>
        rw [e2] at k
        cases k
        simp only [prefs] at nd
        have nd2 : (prefs s rs).Nodup := by
          cases e : refOf s r with
          | none => rw [e] at nd; exact nd
          | some i => rw [e] at nd; exact (List.nodup_cons.mp nd).2
        have ih := resolve_nd er h2 e2 nd2
        cases r with
        | d x => simp only [pres1] at hp; cases hp; exact ih
        | n x => cases hp
        | v i =>
          obtain ⟨h1, p, h3⟩ := h1
          have live : ∀ {b}, p.live = true → refOf s (.v i) = some i → (∃ l x z, y = .loc l ∧ a = .b z x ∧ b = l) → b ∉ Alocs as1 t := by
            intro b lp er' hb hm
            obtain ⟨l, x, z, ey, ea, eb⟩ := hb
            subst eb
            obtain ⟨j, m1, m2⟩ := (resolve_ok er h2 e2).2 _ hm
            obtain ⟨q, q1, q2⟩ := prefs_mem m1
            have : i = j := er.dis i j p q b h3 q1 lp q2 (by rw [h1, ey]) m2
            subst this
            rw [er'] at nd
            exact (List.nodup_cons.mp nd).1 m1
          obtain ⟨y', e1, e3⟩ := er.at_ i p h3
          rw [h1] at e1
          cases e1
          cases p with
          | d x => simp only [pres1, h3] at hp; cases hp; exact ih
          | c x =>
            simp only [pres1, h3] at hp; cases hp
            obtain ⟨l, ey, _⟩ := e3
            subst ey
            exact List.nodup_cons.mpr ⟨live rfl (by simp only [refOf, h3]) ⟨l, x, true, rfl, rfl, rfl⟩, ih⟩
          | b lv x =>
            cases lv with
            | true =>
              simp only [pres1, h3] at hp; cases hp
              obtain ⟨l, ey, _⟩ := e3
              subst ey
              exact List.nodup_cons.mpr ⟨live rfl (by simp only [refOf, h3]) ⟨l, x, true, rfl, rfl, rfl⟩, ih⟩
            | false => simp only [pres1, h3] at hp; cases hp; exact ih
theorem ref_set {s : Pvs} {i : Nat} {p : Option Pv} : ∀ {rs : List Po}, (∀ r ∈ rs, r ≠ .v i) → prefs (s.set i p) rs = prefs s rs
  | [], _ => rfl
  | r :: rs, h => by
    have e : refOf (s.set i p) r = refOf s r := by
      cases r with
      | d x => rfl
      | n x => rfl
      | v j =>
        have : i ≠ j := fun z => h (.v j) List.mem_cons_self (by rw [z])
        simp only [refOf, pget_set, if_neg (fun z : i = j ∧ _ => this z.1)]
    simp only [prefs, e, ref_set fun r hr => h r (List.mem_cons_of_mem _ hr)]
theorem ref_in {s : Pvs} {i : Nat} (h : refOf s (.v i) = some i) : ∀ {rs : List Po}, .v i ∈ rs → i ∈ prefs s rs
  | r :: rs, m => by
    simp only [prefs]
    rcases List.mem_cons.mp m with e | e
    · subst e
      rw [h]
      exact List.mem_cons_self
    · have := ref_in h e
      cases refOf s r with
      | none => exact this
      | some j => exact List.mem_cons_of_mem _ this
theorem refOf_eq {s : Pvs} {r : Po} {i : Nat} (h : refOf s r = some i) : r = .v i ∧ ∃ p, pget s i = some p ∧ p.live = true := by
  cases r with
  | d x => cases h
  | n x => cases h
  | v k =>
    simp only [refOf] at h
    cases e2 : pget s k with
    | none => rw [e2] at h; cases h
    | some p =>
      rw [e2] at h
      cases p with
      | d x => cases h
      | c x => cases h; exact ⟨rfl, _, e2, rfl⟩
      | b l x =>
        cases l with
        | true => cases h; exact ⟨rfl, _, e2, rfl⟩
        | false => cases h
theorem pback_at : ∀ (rs : List Po) (as : List Pv) (s : Pvs), (prefs s rs).Nodup → rs.length = as.length → (pback s rs as).length = s.length ∧ (∀ i, i ∉ prefs s rs → pget (pback s rs as) i = pget s i) ∧
    ∀ i p, i ∈ prefs s rs → pget s i = some p → ∃ a, (Po.v i, a) ∈ rs.zip as ∧ pget (pback s rs as) i = some (p.back a)
  | [], as, s, _, _ => ⟨by cases as <;> rfl, fun i _ => by cases as <;> rfl, fun i p h => by cases h⟩
  | r :: rs, [], s, _, h => by cases h
  | r :: rs, a :: as, s, nd, hl => by
    have hl2 : rs.length = as.length := by simpa using hl
    simp only [prefs] at nd ⊢
    simp only [pback]
    cases e : refOf s r with
    | none =>
      rw [e] at nd
      obtain ⟨h1, h2, h3⟩ := pback_at rs as s nd hl2
      exact ⟨h1, h2, fun i p m q => by
        obtain ⟨b, m1, m2⟩ := h3 i p m q
        exact ⟨b, List.mem_cons_of_mem _ m1, m2⟩⟩
    | some i =>
      rw [e] at nd
      obtain ⟨er, p, hp, lp⟩ := refOf_eq e
      subst er
      obtain ⟨n1, n2⟩ := List.nodup_cons.mp nd
      have nv : ∀ r ∈ rs, r ≠ .v i := fun r hr z => n1 (ref_in e (z ▸ hr))
      have pe : prefs (s.set i (some (p.back a))) rs = prefs s rs := ref_set nv
      obtain ⟨h1, h2, h3⟩ := pback_at rs as (s.set i (some (p.back a))) (by rw [pe]; exact n2) hl2
      rw [pe] at h2 h3
      simp only [hp]
      refine ⟨by rw [h1, List.length_set], fun j hj => ?_, fun j q hj hq => ?_⟩
      · rw [List.mem_cons] at hj
        have hj := not_or.mp hj
        rw [h2 j hj.2, pget_set, if_neg (fun z => hj.1 z.1.symm)]
      · by_cases ej : i = j
        · subst ej
          rw [hp] at hq
          cases hq
          refine ⟨a, List.mem_cons_self, ?_⟩
          rw [h2 i n1, pget_set, if_pos ⟨rfl, pget_lt hp⟩]
        · rcases List.mem_cons.mp hj with z | z
          · exact absurd z.symm ej
          · obtain ⟨b, m1, m2⟩ := h3 j q z (by rw [pget_set, if_neg (fun z => ej z.1)]; exact hq)
            exact ⟨b, List.mem_cons_of_mem _ m1, m2⟩
theorem bk_at {M M' : Mem} {s : Pvs} {v : Vars} (er : ER M s v) : ∀ {rs : List Po} {ys : List Vl} {as as' : List Pv}, Ros M s v rs ys → presolve s rs = some as → ArgB M' as as' ys → rs.length = as'.length ∧
    ∀ i p a l, (Po.v i, a) ∈ rs.zip as' → pget s i = some p → p.live = true → v[i]? = some (some (.loc l)) → ∃ lv x, a = .b lv x ∧ M'[l]? = some ⟨lv, x⟩ ∧ isL x = true
  | [], ys, as, as', h, k, b => by
    cases h
    cases k
    cases b
    exact ⟨rfl, fun i p a l m => by cases m⟩
  | r :: rs, ys, as, as', h, k, b => by
    obtain ⟨y, t, e, h1, h2⟩ := h
    subst e
    simp only [presolve] at k
    cases hp : pres1 s r with
    | none => rw [hp] at k; cases k
    | some a0 =>
      rw [hp, Option.bind_some] at k
      cases e2 : presolve s rs with
      | none => rw [e2] at k; cases k
      | some as1 =>
        rw [e2] at k
        cases k
        obtain ⟨a', r', y', t', ea, ey, hb, hr⟩ := b
        subst ea
        cases ey
        obtain ⟨l1, l2⟩ := bk_at er h2 e2 hr
        refine ⟨by simp only [List.length_cons, l1], fun i p a l m hpi lp hv => ?_⟩
        rcases List.mem_cons.mp m with z | z
        · cases z
          obtain ⟨h1, p', h3⟩ := h1
          rw [hpi] at h3
          cases h3
          rw [hv] at h1
          cases h1
          have ea : ∃ z x, a0 = .b z x := by
            cases p with
            | d x => cases lp
            | c x => simp only [pres1, hpi] at hp; cases hp; exact ⟨_, _, rfl⟩
            | b lv x =>
              cases lv with
              | true => simp only [pres1, hpi] at hp; cases hp; exact ⟨_, _, rfl⟩
              | false => cases lp
          obtain ⟨z, x, ea⟩ := ea
          subst ea
          obtain ⟨lv, x', e1, hb⟩ := hb
          subst e1
          obtain ⟨l', e3, e4, e5⟩ := hb
          cases e3
          exact ⟨lv, x', rfl, e4, e5⟩
        · exact l2 i p a l z hpi lp hv
theorem back_ok {M M' : Mem} {s : Pvs} {v : Vars} {rs : List Po} {ys : List Vl} {as as' : List Pv} (er : ER M s v) (h : Ros M s v rs ys) (k : presolve s rs = some as) (nd : (prefs s rs).Nodup) (ap : AP as ys M as' M') : EP s v M (pback s rs as') M' := by
  obtain ⟨len, at2⟩ := bk_at er h k ap.bk
  obtain ⟨g1, g2, g3⟩ := pback_at rs as' s nd len
  have al := (resolve_ok er h k).2
  have locOf : ∀ i p, pget s i = some p → p.live = true → ∃ l, v[i]? = some (some (.loc l)) := by
    intro i p hp lp
    obtain ⟨y, e1, e2⟩ := er.at_ i p hp
    cases p with
    | d x => cases lp
    | c x => obtain ⟨l, ey, _⟩ := e2; subst ey; exact ⟨l, e1⟩
    | b lv x => obtain ⟨l, ey, _⟩ := e2; subst ey; exact ⟨l, e1⟩
  -- what stands in a slot behind
  have each : ∀ i p, pget s i = some p → ∃ q, pget (pback s rs as') i = some q ∧ p.to q ∧ ∃ y, v[i]? = some (some y) ∧ PvR M' q y := by
    intro i p hp
    by_cases hm : i ∈ prefs s rs
    · obtain ⟨p', hp', lp⟩ := prefs_mem hm
      rw [hp] at hp'
      cases hp'
      obtain ⟨a, m1, m2⟩ := g3 i p hm hp
      obtain ⟨l, hv⟩ := locOf i p hp lp
      obtain ⟨lv, x, ea, e3, e4⟩ := at2 i p a l m1 hp lp hv
      subst ea
      refine ⟨_, m2, ?_, .loc l, hv, ?_⟩
      · cases p with
        | d x => cases lp
        | c x' => cases lv with
          | true => exact .inl ⟨x, rfl⟩
          | false => exact .inr ⟨x, rfl⟩
        | b lv' x' =>
          have lp : lv' = true := lp
          subst lp
          exact ⟨lv, x, rfl, fun _ => rfl⟩
      · cases p with
        | d x => cases lp
        | c x' => cases lv with
          | true => exact ⟨l, rfl, e3, e4⟩
          | false => exact .inr ⟨l, rfl, e3, e4⟩
        | b lv' x' =>
          have lp : lv' = true := lp
          subst lp
          exact ⟨l, rfl, e3, e4⟩
    · refine ⟨p, by rw [g2 i hm, hp], .refl p, ?_⟩
      obtain ⟨y, e1, e2⟩ := er.at_ i p hp
      refine ⟨y, e1, ?_⟩
      have keep : ∀ l c, y = .loc l → M[l]? = some c → c.live = p.live → M'[l]? = some c := by
        intro l c ey em el
        refine ap.fr l c em fun z => ?_
        obtain ⟨j, j1, j2⟩ := al l z
        obtain ⟨q, q1, q2⟩ := prefs_mem j1
        obtain ⟨x0, ex0, _⟩ := er.ownLive ⟨j, q, q1, q2, j2⟩
        rw [em] at ex0
        cases ex0
        have : i = j := er.dis i j p q l hp q1 el.symm q2 (by rw [e1, ey]) j2
        exact hm (this ▸ j1)
      cases p with
      | d x =>
        rcases e2 with e2 | ⟨l, a1, a2, a3⟩
        · exact .inl e2
        · exact .inr ⟨l, a1, keep l _ a1 a2 rfl, a3⟩
      | c x => obtain ⟨l, a1, a2, a3⟩ := e2; exact ⟨l, a1, keep l _ a1 a2 rfl, a3⟩
      | b lv x => obtain ⟨l, a1, a2, a3⟩ := e2; exact ⟨l, a1, keep l _ a1 a2 rfl, a3⟩
  have none_ : ∀ i, pget s i = none → pget (pback s rs as') i = none := fun i hi => by
    rw [g2 i fun hm => ?_, hi]
    obtain ⟨p, hp, _⟩ := prefs_mem hm
    rw [hi] at hp
    cases hp
  have le : Le s (pback s rs as') := ⟨g1, fun i p hp => by
    obtain ⟨q, q1, q2, _⟩ := each i p hp
    exact ⟨q, q1, q2⟩, none_⟩
  have backw : ∀ i q, pget (pback s rs as') i = some q → ∃ p, pget s i = some p ∧ p.to q ∧ ∃ y, v[i]? = some (some y) ∧ PvR M' q y := by
    intro i q hq
    cases hp : pget s i with
    | none => rw [none_ i hp] at hq; cases hq
    | some p =>
      obtain ⟨q', q1, q2, q3⟩ := each i p hp
      rw [hq] at q1
      cases q1
      exact ⟨p, rfl, q2, q3⟩
  refine ⟨⟨by rw [g1]; exact er.len, fun i q hq => ?_, fun i j p q l h1 h2 h3 h4 h5 h6 => ?_⟩, le, ⟨by rw [ap.len]; exact Nat.le_refl _, fun l c e n => ap.fr l c e fun z => ?_⟩⟩
  · obtain ⟨_, _, _, z⟩ := backw i q hq
    exact z
  · obtain ⟨p', a1, a2, _⟩ := backw i p h1
    obtain ⟨q', b1, b2, _⟩ := backw j q h2
    exact er.dis i j p' q' l a1 b1 (a2.live h3) (b2.live h4) h5 h6
  · obtain ⟨j, j1, j2⟩ := al l z
    obtain ⟨q, q1, q2⟩ := prefs_mem j1
    exact n ⟨j, q, q1, q2, j2⟩
theorem call_ok {C : Nat → List Pv → RF} {C' : Nat → List Vl → Mem → R Vl} (hC : CR C C') {f : Nat} {M : Mem} {s : Pvs} {v : Vars} {rs : List Po} {ys : List Vl} (er : ER M s v) (h : Ros M s v rs ys) : RelP s v M (fun r y s' M' => Ro M' s' v r y) (pcall C f rs s) (C' f ys M) := by
  unfold pcall
  cases k : presolve s rs with
  | none => trivial
  | some as =>
    dsimp only
    by_cases nd : (prefs s rs).Nodup
    · rw [if_pos nd]
      have z := hC f as ys M (resolve_ok er h k).1 (resolve_nd er h k nd)
      cases e : C f as with
      | no => trivial
      | ok r as' =>
        rw [e] at z
        cases e' : C' f ys M with
        | ok y M' =>
          rw [e'] at z
          obtain ⟨ap, rr⟩ := z
          refine ⟨back_ok er h k nd ap, ?_⟩
          cases r with
          | d x => exact rr
          | n x => exact rr
          | v i => exact rr.elim
        | exc _ _ _ => rw [e'] at z; exact z.elim
        | no => rw [e'] at z; exact z.elim
      | exc c fs as' =>
        rw [e] at z
        cases e' : C' f ys M with
        | ok _ _ => rw [e'] at z; exact z.elim
        | exc c' fs' M' =>
          rw [e'] at z
          exact ⟨z.1, z.2.1, back_ok er h k nd z.2.2⟩
        | no => rw [e'] at z; exact z.elim
    · rw [if_neg nd]
      trivial
end Pd

/-! PdV: what the evaluator without cells tells, the evaluator tells. Expressions. -/
namespace Pd
open PySem PySem.Spec PyProof.Rows L2
/-! ### binding -/
structure BT (M : Mem) (s : Pvs) (v : Vars) (s1 : Pvs) (v1 : Vars) (P : Nat → Prop) : Prop where
  er : ER M s1 v1
  sl : s1.length = s.length
  vl : v1.length = v.length
  at_ : ∀ i, (pget s1 i = pget s i ∧ v1[i]? = v[i]?) ∨ (P i ∧ (∃ y, pget s1 i = some (.d y)) ∧ ∀ l x, pget s i ≠ some (.b l x))
theorem BT.refl {M : Mem} {s : Pvs} {v : Vars} {P : Nat → Prop} (h : ER M s v) : BT M s v s v P := ⟨h, rfl, rfl, fun _ => .inl ⟨rfl, rfl⟩⟩
theorem BT.trans {M : Mem} {s s1 s2 : Pvs} {v v1 v2 : Vars} {P : Nat → Prop} (h : BT M s v s1 v1 P) (k : BT M s1 v1 s2 v2 P) : BT M s v s2 v2 P :=
  ⟨k.er, k.sl.trans h.sl, k.vl.trans h.vl, fun i => by
    rcases k.at_ i with ⟨a, b⟩ | ⟨a, b, c⟩
    · rcases h.at_ i with ⟨a', b'⟩ | ⟨a', b', c'⟩
      · exact .inl ⟨a.trans a', b.trans b'⟩
      · exact .inr ⟨a', by rw [a]; exact b', c'⟩
    · refine .inr ⟨a, b, fun l x z => ?_⟩
      rcases h.at_ i with ⟨a', _⟩ | ⟨_, _, c'⟩
      · exact c l x (a'.trans z)
      · exact c' l x z⟩
theorem psetD_eq {s s1 : Pvs} {i : Nat} {p : Pv} (h : psetD s i p = some s1) : i < s.length ∧ s1 = s.set i (some p) ∧ ∀ l x, pget s i ≠ some (.b l x) := by
  unfold psetD at h
  cases e : s[i]? with
  | none => rw [e] at h; cases h
  | some o =>
    have il : i < s.length := (List.getElem?_eq_some_iff.mp e).1
    rw [e] at h
    have pe : pget s i = o := by unfold pget; rw [e]; rfl
    cases o with
    | none => cases h; exact ⟨il, rfl, fun l x z => by rw [pe] at z; cases z⟩
    | some q =>
      cases q with
      | b l x => cases h
      | d x => cases h; exact ⟨il, rfl, fun l x z => by rw [pe] at z; cases z⟩
      | c x => cases h; exact ⟨il, rfl, fun l x z => by rw [pe] at z; cases z⟩
theorem ER.set {M : Mem} {s : Pvs} {v : Vars} {i : Nat} {p : Pv} {y : Vl} (er : ER M s v) (il : i < s.length) (hy : PvR M p y) (hn : p.live = true → ∀ l, y = .loc l → ¬ Own s v l) : ER M (s.set i (some p)) (v.set i (some y)) := by
  have iv : i < v.length := by rw [← er.len]; exact il
  have vs : ∀ j, (v.set i (some y))[j]? = if i = j then some (some y) else v[j]? := fun j => by
    by_cases e : i = j
    · subst e; rw [List.getElem?_set_self iv, if_pos rfl]
    · rw [List.getElem?_set_ne e, if_neg e]
  have ss : ∀ j, pget (s.set i (some p)) j = if i = j then some p else pget s j := fun j => by
    rw [pget_set]
    by_cases e : i = j
    · rw [if_pos ⟨e, il⟩, if_pos e]
    · rw [if_neg (fun z => e z.1), if_neg e]
  refine ⟨by rw [List.length_set, List.length_set]; exact er.len, fun j q h => ?_, fun j k q r l h1 h2 h3 h4 h5 h6 => ?_⟩
  · rw [ss] at h
    rw [vs]
    by_cases e : i = j
    · rw [if_pos e] at h
      cases h
      exact ⟨y, by rw [if_pos e], hy⟩
    · rw [if_neg e] at h
      rw [if_neg e]
      exact er.at_ j q h
  · rw [ss] at h1 h2
    rw [vs] at h5 h6
    by_cases e : i = j
    · by_cases e' : i = k
      · rw [← e, ← e']
      · rw [if_pos e] at h1 h5
        rw [if_neg e'] at h2 h6
        cases h1
        cases h5
        exact absurd ⟨k, r, h2, h4, h6⟩ (hn h3 l rfl)
    · by_cases e' : i = k
      · rw [if_neg e] at h1 h5
        rw [if_pos e'] at h2 h6
        cases h2
        cases h6
        exact absurd ⟨j, q, h1, h3, h5⟩ (hn h4 l rfl)
      · rw [if_neg e] at h1 h5
        rw [if_neg e'] at h2 h6
        exact er.dis j k q r l h1 h2 h3 h4 h5 h6
theorem bt_set {M : Mem} {s s1 : Pvs} {v : Vars} {i : Nat} {x : D} {P : Nat → Prop} (er : ER M s v) (h : psetD s i (.d x) = some s1) (hi : P i) : i < v.length ∧ BT M s v s1 (v.set i (some (.d x))) P := by
  obtain ⟨il, e, nb⟩ := psetD_eq h
  subst e
  refine ⟨by rw [← er.len]; exact il, er.set il (.inl rfl) (fun z => by cases z), by rw [List.length_set], by rw [List.length_set], fun j => ?_⟩
  by_cases e : i = j
  · subst e
    exact .inr ⟨hi, ⟨x, by rw [pget_set, if_pos ⟨rfl, il⟩]⟩, nb⟩
  · exact .inl ⟨by rw [pget_set, if_neg (fun z => e z.1)], by rw [List.getElem?_set_ne e]⟩
mutual
theorem bindT_ok {M : Mem} {own : Option (List Nat)} : ∀ (t : T) (x : D) {s s1 : Pvs} {v : Vars}, ER M s v → (∀ o, own = some o → t.within o = true) → pbindT t x s = some s1 → ∃ v1, bindT t x v = some v1 ∧ BT M s v s1 v1 (fun i => ∀ o, own = some o → i ∈ o)
  | .n i, x, s, s1, v, er, hw, h => by
    simp only [pbindT] at h
    obtain ⟨a, b⟩ := bt_set (P := fun i => ∀ o, own = some o → i ∈ o) er h (fun o e => by
      have := hw o e
      simpa [T.within] using this)
    exact ⟨_, by simp only [bindT, if_pos a], b⟩
  | .t r, x, s, s1, v, er, hw, h => by
    cases x with
    | tup xs =>
      simp only [pbindT] at h
      obtain ⟨v1, a, b⟩ := bindTs_ok r xs er (fun o e => by have := hw o e; simpa [T.within] using this) h
      exact ⟨v1, by simp only [bindT, a], b⟩
    | _ => simp [pbindT] at h
  | .t0, x, s, s1, v, er, hw, h => by simp [pbindT] at h
  | .tc a r, x, s, s1, v, er, hw, h => by simp [pbindT] at h
theorem bindTs_ok {M : Mem} {own : Option (List Nat)} : ∀ (t : T) (xs : List D) {s s1 : Pvs} {v : Vars}, ER M s v → (∀ o, own = some o → t.withins o = true) → pbindTs t xs s = some s1 → ∃ v1, bindTs t xs v = some v1 ∧ BT M s v s1 v1 (fun i => ∀ o, own = some o → i ∈ o)
  | .n i, x, s, s1, v, er, hw, h => by simp [pbindTs] at h
  | .t r, x, s, s1, v, er, hw, h => by simp [pbindTs] at h
  | .t0, xs, s, s1, v, er, hw, h => by
    cases xs with
    | nil =>
      simp only [pbindTs, Option.some.injEq] at h
      subst h
      exact ⟨v, by simp only [bindTs], .refl er⟩
    | cons x xs => simp [pbindTs] at h
  | .tc a r, xs, s, s1, v, er, hw, h => by
    cases xs with
    | nil => simp [pbindTs] at h
    | cons x xs =>
      simp only [pbindTs] at h
      cases e : pbindT a x s with
      | none => rw [e] at h; cases h
      | some s2 =>
        rw [e, Option.bind_some] at h
        have hw' : ∀ o, own = some o → a.within o = true ∧ r.withins o = true := fun o e => by
          have := hw o e
          simpa [T.withins] using this
        obtain ⟨v2, a1, a2⟩ := bindT_ok a x er (fun o e => (hw' o e).1) e
        obtain ⟨v1, b1, b2⟩ := bindTs_ok r xs a2.er (fun o e => (hw' o e).2) h
        exact ⟨v1, by simp only [bindTs, a1, Option.bind_some, b1], a2.trans b2⟩
end
/-! ### what must stay -/
def GdR (v : Vars) : Pg1 → Gd → Prop
  | [], h => h = []
  | g :: gs, h => ∃ l c t, h = (l, c) :: t ∧ v[g.1]? = some (some (.loc l)) ∧ c.d = g.2 ∧ GdR v gs t
theorem GdR.chk {M : Mem} {s : Pvs} {v : Vars} (er : ER M s v) : ∀ {g : Pg1} {h : Gd}, GdR v g h → pchkG g s = true → chkG h M = true
  | [], h, r, _ => by cases r; rfl
  | g :: gs, h, r, k => by
    obtain ⟨l, c, t, e, h1, h2, h3⟩ := r
    subst e
    unfold pchkG at k
    rw [List.all_cons, Bool.and_eq_true] at k
    obtain ⟨k1, k2⟩ := k
    unfold chkG
    rw [List.all_cons, Bool.and_eq_true]
    refine ⟨?_, h3.chk er k2⟩
    unfold pchk1 at k1
    cases e : pget s g.1 with
    | none => rw [e] at k1; cases k1
    | some p =>
      rw [e] at k1
      obtain ⟨y, e1, e2⟩ := er.at_ g.1 p e
      rw [h1] at e1
      cases e1
      cases p with
      | d x => cases k1
      | c x =>
        obtain ⟨l', a1, a2, _⟩ := e2
        cases a1
        simp only [chk1, a2, h2, Bool.true_and]
        exact k1
      | b lv x =>
        obtain ⟨l', a1, a2, _⟩ := e2
        cases a1
        cases lv with
        | true =>
          simp only [chk1, a2, h2, Bool.true_and]
          exact k1
        | false => cases k1
theorem GdR.mono {v v1 : Vars} : ∀ {g : Pg1} {h : Gd}, GdR v g h → (∀ p ∈ g, v1[p.1]? = v[p.1]?) → GdR v1 g h
  | [], h, r, _ => r
  | g :: gs, h, r, k => by
    obtain ⟨l, c, t, e, h1, h2, h3⟩ := r
    exact ⟨l, c, t, e, by rw [k g List.mem_cons_self]; exact h1, h2, h3.mono fun p hp => k p (List.mem_cons_of_mem _ hp)⟩
theorem GdR.app {v : Vars} : ∀ {g g' : Pg1} {h h' : Gd}, GdR v g h → GdR v g' h' → GdR v (g ++ g') (h ++ h')
  | [], g', h, h', r, k => by cases r; exact k
  | g :: gs, g', h, h', r, k => by
    obtain ⟨l, c, t, e, h1, h2, h3⟩ := r
    subst e
    exact ⟨l, c, t ++ h', rfl, h1, h2, h3.app k⟩
theorem pchk_some {g : Pg1} {s : Pvs} (h : pchkG g s = true) {p : Nat × D} (m : p ∈ g) : ∃ q, pget s p.1 = some q := by
  have := List.all_eq_true.mp h p m
  unfold pchk1 at this
  cases e : pget s p.1 with
  | none => rw [e] at this; cases this
  | some q => exact ⟨q, rfl⟩
theorem Ro.seqOf {s : Pvs} {v : Vars} {M : Mem} {r : Po} {y : Vl} {q : Bool × List D × Pg1} (er : ER M s v) (h : Ro M s v r y) (k : pseqOf s r = some q) : ∃ g, seqOf M y = some (q.1, q.2.1, g) ∧ GdR v q.2.2 g := by
  have dcase : ∀ x, PvR M (.d x) y → (∀ xs, x = .lst xs → q = (false, xs, []) → ∃ g, Pd.seqOf M y = some (q.1, q.2.1, g) ∧ GdR v q.2.2 g) ∧ (∀ xs, x = .tup xs → q = (true, xs, []) → ∃ g, Pd.seqOf M y = some (q.1, q.2.1, g) ∧ GdR v q.2.2 g) := by
    intro x hx
    refine ⟨fun xs ex eq => ?_, fun xs ex eq => ?_⟩
    · subst ex; subst eq
      rcases hx with e | ⟨l, a1, a2, _⟩
      · subst e; exact ⟨[], rfl, rfl⟩
      · subst a1; exact ⟨[], by simp only [Pd.seqOf, a2]; rfl, rfl⟩
    · subst ex; subst eq
      rcases hx with e | ⟨l, a1, a2, a3⟩
      · subst e; exact ⟨[], rfl, rfl⟩
      · cases a3
  cases r with
  | d x =>
    cases x with
    | lst xs => cases k; exact (dcase _ h).1 _ rfl rfl
    | tup xs => cases k; exact (dcase _ h).2 _ rfl rfl
    | _ => cases k
  | n x =>
    cases h
    cases x with
    | lst xs => cases k; exact ⟨[], rfl, rfl⟩
    | _ => cases k
  | v i =>
    obtain ⟨h1, p, h2⟩ := h
    obtain ⟨y', e1, e2⟩ := er.at_ i p h2
    rw [h1] at e1
    cases e1
    simp only [pseqOf, h2] at k
    cases p with
    | d x =>
      cases x with
      | lst xs => cases k; exact (dcase _ e2).1 _ rfl rfl
      | tup xs => cases k; exact (dcase _ e2).2 _ rfl rfl
      | _ => cases k
    | c x =>
      cases x with
      | lst xs =>
        cases k
        obtain ⟨l, a1, a2, a3⟩ := e2
        subst a1
        exact ⟨_, by simp only [Pd.seqOf, a2]; rfl, l, _, [], rfl, h1, rfl, rfl⟩
      | _ => cases k
    | b lv x =>
      cases x with
      | lst xs =>
        obtain ⟨l, a1, a2, a3⟩ := e2
        subst a1
        cases lv with
        | true =>
          cases k
          exact ⟨_, by simp only [Pd.seqOf, a2]; rfl, l, _, [], rfl, h1, rfl, rfl⟩
        | false =>
          cases k
          exact ⟨[], by simp only [Pd.seqOf, a2]; rfl, rfl⟩
      | _ => cases lv <;> cases k
theorem Ro.iterOf {s : Pvs} {v : Vars} {M : Mem} {r : Po} {y : Vl} {q : List D × Pg1} (er : ER M s v) (h : Ro M s v r y) (k : piterOf s r = some q) : ∃ g, iterOf M y = some (q.1, g) ∧ GdR v q.2 g := by
  have other : ∀ (q : List D × Pg1), (pseqOf s r).map (·.2) = some q → (∀ z, y ≠ .d (.str z)) → ∃ g, Pd.iterOf M y = some (q.1, g) ∧ GdR v q.2 g := by
    intro q k ny
    cases e : pseqOf s r with
    | none => rw [e] at k; cases k
    | some w =>
      rw [e] at k
      cases k
      obtain ⟨g, e1, e2⟩ := h.seqOf er e
      refine ⟨g, ?_, e2⟩
      cases y with
      | d x =>
        cases x <;> first
          | (exfalso; exact ny _ rfl)
          | simp only [Pd.iterOf, e1, Option.map_some]
      | new x => simp only [Pd.iterOf, e1, Option.map_some]
      | loc l => simp only [Pd.iterOf, e1, Option.map_some]
  cases r with
  | d x =>
    cases x with
    | str z =>
      cases k
      rcases h with e | ⟨l, a1, a2, a3⟩
      · subst e; exact ⟨[], rfl, rfl⟩
      · cases a3
    | _ =>
      refine other q k fun z e => ?_
      subst e
      rcases h with e | ⟨l, a1, _⟩
      · cases e
      · cases a1
  | n x =>
    refine other q k fun z e => ?_
    cases h
    cases e
  | v i =>
    refine other q k fun z e => ?_
    subst e
    obtain ⟨h1, p, h2⟩ := h
    obtain ⟨y', e1, e2⟩ := er.at_ i p h2
    rw [h1] at e1
    cases e1
    cases p with
    | d x =>
      rcases e2 with e2 | ⟨l, a1, _⟩
      · cases e2
        simp only [piterOf, pseqOf, h2] at k
        cases k
      · cases a1
    | c x => obtain ⟨l, a1, _⟩ := e2; cases a1
    | b lv x => obtain ⟨l, a1, _⟩ := e2; cases a1
theorem Ro.mutate {m : Bm} {s : Pvs} {v : Vars} {M : Mem} {r : Po} {y : Vl} {as : List D} (er : ER M s v) (h : Ro M s v r y) : RelP s v M (fun r y s' M' => Ro M' s' v r y) (pmutate m s r as) (mutate m M y as) := by
  cases r with
  | d x => trivial
  | n x => trivial
  | v i =>
    obtain ⟨h1, p, h2⟩ := h
    obtain ⟨y', e1, e2⟩ := er.at_ i p h2
    rw [h1] at e1
    cases e1
    simp only [pmutate, h2]
    cases ed : p.dat with
    | lst xs =>
      dsimp only
      cases eb : bmM m xs as with
      | none => trivial
      | some w =>
        obtain ⟨ys, r⟩ := w
        dsimp only
        cases eu : p.upd (.lst ys) with
        | none => trivial
        | some q =>
          dsimp only
          have key : ∃ l, y = .loc l ∧ M[l]? = some ⟨true, .lst xs⟩ ∧ p.live = true ∧ p.to q ∧ q.live = true ∧ (∀ M' : Mem, M'[l]? = some ⟨true, .lst ys⟩ → PvR M' q (.loc l)) := by
            cases p with
            | d x => cases eu
            | c x =>
              cases eu
              obtain ⟨l, a1, a2, a3⟩ := e2
              have ed : x = .lst xs := ed
              subst ed
              exact ⟨l, a1, a2, rfl, .inl ⟨_, rfl⟩, rfl, fun M' e => ⟨l, rfl, e, rfl⟩⟩
            | b lv x =>
              cases lv with
              | false => cases eu
              | true =>
                cases eu
                obtain ⟨l, a1, a2, a3⟩ := e2
                have ed : x = .lst xs := ed
                subst ed
                exact ⟨l, a1, a2, rfl, ⟨_, _, rfl, fun _ => rfl⟩, rfl, fun M' e => ⟨l, rfl, e, rfl⟩⟩
          obtain ⟨l, ey, em, lp, ht, lq, hq⟩ := key
          subst ey
          simp only [Pd.mutate, em, eb]
          exact ⟨EP.upd er h2 lp h1 ht (hq _ (List.getElem?_set_self (List.getElem?_eq_some_iff.mp em).1)) (fun _ => rfl), .inl rfl⟩
    | _ => trivial
end Pd

/-! PdW: what the evaluator without cells tells, the evaluator tells. All expressions. -/
namespace Pd
open PySem PySem.Spec PyProof.Rows L2
def Rops (M : Mem) (s : Pvs) (v : Vars) (b : Nat) : List Po → List Vl → Prop
  | [], ys => ys = []
  | r :: rs, ys => ∃ y t, ys = y :: t ∧ (match r with
      | .n x => ∃ l, y = .loc l ∧ M[l]? = some ⟨true, x⟩ ∧ ¬ Own s v l ∧ b ≤ l ∧ Vl.loc l ∉ t
      | r => Ro M s v r y) ∧ Rops M s v b rs t
theorem Rops.base {M : Mem} {s : Pvs} {v : Vars} {b b' : Nat} (hb : b' ≤ b) : ∀ {rs : List Po} {ys : List Vl}, Rops M s v b rs ys → Rops M s v b' rs ys
  | [], _, h => h
  | r :: rs, _, h => by
    obtain ⟨y, t, e, h1, h2⟩ := h
    refine ⟨y, t, e, ?_, h2.base hb⟩
    cases r with
    | n x =>
      obtain ⟨l, a1, a2, a3, a4, a5⟩ := h1
      exact ⟨l, a1, a2, a3, Nat.le_trans hb a4, a5⟩
    | d x => exact h1
    | v i => exact h1
theorem Rops.fresh {M : Mem} {s : Pvs} {v : Vars} {b l : Nat} {x : D} (er : ER M s v) (hl : l < b) (e : M[l]? = some ⟨true, x⟩) (no : ¬ Own s v l) : ∀ {rs : List Po} {ys : List Vl}, Rops M s v b rs ys → Vl.loc l ∉ ys
  | [], _, h => by cases h; exact List.not_mem_nil
  | r :: rs, _, h => by
    obtain ⟨y, t, ey, h1, h2⟩ := h
    subst ey
    intro m
    rcases List.mem_cons.mp m with z | z
    · subst z
      cases r with
      | n x =>
        obtain ⟨l', a1, _, _, a4, _⟩ := h1
        cases a1
        omega
      | d x =>
        rcases h1 with h1 | ⟨l', a1, a2, _⟩
        · cases h1
        · cases a1
          rw [e] at a2
          cases a2
      | v i =>
        obtain ⟨h1, p, h3⟩ := h1
        obtain ⟨y', e1, e2⟩ := er.at_ i p h3
        rw [h1] at e1
        cases e1
        cases p with
        | d x =>
          rcases e2 with e2 | ⟨l', a1, a2, _⟩
          · cases e2
          · cases a1
            rw [e] at a2
            cases a2
        | c x => exact no ⟨i, _, h3, rfl, h1⟩
        | b lv x =>
          obtain ⟨l', a1, a2, _⟩ := e2
          cases a1
          rw [e] at a2
          cases a2
          exact no ⟨i, _, h3, rfl, h1⟩
    · exact h2.fresh er hl e no z
theorem ER.lt {M : Mem} {s : Pvs} {v : Vars} {l : Nat} (er : ER M s v) (o : Own s v l) : l < M.length := by
  obtain ⟨x, e, _⟩ := er.ownLive o
  exact (List.getElem?_eq_some_iff.mp e).1
theorem ER.push {M : Mem} {s : Pvs} {v : Vars} {c : Cell} (er : ER M s v) : EP s v M s (M ++ [c]) := by
  have g : ∀ l c', M[l]? = some c' → (M ++ [c])[l]? = some c' := fun l c' e => by
    rw [List.getElem?_append_left (List.getElem?_eq_some_iff.mp e).1]
    exact e
  refine ⟨⟨er.len, fun i p h => ?_, er.dis⟩, .refl s, ⟨by simp, fun l c' e _ => g l c' e⟩⟩
  obtain ⟨y, e1, e2⟩ := er.at_ i p h
  refine ⟨y, e1, ?_⟩
  cases p with
  | d x =>
    rcases e2 with e2 | ⟨l, a1, a2, a3⟩
    · exact .inl e2
    · exact .inr ⟨l, a1, g l _ a2, a3⟩
  | c x => obtain ⟨l, a1, a2, a3⟩ := e2; exact ⟨l, a1, g l _ a2, a3⟩
  | b lv x => obtain ⟨l, a1, a2, a3⟩ := e2; exact ⟨l, a1, g l _ a2, a3⟩
structure DenR (k : PDen) (m : Den) : Prop where
  v : ∀ s v M, ER M s v → RelP s v M (fun r y s' M' => Ro M' s' v r y) (k.v s) (m.v v M)
  a : ∀ s v M, ER M s v → RelP s v M (fun r y s' M' => Ros M' s' v r y) (k.a s) (m.a v M)
  p : ∀ cs s v M, ER M s v → RelP s v M (fun r y s' M' => Rops M' s' v M.length r y) (k.p cs s) (m.p cs v M)
  t : ∀ s v M, ER M s v → RelP s v M (fun r y _ _ => r = y) (k.t s) (m.t v M)
  i : ∀ s v M, ER M s v → RelP s v M (fun r y _ _ => r.1 = y.1 ∧ GdR v r.2 y.2) (k.i s) (m.i v M)
theorem relLift {α β : Type} {s : Pvs} {v : Vars} {M : Mem} {G : α → β → Pvs → Mem → Prop} {o : Option α} {o' : Option β} (er : ER M s v) (h : ∀ a, o = some a → ∃ b, o' = some b ∧ G a b s M) : RelP s v M G (RP.lift o s) (R.lift o' M) := by
  cases o with
  | none => trivial
  | some a =>
    obtain ⟨b, e, g⟩ := h a rfl
    subst e
    exact ⟨.refl er, g⟩
theorem relPo {s : Pvs} {v : Vars} {M : Mem} {o o' : Option Vl} (er : ER M s v) (h : o = o') : RelP s v M (fun r y s' M' => Ro M' s' v r y) (RP.lift (o.bind poOf) s) (R.lift o' M) := by
  subst h
  refine relLift er fun a e => ?_
  cases o with
  | none => cases e
  | some z =>
    refine ⟨z, rfl, ?_⟩
    cases z with
    | d x => cases e; exact .inl rfl
    | new x => cases e; exact rfl
    | loc l => cases e
theorem denR_ofV {f : Pvs → RP Po} {g : Vars → Mem → R Vl} (h : ∀ s v M, ER M s v → RelP s v M (fun r y s' M' => Ro M' s' v r y) (f s) (g v M)) : DenR (PDen.ofV f) (Den.ofV g) := by
  refine ⟨h, fun _ _ _ _ => trivial, fun _ _ _ _ _ => trivial, fun s v M er => ?_, fun s v M er => ?_⟩
  · refine (h s v M er).bind fun r y s1 M1 ep rr => relLift ep.er fun a e => ?_
    rw [rr.der ep.er] at e
    exact ⟨a, e, rfl⟩
  · refine (h s v M er).bind fun r y s1 M1 ep rr => relLift ep.er fun a e => ?_
    obtain ⟨g, e1, e2⟩ := (rr.frz ep.er).iterOf ep.er e
    exact ⟨_, e1, rfl, e2⟩
theorem denR_none {k : PDen} {m : Den} (h : k = PDen.none) : DenR k m := by
  subst h
  exact ⟨fun _ _ _ _ => trivial, fun _ _ _ _ => trivial, fun _ _ _ _ _ => trivial, fun _ _ _ _ => trivial, fun _ _ _ _ => trivial⟩
/-! ### comprehensions -/
theorem pwipe_len {s : Pvs} : ∀ own, (pwipe s own).length = s.length
  | [] => rfl
  | i :: r => by rw [pwipe, List.length_set, pwipe_len r]
theorem pwipe_get {s : Pvs} : ∀ {own : List Nat} {i : Nat}, pget (pwipe s own) i = if i ∈ own then none else pget s i
  | [], i => rfl
  | j :: r, i => by
    rw [pwipe, pget_set, pwipe_get (own := r)]
    by_cases e : j = i
    · subst e
      by_cases l : j < (pwipe s r).length
      · rw [if_pos ⟨rfl, l⟩, if_pos List.mem_cons_self]
      · rw [if_neg (fun z => l z.2)]
        have : pget s j = none := by
          unfold pget
          rw [List.getElem?_eq_none (by rw [pwipe_len] at l; omega)]
          rfl
        rw [this]
        simp
    · rw [if_neg (fun z => e z.1)]
      by_cases m : i ∈ r
      · rw [if_pos m, if_pos (List.mem_cons_of_mem _ m)]
      · rw [if_neg m, if_neg (fun z => by rcases List.mem_cons.mp z with z | z; exact e z.symm; exact m z)]
theorem wipeV_get {v : Vars} : ∀ {own : List Nat} {i : Nat}, i ∉ own → (wipeV v own)[i]? = v[i]?
  | [], i, _ => rfl
  | j :: r, i, h => by
    have h1 : i ≠ j := fun z => h (z ▸ List.mem_cons_self)
    have h2 : i ∉ r := fun z => h (List.mem_cons_of_mem _ z)
    rw [wipeV, List.getElem?_set_ne (Ne.symm h1), wipeV_get h2]
theorem wipeV_len {v : Vars} : ∀ own, (wipeV v own).length = v.length
  | [] => rfl
  | i :: r => by rw [wipeV, List.length_set, wipeV_len r]
theorem ER.wipe {M : Mem} {s : Pvs} {v vw : Vars} {own : List Nat} (er : ER M s v) (hl : vw.length = v.length) (hv : ∀ i, i ∉ own → vw[i]? = v[i]?) : ER M (pwipe s own) vw := by
  have g : ∀ i p, pget (pwipe s own) i = some p → i ∉ own ∧ pget s i = some p := fun i p h => by
    rw [pwipe_get] at h
    by_cases m : i ∈ own
    · rw [if_pos m] at h; cases h
    · rw [if_neg m] at h; exact ⟨m, h⟩
  refine ⟨by rw [pwipe_len, hl]; exact er.len, fun i p h => ?_, fun i j p q l h1 h2 h3 h4 h5 h6 => ?_⟩
  · obtain ⟨m, h⟩ := g i p h
    rw [hv i m]
    exact er.at_ i p h
  · obtain ⟨m1, h1⟩ := g i p h1
    obtain ⟨m2, h2⟩ := g j q h2
    rw [hv i m1] at h5
    rw [hv j m2] at h6
    exact er.dis i j p q l h1 h2 h3 h4 h5 h6
/-- a turn's end -/
theorem turn_ok {M M4 : Mem} {sw s1 s4 : Pvs} {vw v1 : Vars} {own : List Nat} (hw : ∀ i ∈ own, pget sw i = none) (bt : BT M sw vw s1 v1 (fun i => ∀ o, some own = some o → i ∈ o)) (ep : EP s1 v1 M s4 M4) : EP sw vw M (pwipe s4 own) M4 := by
  have at1 : ∀ i, i ∉ own → pget s1 i = pget sw i ∧ v1[i]? = vw[i]? := fun i m => by
    rcases bt.at_ i with h | ⟨h, _⟩
    · exact h
    · exact absurd (h own rfl) m
  have at2 : ∀ i p, pget s1 i = some p → p.live = true → i ∉ own := fun i p h l m => by
    rcases bt.at_ i with ⟨h1, _⟩ | ⟨_, ⟨y, h2⟩, _⟩
    · rw [hw i m] at h1
      rw [h] at h1
      cases h1
    · rw [h] at h2
      cases h2
      cases l
  refine ⟨ep.er.wipe bt.vl.symm fun i m => (at1 i m).2.symm, ⟨by rw [pwipe_len, ep.le.len, bt.sl], fun i p h => ?_, fun i h => ?_⟩, ⟨ep.fr.len, fun l c e n => ep.fr.at_ l c e fun o => n ?_⟩⟩
  · have m : i ∉ own := fun m => by rw [hw i m] at h; cases h
    rw [pwipe_get, if_neg m]
    exact ep.le.fw i p ((at1 i m).1.trans h)
  · rw [pwipe_get]
    by_cases m : i ∈ own
    · rw [if_pos m]
    · rw [if_neg m]
      exact ep.le.bw i ((at1 i m).1.trans h)
  · obtain ⟨i, p, h1, h2, h3⟩ := o
    have m := at2 i p h1 h2
    exact ⟨i, p, (at1 i m).1.symm.trans h1, h2, (at1 i m).2.symm.trans h3⟩
theorem lc_rel {t : T} {g : Pg1} {h : Gd} {own : List Nat} {c : Pvs → RP Bool} {e : Pvs → RP Po} {c' : Vars → Mem → R Bool} {e' : Vars → Mem → R Vl} {vw : Vars} (hwi : t.within own = true)
    (hc : ∀ s v M, ER M s v → RelP s v M (fun r y _ _ => r = y) (c s) (c' v M)) (he : ∀ s v M, ER M s v → RelP s v M (fun r y s' M' => Ro M' s' v r y) (e s) (e' v M)) (hg : (∃ s, pchkG g s = true ∧ ∀ i ∈ own, pget s i = none) → GdR vw g h) :
    ∀ (xs : List D) (sw : Pvs) (M : Mem) (ys : List D) (s2 : Pvs), ER M sw vw → (∀ i ∈ own, pget sw i = none) → plcGo t g own c e xs sw = .ok ys s2 → ∃ M2, lcGo t h c' e' vw xs M = .ok ys M2 ∧ EP sw vw M s2 M2
  | [], sw, M, ys, s2, er, hw, k => by
    unfold plcGo at k
    by_cases hk : pchkG g sw = true
    · rw [if_pos hk] at k
      cases k
      have hk' := (hg ⟨sw, hk, hw⟩).chk er hk
      exact ⟨M, by simp only [lcGo, hk', if_true], .refl er⟩
    · rw [if_neg hk] at k
      cases k
  | x :: xs, sw, M, ys, s2, er, hw, k => by
    unfold plcGo at k
    by_cases hk : pchkG g sw = true
    · rw [if_pos hk] at k
      have hk' := (hg ⟨sw, hk, hw⟩).chk er hk
      have wiped : ∀ (s : Pvs), ∀ i ∈ own, pget (pwipe s own) i = none := fun s i m => by rw [pwipe_get, if_pos m]
      cases eb : pbindT t x sw with
      | none => rw [eb] at k; cases k
      | some s1 =>
        rw [eb] at k
        dsimp only at k
        obtain ⟨v1, b1, bt⟩ := bindT_ok (own := some own) t x er (fun o eo => by cases eo; exact hwi) eb
        have rc := hc s1 v1 M bt.er
        cases ec : c s1 with
        | no => rw [ec] at k; cases k
        | exc _ _ _ => rw [ec] at k; cases k
        | ok b sa =>
          rw [ec] at k rc
          cases ec' : c' v1 M with
          | no => rw [ec'] at rc; exact rc.elim
          | exc _ _ _ => rw [ec'] at rc; exact rc.elim
          | ok b' Ma =>
            rw [ec'] at rc
            obtain ⟨epa, ebb⟩ := rc
            have ebb : b = b' := ebb
            subst ebb
            cases b with
            | false =>
              dsimp only at k
              have tk := turn_ok hw bt epa
              obtain ⟨M2, l1, l2⟩ := lc_rel hwi hc he hg xs (pwipe sa own) Ma ys s2 tk.er (wiped sa) k
              exact ⟨M2, by simp only [lcGo, hk', if_true, b1, ec', l1], tk.trans l2⟩
            | true =>
              dsimp only at k
              have re := he sa v1 Ma epa.er
              cases ee : e sa with
              | no => rw [ee] at k; cases k
              | exc _ _ _ => rw [ee] at k; cases k
              | ok y sb =>
                rw [ee] at k re
                cases ee' : e' v1 Ma with
                | no => rw [ee'] at re; exact re.elim
                | exc _ _ _ => rw [ee'] at re; exact re.elim
                | ok y' Mb =>
                  rw [ee'] at re
                  obtain ⟨epb, ry⟩ := re
                  dsimp only at k
                  cases ed : ptoD sb y with
                  | none => rw [ed] at k; cases k
                  | some w =>
                    obtain ⟨yd, sd⟩ := w
                    rw [ed] at k
                    dsimp only at k
                    obtain ⟨Md, d1, d2⟩ := ry.toD epb.er ed
                    have tk := turn_ok hw bt ((epa.trans epb).trans d2)
                    cases er2 : plcGo t g own c e xs (pwipe sd own) with
                    | no => rw [er2] at k; cases k
                    | exc _ _ _ => rw [er2] at k; cases k
                    | ok ys' s5 =>
                      rw [er2] at k
                      cases k
                      obtain ⟨M2, l1, l2⟩ := lc_rel hwi hc he hg xs (pwipe sd own) Md ys' s2 tk.er (wiped sd) er2
                      exact ⟨M2, by simp only [lcGo, hk', if_true, b1, ec', ee', d1, l1], tk.trans l2⟩
    · rw [if_neg hk] at k
      cases k
theorem prest_len {s0 s : Pvs} : ∀ own, (prest s0 s own).length = s.length
  | [] => rfl
  | i :: r => by rw [prest, List.length_set, prest_len r]
theorem prest_get {s0 s : Pvs} (hl : s.length = s0.length) : ∀ {own : List Nat} {i : Nat}, pget (prest s0 s own) i = if i ∈ own then pget s0 i else pget s i
  | [], i => rfl
  | j :: r, i => by
    rw [prest, pget_set, prest_get hl (own := r)]
    by_cases e : j = i
    · subst e
      rw [if_pos List.mem_cons_self]
      by_cases l : j < (prest s0 s r).length
      · rw [if_pos ⟨rfl, l⟩]
      · rw [if_neg (fun z => l z.2)]
        have n : ∀ u : Pvs, u.length = s.length → pget u j = none := fun u eu => by
          unfold pget
          rw [List.getElem?_eq_none (by rw [prest_len] at l; omega)]
          rfl
        rw [n s0 hl.symm, n s rfl]
        split <;> rfl
    · rw [if_neg (fun z => e z.1)]
      by_cases m : i ∈ r
      · rw [if_pos m, if_pos (List.mem_cons_of_mem _ m)]
      · rw [if_neg m, if_neg (fun z => by rcases List.mem_cons.mp z with z | z; exact e z.symm; exact m z)]
theorem rest_ok {M M2 : Mem} {s s2 : Pvs} {v : Vars} {own : List Nat} (er : ER M s v) (ep : EP (pwipe s own) (wipeV v own) M s2 M2) : EP s v M (prest s s2 own) M2 := by
  have hl : s2.length = s.length := by rw [ep.le.len, pwipe_len]
  have g := fun i => prest_get (s0 := s) (s := s2) hl (own := own) (i := i)
  have out : ∀ i, i ∉ own → pget (pwipe s own) i = pget s i := fun i m => by rw [pwipe_get, if_neg m]
  have gone : ∀ i ∈ own, pget s2 i = none := fun i m => ep.le.bw i (by rw [pwipe_get, if_pos m])
  have nown : ∀ l, Own (pwipe s own) (wipeV v own) l → ∃ i p, i ∉ own ∧ pget s i = some p ∧ p.live = true ∧ v[i]? = some (some (.loc l)) := fun l o => by
    obtain ⟨i, p, h1, h2, h3⟩ := o
    have m : i ∉ own := fun m => by rw [pwipe_get, if_pos m] at h1; cases h1
    exact ⟨i, p, m, (out i m) ▸ h1, h2, by rw [← wipeV_get m]; exact h3⟩
  have le : Le s (prest s s2 own) := by
    refine ⟨by rw [prest_len, hl], fun i p h => ?_, fun i h => ?_⟩
    · by_cases m : i ∈ own
      · exact ⟨p, by rw [g, if_pos m, h], .refl p⟩
      · rw [g, if_neg m]
        exact ep.le.fw i p ((out i m).trans h)
    · by_cases m : i ∈ own
      · rw [g, if_pos m, h]
      · rw [g, if_neg m]
        exact ep.le.bw i ((out i m).trans h)
  have back : ∀ i q, pget (prest s s2 own) i = some q → q.live = true → ∃ p, pget s i = some p ∧ p.live = true := fun i q h l => by
    cases hp : pget s i with
    | none => rw [le.bw i hp] at h; cases h
    | some p =>
      obtain ⟨q', e, r⟩ := le.fw i p hp
      rw [h] at e
      cases e
      exact ⟨p, rfl, r.live l⟩
  refine ⟨⟨by rw [prest_len, hl]; exact er.len, fun i q h => ?_, fun i j p q l h1 h2 h3 h4 h5 h6 => ?_⟩, le, ⟨ep.fr.len, fun l c e n => ep.fr.at_ l c e fun o => n ?_⟩⟩
  · by_cases m : i ∈ own
    · rw [g, if_pos m] at h
      obtain ⟨y, e1, e2⟩ := er.at_ i q h
      refine ⟨y, e1, ?_⟩
      have keep : ∀ l c, y = .loc l → M[l]? = some c → c.live = q.live → M2[l]? = some c := fun l c ey em el => by
        refine ep.fr.at_ l c em fun o => ?_
        obtain ⟨j, p, mj, hp, lp, hv⟩ := nown l o
        obtain ⟨x0, ex0, _⟩ := er.ownLive ⟨j, p, hp, lp, hv⟩
        rw [em] at ex0
        cases ex0
        have : i = j := er.dis i j q p l h hp el.symm lp (by rw [e1, ey]) hv
        exact mj (this ▸ m)
      cases q with
      | d x =>
        rcases e2 with e2 | ⟨l, a1, a2, a3⟩
        · exact .inl e2
        · exact .inr ⟨l, a1, keep l _ a1 a2 rfl, a3⟩
      | c x => obtain ⟨l, a1, a2, a3⟩ := e2; exact ⟨l, a1, keep l _ a1 a2 rfl, a3⟩
      | b lv x => obtain ⟨l, a1, a2, a3⟩ := e2; exact ⟨l, a1, keep l _ a1 a2 rfl, a3⟩
    · rw [g, if_neg m] at h
      obtain ⟨y, e1, e2⟩ := ep.er.at_ i q h
      rw [wipeV_get m] at e1
      exact ⟨y, e1, e2⟩
  · obtain ⟨p', a1, a2⟩ := back i p h1 h3
    obtain ⟨q', b1, b2⟩ := back j q h2 h4
    exact er.dis i j p' q' l a1 b1 a2 b2 h5 h6
  · obtain ⟨j, p, mj, hp, lp, hv⟩ := nown l o
    exact ⟨j, p, hp, lp, hv⟩
end Pd

/-! PdX: what the evaluator without cells tells, the evaluator tells. The theorem of expressions. -/
namespace Pd
open PySem PySem.Spec PyProof.Rows L2
theorem own_get0' {M : Mem} {c : Cell} : (M ++ [c])[M.length]? = some c := by
  rw [List.getElem?_append_right (Nat.le_refl _), Nat.sub_self]
  rfl
theorem relOk {α β : Type} {s : Pvs} {v : Vars} {M : Mem} {G : α → β → Pvs → Mem → Prop} {a : α} {b : β} (er : ER M s v) (h : G a b s M) : RelP s v M G (.ok a s) (.ok b M) := ⟨.refl er, h⟩
theorem asB_ok {s : Pvs} {v : Vars} {M : Mem} {r : Po} {y : Vl} {b : Bool} (h : Ro M s v r y) (k : pasB r = some b) : asB y = some b := by
  cases r with
  | d x =>
    cases x with
    | bl c =>
      rcases h with h | ⟨l, _, _, a⟩
      · subst h; exact k
      · cases a
    | _ => cases k
  | n x => cases k
  | v i => cases k
theorem int_ok {s : Pvs} {v : Vars} {M : Mem} {y : Vl} {i : Int} (h : Ro M s v (.d (.int i)) y) : y = .d (.int i) := by
  rcases h with h | ⟨l, _, _, a⟩
  · exact h
  · cases a
theorem opt_ok {s : Pvs} {v : Vars} {M : Mem} {r : RP Po} {q : R Vl} {b : Bool} (er : ER M s v) (h : RelP s v M (fun r y s' M' => Ro M' s' v r y) r q) : RelP s v M (fun r y _ _ => r = y) (poptI r b s) (optI q b M) := by
  cases b with
  | true => exact relOk er rfl
  | false =>
    refine h.bind fun r y s1 M1 ep rr => ?_
    cases r with
    | d x =>
      cases x with
      | int i =>
        have e := int_ok rr
        subst e
        exact relOk ep.er rfl
      | _ => trivial
    | n x => trivial
    | v i => trivial
theorem den_ok {C : Nat → List Pv → RF} {C' : Nat → List Vl → Mem → R Vl} (hC : CR C C') : ∀ e : E, DenR (pden C e) (den C' e) := by
  intro e
  induction e with
  | nil =>
    refine ⟨fun _ _ _ _ => trivial, fun s v M er => relOk er rfl, fun cs s v M er => ?_, fun _ _ _ _ => trivial, fun _ _ _ _ => trivial⟩
    cases cs with
    | nil => exact relOk er rfl
    | cons c cs => trivial
  | cons x r hx hr =>
    refine ⟨fun _ _ _ _ => trivial, fun s v M er => ?_, fun cs s v M er => ?_, fun _ _ _ _ => trivial, fun _ _ _ _ => trivial⟩
    · refine (hx.v s v M er).bind fun y y' s1 M1 ep ry => (hr.a s1 v M1 ep.er).bind fun ys ys' s2 M2 ep2 rys => relOk ep2.er ?_
      exact ⟨_, _, rfl, (ry.frz ep.er).mono ep.er ep2, rys⟩
    · cases cs with
      | nil => trivial
      | cons c cs =>
        refine (hx.v s v M er).bind fun y y' s1 M1 ep ry => ?_
        cases c with
        | false =>
          refine (hr.p cs s1 v M1 ep.er).bind fun ys ys' s2 M2 ep2 rys => relOk ep2.er ⟨_, _, rfl, ?_, rys.base ep.fr.len⟩
          have z := (ry.frz ep.er).mono ep.er ep2
          cases y with
          | d x => exact z
          | n x => exact z
          | v i => exact z
        | true =>
          cases y with
          | d x => trivial
          | v i => trivial
          | n x =>
            cases ry
            have pu := ep.er.push (c := ⟨true, x⟩)
            have el : (M1 ++ [(⟨true, x⟩ : Cell)])[M1.length]? = some ⟨true, x⟩ := own_get0'
            have no : ¬ Own s1 v M1.length := fun o => absurd (ep.er.lt o) (Nat.lt_irrefl _)
            refine RelP.bind (G := fun a b s' M' => a = .n x ∧ b = .loc M1.length ∧ s' = s1 ∧ M' = M1 ++ [⟨true, x⟩]) (s := s1) ⟨pu, rfl, rfl, rfl, rfl⟩ fun z z' s2 M2 ep2 rz => ?_
            obtain ⟨rfl, rfl, rfl, rfl⟩ := rz
            refine (hr.p cs s2 v _ ep2.er).bind fun ys ys' s3 M3 ep3 rys => relOk ep3.er ⟨_, _, rfl, ⟨M1.length, rfl, ep3.fr.at_ _ _ el no, fun o => no (ep3.le.own o), ep.fr.len, ?_⟩, rys.base (Nat.le_trans ep.fr.len pu.fr.len)⟩
            exact rys.fresh ep3.er (by simp) (ep3.fr.at_ _ _ el no) fun o => no (ep3.le.own o)
  | var i =>
    refine denR_ofV fun s v M er => ?_
    cases h : pget s i with
    | none => trivial
    | some p =>
      obtain ⟨y, e1, e2⟩ := er.at_ i p h
      simp only [e1]
      cases p with
      | d x => exact relOk er e2
      | c x => exact relOk er ⟨e1, _, h⟩
      | b l x => exact relOk er ⟨e1, _, h⟩
  | k d => exact denR_ofV fun s v M er => relOk er (.inl rfl)
  | g x d => exact denR_ofV fun s v M er => relOk er (.inl rfl)
  | op1 o a ha =>
    refine denR_ofV fun s v M er => (ha.v s v M er).bind fun r y s1 M1 ep rr => relPo ep.er ?_
    rw [rr.der ep.er]
  | op2 o a b ha hb =>
    refine denR_ofV fun s v M er => (ha.v s v M er).bind fun r y s1 M1 ep rr => (hb.v s1 v M1 ep.er).bind fun r2 y2 s2 M2 ep2 rr2 => relPo ep2.er ?_
    rw [(rr.mono ep.er ep2).der ep2.er, rr2.der ep2.er]
  | chain o p a b c ha hb hc =>
    refine denR_ofV fun s v M er => (ha.v s v M er).bind fun r y s1 M1 ep rr => (hb.v s1 v M1 ep.er).bind fun r2 y2 s2 M2 ep2 rr2 => ?_
    rw [(rr.mono ep.er ep2).der ep2.er, rr2.der ep2.er]
    cases (Pd.der M2 y).bind fun x => (Pd.der M2 y2).bind fun y => (op2 o x y).bind asB with
    | none => trivial
    | some b =>
      cases b with
      | false => exact relOk ep2.er (.inl rfl)
      | true =>
        refine (hc.v s2 v M2 ep2.er).bind fun r3 y3 s3 M3 ep3 rr3 => relPo ep3.er ?_
        rw [(rr2.mono ep2.er ep3).der ep3.er, rr3.der ep3.er]
  | and a b ha hb =>
    have h := denR_ofV (f := fun s => ((pden C a).v s).bind fun x s1 => match pasB x with
        | some true => (pden C b).v s1
        | some false => .ok (.d (.bl false)) s1
        | none => .no) (g := fun vs M => ((den C' a).v vs M).bind fun x M1 => match asB x with
        | some true => (den C' b).v vs M1
        | some false => .ok (.d (.bl false)) M1
        | none => .no) fun s v M er => (ha.v s v M er).bind fun r y s1 M1 ep rr => by
      cases e : pasB r with
      | none => trivial
      | some c =>
        rw [asB_ok rr e]
        cases c with
        | true => exact hb.v s1 v M1 ep.er
        | false => exact relOk ep.er (.inl rfl)
    refine ⟨h.v, h.a, h.p, fun s v M er => (ha.t s v M er).bind fun r y s1 M1 ep rr => ?_, h.i⟩
    have rr : r = y := rr
    subst rr
    cases r with
    | true => exact hb.t s1 v M1 ep.er
    | false => exact relOk ep.er rfl
  | or a b ha hb =>
    have h := denR_ofV (f := fun s => ((pden C a).v s).bind fun x s1 => match pasB x with
        | some false => (pden C b).v s1
        | some true => .ok (.d (.bl true)) s1
        | none => .no) (g := fun vs M => ((den C' a).v vs M).bind fun x M1 => match asB x with
        | some false => (den C' b).v vs M1
        | some true => .ok (.d (.bl true)) M1
        | none => .no) fun s v M er => (ha.v s v M er).bind fun r y s1 M1 ep rr => by
      cases e : pasB r with
      | none => trivial
      | some c =>
        rw [asB_ok rr e]
        cases c with
        | false => exact hb.v s1 v M1 ep.er
        | true => exact relOk ep.er (.inl rfl)
    refine ⟨h.v, h.a, h.p, fun s v M er => (ha.t s v M er).bind fun r y s1 M1 ep rr => ?_, h.i⟩
    have rr : r = y := rr
    subst rr
    cases r with
    | false => exact hb.t s1 v M1 ep.er
    | true => exact relOk ep.er rfl
  | not a ha =>
    have h := denR_ofV (f := fun s => ((pden C a).v s).bind fun x s1 => match (pder s1 x).bind D.truth with
        | some b => .ok (.d (.bl (!b))) s1
        | none => .no) (g := fun vs M => ((den C' a).v vs M).bind fun x M1 => match (der M1 x).bind D.truth with
        | some b => .ok (.d (.bl (!b))) M1
        | none => .no) fun s v M er => (ha.v s v M er).bind fun r y s1 M1 ep rr => by
      rw [rr.der ep.er]
      cases (Pd.der M1 y).bind D.truth with
      | none => trivial
      | some b => exact relOk ep.er (.inl rfl)
    refine ⟨h.v, h.a, h.p, fun s v M er => (ha.t s v M er).bind fun r y s1 M1 ep rr => ?_, h.i⟩
    have rr : r = y := rr
    subst rr
    exact relOk ep.er rfl
  | ife c a b hc ha hb =>
    refine denR_ofV fun s v M er => (hc.t s v M er).bind fun r y s1 M1 ep rr => ?_
    have rr : r = y := rr
    subst rr
    cases r with
    | true => exact ha.v s1 v M1 ep.er
    | false => exact hb.v s1 v M1 ep.er
  | tup as ha =>
    refine denR_ofV fun s v M er => (ha.a s v M er).bind fun rs ys s1 M1 ep rr => ?_
    cases e : ptoDs s1 rs with
    | none => trivial
    | some w =>
      obtain ⟨ds, s2⟩ := w
      obtain ⟨M2, e2, ep2⟩ := rr.toDs ep.er e
      simp only [e2]
      by_cases hl : short ds.length = true
      · have hl2 : ds.length ≤ 1000 := of_decide_eq_true hl
        rw [if_pos hl, if_pos hl2]
        exact ⟨ep2, .inl rfl⟩
      · rw [if_neg hl]
        trivial
  | lst as ha =>
    refine denR_ofV fun s v M er => (ha.a s v M er).bind fun rs ys s1 M1 ep rr => ?_
    cases e : ptoDs s1 rs with
    | none => trivial
    | some w =>
      obtain ⟨ds, s2⟩ := w
      obtain ⟨M2, e2, ep2⟩ := rr.toDs ep.er e
      simp only [e2]
      by_cases hl : short ds.length = true
      · have hl2 : ds.length ≤ 1000 := of_decide_eq_true hl
        rw [if_pos hl, if_pos hl2]
        exact ⟨ep2, rfl⟩
      · rw [if_neg hl]
        trivial
  | idx a b ha hb =>
    refine denR_ofV fun s v M er => (ha.v s v M er).bind fun r y s1 M1 ep rr => (hb.v s1 v M1 ep.er).bind fun r2 y2 s2 M2 ep2 rr2 => relPo ep2.er ?_
    rw [(rr.mono ep.er ep2).der ep2.er, rr2.der ep2.er]
  | sl a lo hi ha hlo hhi =>
    refine denR_ofV fun s v M er => (ha.v s v M er).bind fun r y s1 M1 ep rr => (opt_ok ep.er (hlo.v s1 v M1 ep.er)).bind fun l l' s2 M2 ep2 el => (opt_ok ep2.er (hhi.v s2 v M2 ep2.er)).bind fun u u' s3 M3 ep3 eu => ?_
    have el : l = l' := el
    have eu : u = u' := eu
    subst el; subst eu
    refine relPo ep3.er ?_
    rw [(rr.mono ep.er (ep2.trans ep3)).der ep3.er]
  | bi b as ha =>
    refine denR_ofV fun s v M er => (ha.a s v M er).bind fun rs ys s1 M1 ep rr => relPo ep.er ?_
    rw [rr.ders ep.er]
  | bm m o as ho ha =>
    refine denR_ofV fun s v M er => (ho.v s v M er).bind fun r y s1 M1 ep rr => ?_
    rw [rr.der ep.er]
    by_cases hb : bmTy m (Pd.der M1 y) = true
    · rw [if_pos hb, if_pos hb]
      refine (ha.a s1 v M1 ep.er).bind fun rs ys s2 M2 ep2 rr2 => ?_
      by_cases hm : m.mut = true
      · rw [if_pos hm, if_pos hm]
        cases e : ptoDs s2 rs with
        | none => trivial
        | some w =>
          obtain ⟨ds, s3⟩ := w
          obtain ⟨M3, e2, ep3⟩ := rr2.toDs ep2.er e
          simp only [e2]
          have z := Ro.mutate (m := m) (as := ds) ep3.er ((rr.frz ep.er).mono ep.er (ep2.trans ep3))
          cases ez : pmutate m s3 (pfrz r) ds with
          | no => trivial
          | ok q s4 =>
            rw [ez] at z
            cases ez' : mutate m M3 (frz y) ds with
            | ok q' M4 =>
              rw [ez'] at z
              exact ⟨ep3.trans z.1, z.2⟩
            | no => rw [ez'] at z; exact z.elim
            | exc _ _ _ => rw [ez'] at z; exact z.elim
          | exc c fs s4 =>
            rw [ez] at z
            cases ez' : mutate m M3 (frz y) ds with
            | ok q' M4 => rw [ez'] at z; exact z.elim
            | no => rw [ez'] at z; exact z.elim
            | exc _ _ _ =>
              rw [ez'] at z
              exact ⟨z.1, z.2.1, ep3.trans z.2.2⟩
      · rw [if_neg hm, if_neg hm]
        refine relPo ep2.er ?_
        rw [(rr.mono ep.er ep2).der ep2.er, rr2.ders ep2.er]
    · rw [if_neg hb]
      trivial
  | call f as ha => exact denR_ofV fun s v M er => (ha.a s v M er).bind fun rs ys s1 M1 ep rr => call_ok hC ep.er rr
  | isi ts a ha =>
    refine denR_ofV fun s v M er => (ha.v s v M er).bind fun r y s1 M1 ep rr => relPo ep.er ?_
    rw [rr.der ep.er]
  | rng lo hi hl hh =>
    refine ⟨fun _ _ _ _ => trivial, fun _ _ _ _ => trivial, fun _ _ _ _ _ => trivial, fun _ _ _ _ => trivial, fun s v M er => (hl.v s v M er).bind fun r y s1 M1 ep rr => (hh.v s1 v M1 ep.er).bind fun r2 y2 s2 M2 ep2 rr2 => ?_⟩
    cases r with
    | n x => trivial
    | v i => trivial
    | d x =>
      cases x with
      | int l =>
        cases r2 with
        | n x => trivial
        | v i => trivial
        | d x =>
          cases x with
          | int h =>
            have e1 := int_ok rr
            have e2 := int_ok rr2
            subst e1; subst e2
            dsimp only
            by_cases hr : rngOk l h = true
            · rw [if_pos hr, if_pos hr]
              exact relOk ep2.er ⟨rfl, rfl⟩
            · rw [if_neg hr]
              trivial
          | _ => trivial
      | _ => trivial
  | enum a ha =>
    refine ⟨fun _ _ _ _ => trivial, fun _ _ _ _ => trivial, fun _ _ _ _ _ => trivial, fun _ _ _ _ => trivial, fun s v M er => (ha.v s v M er).bind fun r y s1 M1 ep rr => relLift ep.er fun w e => ?_⟩
    cases eq : pseqOf s1 (pfrz r) with
    | none => rw [eq] at e; cases e
    | some q =>
      rw [eq] at e
      cases e
      obtain ⟨g, e1, e2⟩ := (rr.frz ep.er).seqOf ep.er eq
      exact ⟨_, by rw [e1]; rfl, rfl, e2⟩
  | zip a b ha hb =>
    refine ⟨fun _ _ _ _ => trivial, fun _ _ _ _ => trivial, fun _ _ _ _ _ => trivial, fun _ _ _ _ => trivial, fun s v M er => (ha.v s v M er).bind fun r y s1 M1 ep rr => (hb.v s1 v M1 ep.er).bind fun r2 y2 s2 M2 ep2 rr2 => relLift ep2.er fun w e => ?_⟩
    cases eq : pseqOf s2 (pfrz r) with
    | none => rw [eq] at e; cases e
    | some q =>
      cases eq2 : pseqOf s2 (pfrz r2) with
      | none => rw [eq, eq2] at e; cases e
      | some q2 =>
        rw [eq, eq2] at e
        simp only [Option.bind_some] at e
        obtain ⟨g, e1, e2⟩ := ((rr.frz ep.er).mono ep.er ep2).seqOf ep2.er eq
        obtain ⟨g', e3, e4⟩ := (rr2.frz ep2.er).seqOf ep2.er eq2
        by_cases hq : (q.1 == q2.1) = true
        · rw [if_pos hq] at e
          cases e
          refine ⟨(zipD q.2.1 q2.2.1, g ++ g'), ?_, rfl, e2.app e4⟩
          rw [e1, e3]
          simp only [Option.bind_some, hq, if_true]
        · rw [if_neg hq] at e
          cases e
  | lc own t it c e hit hc he =>
    refine denR_ofV fun s v M er => (hit.i s v M er).bind fun xs xs' s1 M1 ep rr => ?_
    obtain ⟨r1, r2⟩ := rr
    by_cases hw : t.within own = true
    · rw [if_pos hw]
      have wv : ∀ i, i ∉ own → (wipeV v own)[i]? = v[i]? := fun i m => wipeV_get m
      have erw := ep.er.wipe (wipeV_len (v := v) own) wv
      cases ek : plcGo t xs.2 own (if isTrueE c then fun s => .ok true s else (pden C c).t) (pden C e).v xs.1 (pwipe s1 own) with
      | no => trivial
      | exc _ _ _ => trivial
      | ok ys s2 =>
        have hcc : ∀ s v M, ER M s v → RelP s v M (fun r y _ _ => r = y) ((if isTrueE c then fun s => RP.ok true s else (pden C c).t) s) ((if isTrueE c then fun _ M => R.ok true M else (den C' c).t) v M) := by
          intro s v M er
          by_cases hi : isTrueE c = true
          · rw [if_pos hi, if_pos hi]
            exact relOk er rfl
          · rw [if_neg hi, if_neg hi]
            exact hc.t s v M er
        obtain ⟨M2, l1, l2⟩ := lc_rel hw hcc he.v (fun ⟨sx, k1, k2⟩ => r2.mono fun p hp => wipeV_get fun m => by
          obtain ⟨q, eq⟩ := pchk_some k1 hp
          rw [k2 _ m] at eq
          cases eq) xs.1 (pwipe s1 own) M1 ys s2 erw (fun i m => by rw [pwipe_get, if_pos m]) ek
        rw [r1] at l1
        simp only [l1]
        exact ⟨rest_ok ep.er l2, rfl⟩
    · rw [if_neg hw]
      trivial
end Pd

/-! PdY: what the evaluator without cells tells, the evaluator tells. Statements, defs. -/
namespace Pd
open PySem PySem.Spec PyProof.Rows L2
def Kb (s : Pvs) (v : Vars) (s' : Pvs) (v' : Vars) : Prop := ∀ i l x, pget s i = some (.b l x) → v'[i]? = v[i]? ∧ ∃ l' x', pget s' i = some (.b l' x') ∧ (l' = true → l = true)
structure SP (s : Pvs) (v : Vars) (M : Mem) (s' : Pvs) (v' : Vars) (M' : Mem) : Prop where
  er : ER M' s' v'
  len : M.length ≤ M'.length
  fr : ∀ l c, M[l]? = some c → ¬ Own s v l → M'[l]? = some c
  own : ∀ l, Own s' v' l → Own s v l ∨ M.length ≤ l
  kb : Kb s v s' v'
  sl : s'.length = s.length
theorem EP.sp {s s' : Pvs} {v : Vars} {M M' : Mem} (h : EP s v M s' M') : SP s v M s' v M' :=
  ⟨h.er, h.fr.len, h.fr.at_, fun l o => .inl (h.le.own o), fun i l x e => ⟨rfl, by
    obtain ⟨q, e1, l', y, e2, e3⟩ := h.le.fw i _ e
    exact ⟨l', y, by rw [e1, e2], e3⟩⟩, h.le.len⟩
theorem SP.refl {s : Pvs} {v : Vars} {M : Mem} (h : ER M s v) : SP s v M s v M := (EP.refl h).sp
theorem Kb.trans {s s1 s2 : Pvs} {v v1 v2 : Vars} (h : Kb s v s1 v1) (k : Kb s1 v1 s2 v2) : Kb s v s2 v2 := fun i l x e => by
  obtain ⟨a1, l', x', a2, a3⟩ := h i l x e
  obtain ⟨b1, l'', x'', b2, b3⟩ := k i l' x' a2
  exact ⟨b1.trans a1, l'', x'', b2, fun z => a3 (b3 z)⟩
theorem SP.trans {s s1 s2 : Pvs} {v v1 v2 : Vars} {M M1 M2 : Mem} (h : SP s v M s1 v1 M1) (k : SP s1 v1 M1 s2 v2 M2) : SP s v M s2 v2 M2 := by
  refine ⟨k.er, Nat.le_trans h.len k.len, fun l c e n => k.fr l c (h.fr l c e n) fun o => ?_, fun l o => ?_, h.kb.trans k.kb, k.sl.trans h.sl⟩
  · rcases h.own l o with z | z
    · exact n z
    · exact absurd (List.getElem?_eq_some_iff.mp e).1 (by omega)
  · rcases k.own l o with z | z
    · exact h.own l z
    · exact .inr (Nat.le_trans h.len z)
def RelS (s : Pvs) (v : Vars) (M : Mem) : RQ → RS → Prop
  | .nx s', .nx v' M' => SP s v M s' v' M'
  | .ret r s', .ret y M' => ∃ v', SP s v M s' v' M' ∧ Ro M' s' v' r y
  | .brk s', .brk v' M' => SP s v M s' v' M'
  | .cnt s', .cnt v' M' => SP s v M s' v' M'
  | .exc c fs s', .exc c' fs' v' M' => c = c' ∧ fs = fs' ∧ SP s v M s' v' M'
  | .no, _ => True
  | _, _ => False
theorem RelS.pre {s s1 : Pvs} {v v1 : Vars} {M M1 : Mem} {r : RQ} {q : RS} (h : SP s v M s1 v1 M1) (k : RelS s1 v1 M1 r q) : RelS s v M r q := by
  cases r <;> cases q <;> first
    | trivial
    | exact k.elim
    | exact h.trans k
    | exact ⟨k.1, k.2.1, h.trans k.2.2⟩
    | (obtain ⟨v', a, b⟩ := k; exact ⟨v', h.trans a, b⟩)
theorem RelP.thenS {α β : Type} {s : Pvs} {v : Vars} {M : Mem} {G : α → β → Pvs → Mem → Prop} {r : RP α} {q : R β} {f : α → Pvs → RQ} {g : β → Mem → RS}
    (h : RelP s v M G r q) (k : ∀ a b s1 M1, EP s v M s1 M1 → G a b s1 M1 → RelS s1 v M1 (f a s1) (g b M1)) : RelS s v M (r.thenS f) (q.thenS v g) := by
  cases r with
  | no => trivial
  | exc c fs s' =>
    cases q with
    | exc c' fs' M' => exact ⟨h.1, h.2.1, h.2.2.sp⟩
    | ok b M' => exact h.elim
    | no => exact h.elim
  | ok a s' =>
    cases q with
    | exc c' fs' M' => exact h.elim
    | no => exact h.elim
    | ok b M' => exact RelS.pre h.1.sp (k a b s' M' h.1 h.2)
theorem RelS.andThen {s : Pvs} {v : Vars} {M : Mem} {r : RQ} {q : RS} {f : Pvs → RQ} {g : Vars → Mem → RS} (h : RelS s v M r q) (k : ∀ s1 v1 M1, SP s v M s1 v1 M1 → RelS s1 v1 M1 (f s1) (g v1 M1)) : RelS s v M (r.andThen f) (q.andThen g) := by
  cases r <;> cases q <;> first
    | trivial
    | exact h.elim
    | exact h
    | exact RelS.pre h (k _ _ _ h)
theorem BT.sp {M : Mem} {s s1 : Pvs} {v v1 : Vars} {P : Nat → Prop} (h : BT M s v s1 v1 P) : SP s v M s1 v1 M := by
  refine ⟨h.er, Nat.le_refl _, fun _ _ e _ => e, fun l o => .inl ?_, fun i l x e => ?_, h.sl⟩
  · obtain ⟨i, p, h1, h2, h3⟩ := o
    rcases h.at_ i with ⟨a, b⟩ | ⟨_, ⟨y, b⟩, _⟩
    · exact ⟨i, p, a ▸ h1, h2, b ▸ h3⟩
    · rw [h1] at b
      cases b
      cases h2
  · rcases h.at_ i with ⟨a, b⟩ | ⟨_, _, b⟩
    · exact ⟨b, l, x, by rw [a, e], id⟩
    · exact absurd e (b l x)
/-- a slot is bound -/
theorem sp_set {M0 M : Mem} {s0 s s1 : Pvs} {v0 v : Vars} {i : Nat} {p : Pv} {y : Vl} (h0 : SP s0 v0 M0 s v M) (h : psetD s i p = some s1) (hy : PvR M p y) (hn : p.live = true → ∀ l, y = .loc l → ¬ Own s v l ∧ M0.length ≤ l) : i < v.length ∧ SP s0 v0 M0 s1 (v.set i (some y)) M := by
  obtain ⟨il, e, nb⟩ := psetD_eq h
  subst e
  have iv : i < v.length := by rw [← h0.er.len]; exact il
  have er := h0.er.set il hy fun l z e => (hn l z e).1
  refine ⟨iv, er, h0.len, h0.fr, fun l o => ?_, fun j l x e => ?_, by rw [List.length_set]; exact h0.sl⟩
  · obtain ⟨j, q, h1, h2, h3⟩ := o
    by_cases e : i = j
    · subst e
      rw [pget_set, if_pos ⟨rfl, il⟩] at h1
      cases h1
      rw [List.getElem?_set_self iv] at h3
      cases h3
      exact .inr (hn h2 l rfl).2
    · rw [pget_set, if_neg (fun z => e z.1)] at h1
      rw [List.getElem?_set_ne e] at h3
      exact h0.own l ⟨j, q, h1, h2, h3⟩
  · obtain ⟨a1, l', x', a2, a3⟩ := h0.kb j l x e
    have ne : i ≠ j := fun z => by subst z; exact nb l' x' a2
    exact ⟨(List.getElem?_set_ne ne).trans a1, l', x', by rw [pget_set, if_neg (fun z => ne z.1)]; exact a2, a3⟩
/-- what is left of a row when a slot is bound -/
theorem Rops.set {M : Mem} {s : Pvs} {v : Vars} {b i : Nat} {p : Pv} {y : Vl} (il : i < v.length) (hs : i < s.length) (hn : p.live = true → ∀ l, y = .loc l → ∀ (t : List Vl), True) : ∀ {rs : List Po} {ys : List Vl}, (p.live = true → y ∉ ys) → (∀ j, Po.v j ∉ rs) → Rops M s v b rs ys → Rops M (s.set i (some p)) (v.set i (some y)) b rs ys
  | [], _, _, _, h => h
  | r :: rs, _, hy, hr, h => by
    obtain ⟨z, t, e, h1, h2⟩ := h
    subst e
    refine ⟨z, t, rfl, ?_, h2.set il hs hn (fun l m => hy l (List.mem_cons_of_mem _ m)) fun j m => hr j (List.mem_cons_of_mem _ m)⟩
    cases r with
    | d x => exact h1
    | v j => exact absurd List.mem_cons_self (hr j)
    | n x =>
      obtain ⟨l, a1, a2, a3, a4, a5⟩ := h1
      refine ⟨l, a1, a2, fun o => ?_, a4, a5⟩
      obtain ⟨j, q, b1, b2, b3⟩ := o
      by_cases e : i = j
      · subst e
        rw [pget_set, if_pos ⟨rfl, hs⟩] at b1
        cases b1
        rw [List.getElem?_set_self il] at b3
        cases b3
        exact hy b2 (a1 ▸ List.mem_cons_self)
      · rw [pget_set, if_neg (fun z => e z.1)] at b1
        rw [List.getElem?_set_ne e] at b3
        exact a3 ⟨j, q, b1, b2, b3⟩
theorem setAll_no : ∀ {is : List Nat} {rs : List Po} {s s1 : Pvs}, psetAll s is rs = some s1 → ∀ j, Po.v j ∉ rs
  | [], [], s, s1, _, j => List.not_mem_nil
  | [], _ :: _, s, s1, k, j => by cases k
  | _ :: _, [], s, s1, k, j => by cases k
  | i :: is, r :: rs, s, s1, k, j => by
    simp only [psetAll] at k
    intro m
    cases r with
    | v j' => cases k
    | d x =>
      dsimp only at k
      cases e : psetD s i (.d x) with
      | none => rw [e] at k; cases k
      | some s2 =>
        rw [e] at k
        rcases List.mem_cons.mp m with z | z
        · cases z
        · exact setAll_no k j z
    | n x =>
      dsimp only at k
      cases e : (if isL x then psetD s i (.c x) else none) with
      | none => rw [e] at k; cases k
      | some s2 =>
        rw [e] at k
        rcases List.mem_cons.mp m with z | z
        · cases z
        · exact setAll_no k j z
theorem psetAll_ok {M0 M : Mem} {s0 : Pvs} {v0 : Vars} : ∀ {is : List Nat} {rs : List Po} {ys : List Vl} {s s1 : Pvs} {v : Vars}, SP s0 v0 M0 s v M → Rops M s v M0.length rs ys → psetAll s is rs = some s1 → ∃ v1, setAll v is ys = some v1 ∧ SP s0 v0 M0 s1 v1 M
  | [], [], ys, s, s1, v, sp, h, k => by
    cases h
    cases k
    exact ⟨v, rfl, sp⟩
  | [], _ :: _, ys, s, s1, v, sp, h, k => by cases k
  | _ :: _, [], ys, s, s1, v, sp, h, k => by cases k
  | i :: is, r :: rs, ys, s, s1, v, sp, h, k => by
    have nv := setAll_no k
    obtain ⟨y, t, e, h1, h2⟩ := h
    subst e
    simp only [psetAll] at k
    have nv2 : ∀ j, Po.v j ∉ rs := fun j m => nv j (List.mem_cons_of_mem _ m)
    cases r with
    | v j' => cases k
    | d x =>
      dsimp only at k
      cases e : psetD s i (.d x) with
      | none => rw [e] at k; cases k
      | some s2 =>
        rw [e, Option.bind_some] at k
        obtain ⟨il, eq, _⟩ := psetD_eq e
        obtain ⟨iv, q⟩ := sp_set (y := y) sp e h1 fun z => by cases z
        subst eq
        obtain ⟨v1, b1, b2⟩ := psetAll_ok q (h2.set iv il (fun _ _ _ _ => trivial) (fun z => by cases z) nv2) k
        exact ⟨v1, by simp only [setAll, if_pos iv, b1], b2⟩
    | n x =>
      dsimp only at k
      by_cases hx : isL x = true
      · rw [if_pos hx] at k
        cases e : psetD s i (.c x) with
        | none => rw [e] at k; cases k
        | some s2 =>
          rw [e, Option.bind_some] at k
          obtain ⟨il, eq, _⟩ := psetD_eq e
          obtain ⟨l, a1, a2, a3, a4, a5⟩ := h1
          subst a1
          obtain ⟨iv, q⟩ := sp_set (y := .loc l) sp e ⟨l, rfl, a2, hx⟩ fun _ l' e => by cases e; exact ⟨a3, a4⟩
          subst eq
          obtain ⟨v1, b1, b2⟩ := psetAll_ok q (h2.set iv il (fun _ _ _ _ => trivial) (fun _ => a5) nv2) k
          exact ⟨v1, by simp only [setAll, if_pos iv, b1], b2⟩
      · rw [if_neg hx] at k
        cases k
/-! ### locks -/
structure Cv (s s' : Pvs) : Prop where
  len : s'.length = s.length
  at_ : ∀ i q, pget s' i = some q → ∃ p, pget s i = some p ∧ q.live = p.live ∧ ∀ M y, PvR M p y → PvR M q y
theorem Cv.refl (s : Pvs) : Cv s s := ⟨rfl, fun i q h => ⟨q, h, rfl, fun _ _ r => r⟩⟩
theorem Cv.trans {s t u : Pvs} (h : Cv s t) (k : Cv t u) : Cv s u := ⟨k.len.trans h.len, fun i q e => by
  obtain ⟨p, a1, a2, a3⟩ := k.at_ i q e
  obtain ⟨r, b1, b2, b3⟩ := h.at_ i p a1
  exact ⟨r, b1, a2.trans b2, fun M y z => a3 M y (b3 M y z)⟩⟩
theorem Cv.set {s : Pvs} {i : Nat} {p q : Pv} (h : pget s i = some p) (l : q.live = p.live) (r : ∀ M y, PvR M p y → PvR M q y) : Cv s (s.set i (some q)) := ⟨by rw [List.length_set], fun j t e => by
  by_cases ej : i = j
  · subst ej
    rw [pget_set, if_pos ⟨rfl, pget_lt h⟩] at e
    cases e
    exact ⟨p, h, l, r⟩
  · rw [pget_set, if_neg (fun z => ej z.1)] at e
    exact ⟨t, e, rfl, fun _ _ z => z⟩⟩
theorem Cv.er {M : Mem} {s s' : Pvs} {v : Vars} (h : Cv s s') (er : ER M s v) : ER M s' v := by
  refine ⟨by rw [h.len]; exact er.len, fun i q e => ?_, fun i j p q l h1 h2 h3 h4 h5 h6 => ?_⟩
  · obtain ⟨p, a1, a2, a3⟩ := h.at_ i q e
    obtain ⟨y, b1, b2⟩ := er.at_ i p a1
    exact ⟨y, b1, a3 M y b2⟩
  · obtain ⟨p', a1, a2, _⟩ := h.at_ i p h1
    obtain ⟨q', b1, b2, _⟩ := h.at_ j q h2
    exact er.dis i j p' q' l a1 b1 (a2 ▸ h3) (b2 ▸ h4) h5 h6
theorem Cv.own {s s' : Pvs} {v : Vars} {l : Nat} (h : Cv s s') (o : Own s' v l) : Own s v l := by
  obtain ⟨i, q, e, lq, ev⟩ := o
  obtain ⟨p, a1, a2, _⟩ := h.at_ i q e
  exact ⟨i, p, a1, a2 ▸ lq, ev⟩
theorem plock_cv (s : Pvs) : ∀ g, Cv s (plock s g)
  | [] => .refl s
  | (i, x) :: r => by
    have ih := plock_cv s r
    simp only [plock]
    cases e : pget (plock s r) i with
    | none => exact ih
    | some p =>
      cases p with
      | d x => exact ih
      | b l x => exact ih
      | c x => exact ih.trans (.set e rfl fun M y h => h)
theorem punlock_cv (s0 s : Pvs) : ∀ g, Cv s (punlock s0 s g)
  | [] => .refl s
  | (i, x) :: r => by
    have ih := punlock_cv s0 s r
    simp only [punlock]
    cases e0 : pget s0 i with
    | none => exact ih
    | some p0 =>
      cases e : pget (punlock s0 s r) i with
      | none => cases p0 <;> exact ih
      | some p =>
        cases p0 with
        | d x => exact ih
        | b l x => exact ih
        | c x =>
          cases p with
          | d x => exact ih
          | c x => exact ih
          | b l x =>
            cases l with
            | true => exact ih.trans (.set e rfl fun M y h => h)
            | false => exact ih.trans (.set e rfl fun M y h => .inr h)
theorem plock_b (s : Pvs) {i : Nat} {l : Bool} {x : D} (h : pget s i = some (.b l x)) : ∀ g, pget (plock s g) i = some (.b l x)
  | [] => h
  | (j, y) :: r => by
    have ih := plock_b s h r
    simp only [plock]
    cases e : pget (plock s r) j with
    | none => exact ih
    | some p =>
      cases p with
      | d x => exact ih
      | b l x => exact ih
      | c x =>
        by_cases ej : j = i
        · subst ej
          rw [ih] at e
          cases e
        · rw [pget_set, if_neg (fun z => ej z.1)]
          exact ih
theorem punlock_b {s0 s : Pvs} {i : Nat} {l : Bool} {x : D} {l0 : Bool} {x0 : D} (h0 : pget s0 i = some (.b l0 x0)) (h : pget s i = some (.b l x)) : ∀ g, pget (punlock s0 s g) i = some (.b l x)
  | [] => h
  | (j, y) :: r => by
    have ih := punlock_b h0 h r
    have other : ∀ p, pget s0 j = some (.c p) → ∀ q, pget ((punlock s0 s r).set j q) i = some (.b l x) := by
      intro p hp q
      by_cases ej : j = i
      · subst ej
        rw [h0] at hp
        cases hp
      · rw [pget_set, if_neg (fun z => ej z.1)]
        exact ih
    simp only [punlock]
    cases e0 : pget s0 j with
    | none => exact ih
    | some p0 =>
      cases e : pget (punlock s0 s r) j with
      | none => cases p0 <;> exact ih
      | some p =>
        cases p0 with
        | d x => exact ih
        | b l x => exact ih
        | c x =>
          cases p with
          | d x => exact ih
          | c x => exact ih
          | b l x => cases l <;> exact other _ e0 _
theorem plock_locked (s : Pvs) : ∀ (g : Pg1) {i : Nat} {y : D}, (i, y) ∈ g → ∀ p, pget (plock s g) i = some p → ∀ x, p ≠ .c x
  | [], i, y, m, _, _, _ => by cases m
  | (j, z) :: r, i, y, m, p, h, x => by
    intro ep
    subst ep
    simp only [plock] at h
    have inr : pget (plock s r) i = some (.c x) → i = j := fun hr => by
      rcases List.mem_cons.mp m with e | e
      · cases e; rfl
      · exact absurd rfl (plock_locked s r e _ hr x)
    cases e : pget (plock s r) j with
    | none =>
      rw [e] at h
      have := inr h
      subst this
      rw [e] at h
      cases h
    | some q =>
      rw [e] at h
      cases q with
      | d w =>
        have := inr h
        subst this
        dsimp only at h
        rw [e] at h
        cases h
      | b l w =>
        have := inr h
        subst this
        dsimp only at h
        rw [e] at h
        cases h
      | c w =>
        dsimp only at h
        by_cases ej : j = i
        · subst ej
          rw [pget_set, if_pos ⟨rfl, pget_lt e⟩] at h
          cases h
        · rw [pget_set, if_neg (fun z => ej z.1)] at h
          exact ej (inr h).symm
theorem RelS.unlock {s : Pvs} {v : Vars} {M : Mem} {g : Pg1} {r : RQ} {q : RS} (er : ER M s v) (h : RelS (plock s g) v M r q) : RelS s v M (r.onS fun s2 => punlock s s2 g) q := by
  have lc := plock_cv s g
  have sp : ∀ {s' v' M'}, SP (plock s g) v M s' v' M' → SP s v M (punlock s s' g) v' M' := fun {s' v' M'} k => by
    have uc := punlock_cv s s' g
    refine ⟨uc.er k.er, k.len, fun l c e n => k.fr l c e fun o => n (lc.own o), fun l o => ?_, fun i l x e => ?_, by rw [uc.len, k.sl, lc.len]⟩
    · rcases k.own l (uc.own o) with z | z
      · exact .inl (lc.own z)
      · exact .inr z
    · obtain ⟨a1, l', x', a2, a3⟩ := k.kb i l x (plock_b s e g)
      exact ⟨a1, l', x', punlock_b e a2 g, a3⟩
  cases r <;> cases q <;> first
    | trivial
    | exact h.elim
    | exact sp h
    | exact ⟨h.1, h.2.1, sp h.2.2⟩
    | skip
  rename_i r s' y M'
  obtain ⟨v', a, b⟩ := h
  refine ⟨v', sp a, ?_⟩
  cases r with
  | d x => exact b
  | n x => exact b
  | v i =>
    obtain ⟨b1, p, b2⟩ := b
    refine ⟨b1, ?_⟩
    -- a slot that is bound stays so
    have : ∀ g, ∃ p, pget (punlock s s' g) i = some p := by
      intro g
      induction g with
      | nil => exact ⟨p, b2⟩
      | cons w r ih =>
        obtain ⟨j, y⟩ := w
        obtain ⟨p1, e1⟩ := ih
        have st : ∀ q, ∃ p, pget ((punlock s s' r).set j (some q)) i = some p := fun q => by
          rw [pget_set]
          split
          · exact ⟨q, rfl⟩
          · exact ⟨p1, e1⟩
        simp only [punlock]
        split
        · exact st _
        · exact st _
        · exact ⟨p1, e1⟩
    exact this g
theorem for_rel {t : T} {h : Gd} {g : Pg1} {b : Pvs → RQ} {b' : Vars → Mem → RS} (hb : ∀ s v M, ER M s v → RelS s v M (b s) (b' v M)) :
    ∀ (xs : List D) (s : Pvs) (v : Vars) (M : Mem), ER M s v → GdR v g h → (∀ p ∈ g, ∀ q, pget s p.1 = some q → ∀ x, q ≠ .c x) → RelS s v M (pforGo t g b xs s) (forGo t h b' xs v M)
  | [], s, v, M, er, gd, lk => by
    unfold pforGo forGo
    by_cases hk : pchkG g s = true
    · rw [if_pos hk, if_pos (gd.chk er hk)]
      exact SP.refl er
    · rw [if_neg hk]
      trivial
  | x :: xs, s, v, M, er, gd, lk => by
    unfold pforGo forGo
    by_cases hk : pchkG g s = true
    · rw [if_pos hk, if_pos (gd.chk er hk)]
      cases eb : pbindT t x s with
      | none => trivial
      | some s1 =>
        obtain ⟨v1, b1, bt⟩ := bindT_ok (own := none) t x er (fun o e => by cases e) eb
        simp only [b1]
        have h1 := RelS.pre bt.sp (hb s1 v1 M bt.er)
        -- the slots of what must stay hold the caller's
        have isb : ∀ p ∈ g, ∃ l x, pget s p.1 = some (.b l x) := fun p hp => by
          have := List.all_eq_true.mp hk p hp
          unfold pchk1 at this
          cases e : pget s p.1 with
          | none => rw [e] at this; cases this
          | some q =>
            rw [e] at this
            cases q with
            | d x => cases this
            | c x => exact absurd rfl (lk p hp _ e x)
            | b l x => exact ⟨l, x, rfl⟩
        have go : ∀ s2 v2 M2, SP s v M s2 v2 M2 → RelS s v M (pforGo t g b xs s2) (forGo t h b' xs v2 M2) := fun s2 v2 M2 sp => by
          refine RelS.pre sp (for_rel hb xs s2 v2 M2 sp.er (gd.mono fun p hp => ?_) fun p hp q eq x ex => ?_)
          · obtain ⟨l, x, e⟩ := isb p hp
            exact (sp.kb p.1 l x e).1
          · obtain ⟨l, x', e⟩ := isb p hp
            obtain ⟨_, l', y', e2, _⟩ := sp.kb p.1 l x' e
            rw [e2] at eq
            cases eq
            cases ex
        cases er1 : b s1 with
        | no => trivial
        | nx s2 =>
          rw [er1] at h1
          cases er2 : b' v1 M <;> rw [er2] at h1 <;> first
            | exact h1.elim
            | exact go _ _ _ h1
        | cnt s2 =>
          rw [er1] at h1
          cases er2 : b' v1 M <;> rw [er2] at h1 <;> first
            | exact h1.elim
            | exact go _ _ _ h1
        | brk s2 =>
          rw [er1] at h1
          cases er2 : b' v1 M <;> rw [er2] at h1 <;> first
            | exact h1.elim
            | exact h1
        | ret y s2 =>
          rw [er1] at h1
          cases er2 : b' v1 M <;> rw [er2] at h1 <;> first
            | exact h1.elim
            | exact h1
        | exc c fs s2 =>
          rw [er1] at h1
          cases er2 : b' v1 M <;> rw [er2] at h1 <;> first
            | exact h1.elim
            | exact h1
    · rw [if_neg hk]
      trivial
theorem wh_rel {c : Pvs → RP Bool} {c' : Vars → Mem → R Bool} {b : Pvs → RQ} {b' : Vars → Mem → RS} (hc : ∀ s v M, ER M s v → RelP s v M (fun r y _ _ => r = y) (c s) (c' v M)) (hb : ∀ s v M, ER M s v → RelS s v M (b s) (b' v M)) :
    ∀ (n : Nat) (s : Pvs) (v : Vars) (M : Mem), ER M s v → RelS s v M (pwhGo c b n s) (whGo c' b' n v M)
  | 0, s, v, M, er => trivial
  | n + 1, s, v, M, er => by
    refine (hc s v M er).thenS fun x y s1 M1 ep e => ?_
    have e : x = y := e
    subst e
    cases x with
    | false => exact SP.refl ep.er
    | true =>
      rw [if_pos rfl, if_pos rfl]
      have h1 := hb s1 v M1 ep.er
      cases er1 : b s1 with
      | no => trivial
      | nx s2 =>
        rw [er1] at h1
        cases er2 : b' v M1 <;> rw [er2] at h1 <;> first
          | exact h1.elim
          | exact RelS.pre h1 (wh_rel hc hb n _ _ _ h1.er)
      | cnt s2 =>
        rw [er1] at h1
        cases er2 : b' v M1 <;> rw [er2] at h1 <;> first
          | exact h1.elim
          | exact RelS.pre h1 (wh_rel hc hb n _ _ _ h1.er)
      | brk s2 =>
        rw [er1] at h1
        cases er2 : b' v M1 <;> rw [er2] at h1 <;> first
          | exact h1.elim
          | exact h1
      | ret y s2 =>
        rw [er1] at h1
        cases er2 : b' v M1 <;> rw [er2] at h1 <;> first
          | exact h1.elim
          | exact h1
      | exc c fs s2 =>
        rw [er1] at h1
        cases er2 : b' v M1 <;> rw [er2] at h1 <;> first
          | exact h1.elim
          | exact h1
end Pd

/-! PdZ: what the evaluator without cells tells, the evaluator tells. The theorem. -/
namespace Pd
open PySem PySem.Spec PyProof.Rows L2
theorem psetIx_ok {s s1 : Pvs} {v : Vars} {M : Mem} {r : Po} {y : Vl} {k : Int} {x : D} (er : ER M s v) (h : Ro M s v r y) (e : psetIx s r k x = some s1) : ∃ M1, setIx M y (.int k) x = some M1 ∧ EP s v M s1 M1 := by
  cases r with
  | d x => cases e
  | n x => cases e
  | v i =>
    obtain ⟨h1, p, h2⟩ := h
    obtain ⟨y', e1, e2⟩ := er.at_ i p h2
    rw [h1] at e1
    cases e1
    simp only [psetIx, h2, Option.bind_some] at e
    cases ed : p.dat with
    | lst xs =>
      rw [ed] at e
      dsimp only at e
      cases ej : ixN xs.length k with
      | none => rw [ej] at e; cases e
      | some j =>
        rw [ej, Option.bind_some] at e
        by_cases hj : j < xs.length
        · rw [if_pos hj] at e
          cases eu : p.upd (.lst (xs.set j x)) with
          | none => rw [eu] at e; cases e
          | some q =>
            rw [eu] at e
            cases e
            have key : ∃ l, y = .loc l ∧ M[l]? = some ⟨true, .lst xs⟩ ∧ p.live = true ∧ p.to q ∧ q.live = true ∧ (∀ M' : Mem, M'[l]? = some ⟨true, .lst (xs.set j x)⟩ → PvR M' q (.loc l)) := by
              cases p with
              | d x => cases eu
              | c x' =>
                cases eu
                obtain ⟨l, a1, a2, a3⟩ := e2
                have ed : x' = .lst xs := ed
                subst ed
                exact ⟨l, a1, a2, rfl, .inl ⟨_, rfl⟩, rfl, fun M' e => ⟨l, rfl, e, rfl⟩⟩
              | b lv x' =>
                cases lv with
                | false => cases eu
                | true =>
                  cases eu
                  obtain ⟨l, a1, a2, a3⟩ := e2
                  have ed : x' = .lst xs := ed
                  subst ed
                  exact ⟨l, a1, a2, rfl, ⟨_, _, rfl, fun _ => rfl⟩, rfl, fun M' e => ⟨l, rfl, e, rfl⟩⟩
            obtain ⟨l, ey, em, lp, ht, lq, hq⟩ := key
            subst ey
            refine ⟨M.set l ⟨true, .lst (xs.set j x)⟩, ?_, EP.upd er h2 lp h1 ht (hq _ (List.getElem?_set_self (List.getElem?_eq_some_iff.mp em).1)) (fun _ => rfl)⟩
            simp only [setIx, em, ej, Option.bind_some, if_pos hj]
        · rw [if_neg hj] at e
          cases e
    | _ => rw [ed] at e; cases e
theorem pS_ok {P : Pg} {C : Nat → List Pv → RF} {C' : Nat → List Vl → Mem → R Vl} (hC : CR C C') : ∀ (t : S) (s : Pvs) (v : Vars) (M : Mem), ER M s v → RelS s v M (pS ⟨C, P.W, P.X⟩ t s) (evS ⟨C', P.W, P.X⟩ t v M) := by
  intro t
  induction t with
  | skip => exact fun s v M er => SP.refl er
  | seq a b ha hb => exact fun s v M er => (ha s v M er).andThen fun s1 v1 M1 sp => hb s1 v1 M1 sp.er
  | set t e =>
    intro s v M er
    refine ((den_ok hC e).v s v M er).thenS fun r y s1 M1 ep rr => ?_
    have fr := rr.frz ep.er
    generalize pfrz r = r' at fr
    cases r' with
    | n x => trivial
    | d x =>
      dsimp only
      cases eb : pbindT t x s1 with
      | none => trivial
      | some s2 =>
        cases t with
        | n i =>
          simp only [pbindT] at eb
          obtain ⟨iv, sp⟩ := sp_set (y := frz y) (SP.refl ep.er) eb fr fun z => by cases z
          simp only [if_pos iv]
          exact sp
        | t tr =>
          obtain ⟨v1, b1, bt⟩ := bindT_ok (own := none) (.t tr) x ep.er (fun o e => by cases e) eb
          have fx : frz y = .d x := by
            rcases fr with h | ⟨l, _, _, a⟩
            · exact h
            · cases x with
              | lst xs => simp only [pbindT] at eb; cases eb
              | _ => cases a
          simp only [fx, b1]
          exact bt.sp
        | t0 => simp only [pbindT] at eb; cases eb
        | tc a b => simp only [pbindT] at eb; cases eb
    | v j =>
      obtain ⟨f1, p, f2⟩ := fr
      dsimp only
      rw [f2]
      cases p with
      | c x => trivial
      | b l x => trivial
      | d x =>
        cases t with
        | n i =>
          dsimp only
          cases eb : psetD s1 i (.d x) with
          | none => trivial
          | some s2 =>
            obtain ⟨y', e1, e2⟩ := ep.er.at_ j _ f2
            rw [f1] at e1
            cases e1
            obtain ⟨iv, sp⟩ := sp_set (y := frz y) (SP.refl ep.er) eb e2 fun z => by cases z
            simp only [if_pos iv]
            exact sp
        | _ => trivial
  | cell i e =>
    intro s v M er
    refine ((den_ok hC e).v s v M er).thenS fun r y s1 M1 ep rr => ?_
    cases r with
    | d x => trivial
    | v j => trivial
    | n x =>
      cases rr
      dsimp only
      by_cases hx : isL x = true
      · rw [if_pos hx]
        cases eb : psetD s1 i (.c x) with
        | none => trivial
        | some s2 =>
          have pu := ep.er.push (c := ⟨true, x⟩)
          obtain ⟨iv, sp⟩ := sp_set (y := .loc M1.length) pu.sp eb ⟨_, rfl, own_get0', hx⟩ fun _ l e => by
            cases e
            exact ⟨fun o => absurd (ep.er.lt o) (Nat.lt_irrefl _), Nat.le_refl _⟩
          simp only [asCell, if_pos iv]
          exact sp
      · rw [if_neg hx]
        trivial
  | par is cs es =>
    intro s v M er
    refine RelS.pre (SP.refl er) ?_
    have h := (den_ok hC es).p cs s v M er
    show RelS s v M (((pden C es).p cs s).thenS _) (((den C' es).p cs v M).thenS v _)
    cases e1 : (pden C es).p cs s with
    | no => trivial
    | exc c fs s1 =>
      rw [e1] at h
      cases e2 : (den C' es).p cs v M with
      | ok _ _ => rw [e2] at h; exact h.elim
      | no => rw [e2] at h; exact h.elim
      | exc _ _ _ => rw [e2] at h; exact ⟨h.1, h.2.1, h.2.2.sp⟩
    | ok rs s1 =>
      rw [e1] at h
      cases e2 : (den C' es).p cs v M with
      | exc _ _ _ => rw [e2] at h; exact h.elim
      | no => rw [e2] at h; exact h.elim
      | ok ys M1 =>
        rw [e2] at h
        obtain ⟨ep, rr⟩ := h
        show RelS s v M (match psetAll s1 is rs with
          | some s2 => .nx s2
          | none => .no) (match setAll v is ys with
          | some v1 => .nx v1 M1
          | none => .no)
        cases ea : psetAll s1 is rs with
        | none => trivial
        | some s2 =>
          obtain ⟨v1, b1, b2⟩ := psetAll_ok ep.sp rr ea
          simp only [b1]
          exact b2
  | setix o i e =>
    intro s v M er
    refine ((den_ok hC e).v s v M er).thenS fun r y s1 M1 ep rr => ?_
    cases ed : ptoD s1 r with
    | none => trivial
    | some w =>
      obtain ⟨yd, s2⟩ := w
      obtain ⟨M2, d1, d2⟩ := rr.toD ep.er ed
      simp only [d1]
      refine RelS.pre d2.sp (((den_ok hC o).v s2 v M2 d2.er).thenS fun r2 y2 s3 M3 ep3 rr2 => ((den_ok hC i).v s3 v M3 ep3.er).thenS fun r3 y3 s4 M4 ep4 rr3 => ?_)
      cases r3 with
      | n x => trivial
      | v j => trivial
      | d x =>
        cases x with
        | int k =>
          have e3 := int_ok rr3
          subst e3
          dsimp only
          cases ex : psetIx s4 r2 k yd with
          | none => trivial
          | some s5 =>
            obtain ⟨M5, m1, m2⟩ := psetIx_ok ep4.er (rr2.mono ep3.er ep4) ex
            simp only [m1]
            exact m2.sp
        | _ => trivial
  | aug i o e =>
    intro s v M er
    simp only [pS, evS]
    cases hp : pget s i with
    | none => trivial
    | some p =>
      cases p with
      | c x => trivial
      | b l x => trivial
      | d x =>
        obtain ⟨y0, e1, e2⟩ := er.at_ i _ hp
        dsimp only
        rcases e2 with e2 | ⟨l, a1, a2, a3⟩
        · subst e2
          simp only [e1]
          by_cases hx : isL x = true
          · rw [if_pos hx]; trivial
          rw [if_neg hx]
          refine ((den_ok hC e).v s v M er).thenS fun r y s1 M1 ep rr => ?_
          cases r with
          | n z => trivial
          | v j => trivial
          | d z =>
            dsimp only
            by_cases ha : augOk o x z = true
            · rw [if_pos ha]
              have ez : y = .d z := by
                rcases rr with h | ⟨l, _, _, a⟩
                · exact h
                · cases z with
                  | lst _ => cases o <;> cases x <;> cases ha
                  | _ => cases a
              subst ez
              simp only [if_pos ha]
              cases eo : op2 o x z with
              | none => trivial
              | some w =>
                cases w with
                | d w =>
                  dsimp only
                  cases eb : psetD s1 i (.d w) with
                  | none => trivial
                  | some s2 =>
                    obtain ⟨iv, sp⟩ := sp_set (y := .d w) (SP.refl ep.er) eb (.inl rfl) fun z => by cases z
                    exact sp
                | new w => trivial
                | loc w => trivial
            · rw [if_neg ha]
              trivial
        · rw [if_pos a3]
          trivial
  | ex e => exact fun s v M er => ((den_ok hC e).v s v M er).thenS fun r y s1 M1 ep rr => SP.refl ep.er
  | ret e => exact fun s v M er => ((den_ok hC e).v s v M er).thenS fun r y s1 M1 ep rr => ⟨v, SP.refl ep.er, rr⟩
  | retn => exact fun s v M er => ⟨v, SP.refl er, .inl rfl⟩
  | ite c a b ha hb =>
    exact fun s v M er => ((den_ok hC c).t s v M er).thenS fun r y s1 M1 ep rr => by
      have rr : r = y := rr
      subst rr
      cases r with
      | true => exact ha s1 v M1 ep.er
      | false => exact hb s1 v M1 ep.er
  | «for» t it b hb =>
    exact fun s v M er => ((den_ok hC it).i s v M er).thenS fun r y s1 M1 ep rr => by
      obtain ⟨r1, r2⟩ := rr
      refine RelS.unlock ep.er ?_
      have z := for_rel (t := t) (h := y.2) (g := r.2) hb r.1 (plock s1 r.2) v M1 ((plock_cv s1 r.2).er ep.er) r2 fun p hp q hq x => plock_locked s1 r.2 (i := p.1) (y := p.2) hp q hq x
      rw [r1] at z
      rw [r1]
      exact z
  | whil c b hb => exact fun s v M er => wh_rel (den_ok hC c).t hb _ s v M er
  | raise c as =>
    exact fun s v M er => ((den_ok hC as).a s v M er).thenS fun rs ys s1 M1 ep rr => by
      cases e : ptoDs s1 rs with
      | none => trivial
      | some w =>
        obtain ⟨ds, s2⟩ := w
        obtain ⟨M2, e2, ep2⟩ := rr.toDs ep.er e
        simp only [e2]
        cases exFields (P.X c) ds with
        | none => trivial
        | some fs => exact ⟨rfl, rfl, ep2.sp⟩
  | brk => exact fun s v M er => SP.refl er
  | cnt => exact fun s v M er => SP.refl er
  | nev => exact fun s v M er => trivial
/-! ### defs -/
theorem ArgR.at_ {M : Mem} : ∀ {as : List Pv} {ys : List Vl}, ArgR M as ys → as.length = ys.length ∧ ∀ (i : Nat) p, as[i]? = some p → ∃ y, ys[i]? = some y ∧ PvR M p y ∧ (∀ x, p ≠ .c x) ∧ (∀ x, p ≠ .b false x)
  | [], _, h => by
    cases h
    exact ⟨rfl, fun i p e => by cases e⟩
  | a :: as, _, h => by
    obtain ⟨y, t, e, h1, h2, h3, h4⟩ := h
    subst e
    obtain ⟨l, k⟩ := ArgR.at_ h4
    refine ⟨by simp [l], fun i p e => ?_⟩
    cases i with
    | zero =>
      cases e
      exact ⟨y, rfl, h1, h2, h3⟩
    | succ i => exact k i p e
theorem alocs_mem : ∀ {as : List Pv} {ys : List Vl} {i : Nat} {z : Bool} {x : D} {l : Nat}, as[i]? = some (.b z x) → ys[i]? = some (.loc l) → l ∈ Alocs as ys
  | [], _, i, _, _, _, h, _ => by cases h
  | a :: as, [], i, _, _, _, _, h => by cases h
  | a :: as, y :: ys, 0, z, x, l, h, k => by
    cases h
    cases k
    exact List.mem_cons_self
  | a :: as, y :: ys, i + 1, z, x, l, h, k => by
    have ih : l ∈ Alocs as ys := alocs_mem (as := as) (ys := ys) (i := i) h k
    cases a with
    | b z x =>
      cases y with
      | loc l' => exact List.mem_cons_of_mem _ ih
      | d _ => exact ih
      | new _ => exact ih
    | d x => exact ih
    | c x => exact ih
theorem alocs_ix : ∀ {as : List Pv} {ys : List Vl} {i j : Nat} {z z' : Bool} {x x' : D} {l : Nat}, (Alocs as ys).Nodup → as[i]? = some (.b z x) → ys[i]? = some (.loc l) → as[j]? = some (.b z' x') → ys[j]? = some (.loc l) → i = j
  | [], _, i, _, _, _, _, _, _, _, h, _, _, _ => by cases h
  | a :: as, [], i, _, _, _, _, _, _, _, _, h, _, _ => by cases h
  | a :: as, y :: ys, 0, 0, _, _, _, _, _, _, _, _, _, _ => rfl
  | a :: as, y :: ys, 0, j + 1, z, z', x, x', l, nd, h, k, h2, k2 => by
    cases h
    cases k
    exact absurd (alocs_mem (as := as) (ys := ys) (i := j) h2 k2) (List.nodup_cons.mp nd).1
  | a :: as, y :: ys, i + 1, 0, z, z', x, x', l, nd, h, k, h2, k2 => by
    cases h2
    cases k2
    exact absurd (alocs_mem (as := as) (ys := ys) (i := i) h k) (List.nodup_cons.mp nd).1
  | a :: as, y :: ys, i + 1, j + 1, z, z', x, x', l, nd, h, k, h2, k2 => by
    have nd2 : (Alocs as ys).Nodup := by
      cases a with
      | b z x =>
        cases y with
        | loc l' => exact (List.nodup_cons.mp nd).2
        | d _ => exact nd
        | new _ => exact nd
      | d x => exact nd
      | c x => exact nd
    rw [alocs_ix (as := as) (ys := ys) (i := i) (j := j) nd2 h k h2 k2]
theorem argR_app {M : Mem} (ds : List D) : ∀ {as : List Pv} {ys : List Vl}, ArgR M as ys → ArgR M (as ++ ds.map Pv.d) (ys ++ ds.map Vl.d) ∧ Alocs (as ++ ds.map Pv.d) (ys ++ ds.map Vl.d) = Alocs as ys
  | [], _, h => by
    cases h
    refine ⟨?_, ?_⟩
    · induction ds with
      | nil => exact rfl
      | cons d ds ih => exact ⟨_, _, rfl, .inl rfl, (fun _ h => by cases h), (fun _ h => by cases h), ih⟩
    · induction ds with
      | nil => rfl
      | cons d ds ih => exact ih
  | a :: as, _, h => by
    obtain ⟨y, t, e, h1, h2, h3, h4⟩ := h
    subst e
    obtain ⟨l, k⟩ := argR_app ds h4
    refine ⟨⟨y, _, rfl, h1, h2, h3, l⟩, ?_⟩
    cases a with
    | b z x =>
      cases y with
      | loc l' => exact congrArg (l' :: ·) k
      | d _ => exact k
      | new _ => exact k
    | d x => exact k
    | c x => exact k
theorem start_get (as : List Pv) (k i : Nat) : pget (as.map some ++ List.replicate k none) i = as[i]? := by
  unfold pget
  by_cases h : i < as.length
  · rw [List.getElem?_append_left (by simpa using h), List.getElem?_map]
    cases as[i]? <;> rfl
  · rw [List.getElem?_append_right (by simpa using Nat.le_of_not_lt h), List.getElem?_eq_none (Nat.le_of_not_lt h), List.getElem?_replicate]
    split <;> rfl
theorem startv_get (ys : List Vl) (k i : Nat) (y : Vl) (h : ys[i]? = some y) : (ys.map some ++ List.replicate k none)[i]? = some (some y) := by
  have l := (List.getElem?_eq_some_iff.mp h).1
  rw [List.getElem?_append_left (by simpa using l), List.getElem?_map, h]
  rfl
theorem start_er {M : Mem} {as : List Pv} {ys : List Vl} (k : Nat) (h : ArgR M as ys) (nd : (Alocs as ys).Nodup) : ER M (as.map some ++ List.replicate k none) (ys.map some ++ List.replicate k none) := by
  obtain ⟨hl, at_⟩ := h.at_
  have lv : ∀ i (p : Pv), as[i]? = some p → p.live = true → ∃ z x, p = Pv.b z x := fun i p e l => by
    obtain ⟨_, _, _, n, _⟩ := at_ i p e
    cases p with
    | d x => cases l
    | c x => exact absurd rfl (n x)
    | b z x => exact ⟨z, x, rfl⟩
  refine ⟨by simp [hl], fun i p e => ?_, fun i j p q l h1 h2 h3 h4 h5 h6 => ?_⟩
  · rw [start_get] at e
    obtain ⟨y, e1, e2, _⟩ := at_ i p e
    exact ⟨y, startv_get ys k i y e1, e2⟩
  · rw [start_get] at h1 h2
    obtain ⟨z, x, e1⟩ := lv i p h1 h3
    obtain ⟨z', x', e2⟩ := lv j q h2 h4
    subst e1; subst e2
    obtain ⟨y, a1, _⟩ := at_ i _ h1
    obtain ⟨y', b1, _⟩ := at_ j _ h2
    rw [startv_get ys k i y a1] at h5
    rw [startv_get ys k j y' b1] at h6
    cases h5
    cases h6
    exact alocs_ix nd h1 a1 h2 b1
theorem pargs_ok {M0 M' : Mem} {s' : Pvs} {v0 v' : Vars} (er : ER M' s' v') : ∀ {as : List Pv} {ys : List Vl} (i : Nat), ArgR M0 as ys → (∀ k l x, as[k]? = some (.b l x) → v'[i + k]? = v0[i + k]? ∧ ∃ l' x', pget s' (i + k) = some (.b l' x')) →
    (∀ k y, ys[k]? = some y → v0[i + k]? = some (some y)) → ArgB (M'.take M0.length) as (pargsGo i as s') ys
  | [], _, i, h, _, _ => by
    cases h
    exact rfl
  | a :: as, _, i, h, hk, hv => by
    obtain ⟨y, t, e, h1, h2, h3, h4⟩ := h
    subst e
    have ih := pargs_ok (v0 := v0) er (i + 1) h4 (fun k l x e => by
      have := hk (k + 1) l x e
      rw [show i + 1 + k = i + (k + 1) by omega]
      exact this) (fun k y e => by
      rw [show i + 1 + k = i + (k + 1) by omega]
      exact hv (k + 1) y e)
    cases a with
    | d x => exact ⟨_, _, y, t, rfl, rfl, rfl, ih⟩
    | c x => exact absurd rfl (h2 x)
    | b l x =>
      obtain ⟨e1, l', x', e2⟩ := hk 0 l x rfl
      rw [Nat.add_zero] at e1 e2
      refine ⟨_, _, y, t, rfl, rfl, ⟨l', x', by rw [e2]; rfl, ?_⟩, ih⟩
      rw [e2]
      obtain ⟨y', a1, a2⟩ := er.at_ i _ e2
      have hy := hv 0 y rfl
      rw [Nat.add_zero] at hy
      rw [e1, hy] at a1
      cases a1
      obtain ⟨n, b1, b2, b3⟩ := a2
      obtain ⟨n', c1, c2, _⟩ := h1
      rw [b1] at c1
      cases c1
      refine ⟨n, b1, ?_, b3⟩
      rw [List.getElem?_take_of_lt (List.getElem?_eq_some_iff.mp c2).1]
      exact b2
theorem fin_rel {M : Mem} {as : List Pv} {ys : List Vl} {ds : List D} {k : Nat} {q : RQ} {r : RS} (h : ArgR M as ys) (nd : (Alocs as ys).Nodup)
    (hr : RelS ((as ++ ds.map Pv.d).map some ++ List.replicate k none) ((ys ++ ds.map Vl.d).map some ++ List.replicate k none) M q r) : RelF as ys M (pfin as q) (finish M.length r) := by
  obtain ⟨hA, hN⟩ := argR_app ds h
  have hL := h.at_.1
  have s0 : ∀ i, pget ((as ++ ds.map Pv.d).map some ++ List.replicate k none) i = (as ++ ds.map Pv.d)[i]? := fun i => start_get _ _ _
  have own0 : ∀ l, Own ((as ++ ds.map Pv.d).map some ++ List.replicate k none) ((ys ++ ds.map Vl.d).map some ++ List.replicate k none) l → ∃ i z x, (as ++ ds.map Pv.d)[i]? = some (Pv.b z x) ∧ (ys ++ ds.map Vl.d)[i]? = some (Vl.loc l) := fun l o => by
    obtain ⟨i, p, e, lp, ev⟩ := o
    rw [s0] at e
    obtain ⟨y, a1, _, n, _⟩ := hA.at_.2 i p e
    rw [startv_get _ _ i y a1] at ev
    cases ev
    cases p with
    | d x => cases lp
    | c x => exact absurd rfl (n x)
    | b z x => exact ⟨i, z, x, e, a1⟩
  have ap : ∀ {s' v' M'}, SP ((as ++ ds.map Pv.d).map some ++ List.replicate k none) ((ys ++ ds.map Vl.d).map some ++ List.replicate k none) M s' v' M' → AP as ys M (pargs as s') (M'.take M.length) := fun {s' v' M'} sp => by
    refine ⟨pargs_ok (v0 := (ys ++ ds.map Vl.d).map some ++ List.replicate k none) sp.er 0 h (fun j l x e => ?_) (fun j y e => ?_), by rw [List.length_take]; exact Nat.min_eq_left sp.len, fun l c e n => ?_⟩
    · rw [Nat.zero_add]
      have e' : pget ((as ++ ds.map Pv.d).map some ++ List.replicate k none) j = some (.b l x) := by
        rw [s0, List.getElem?_append_left (List.getElem?_eq_some_iff.mp e).1, e]
      obtain ⟨a1, l', x', a2, _⟩ := sp.kb j l x e'
      exact ⟨a1, l', x', a2⟩
    · rw [Nat.zero_add]
      exact startv_get _ _ j y (by rw [List.getElem?_append_left (List.getElem?_eq_some_iff.mp e).1, e])
    · rw [List.getElem?_take_of_lt (List.getElem?_eq_some_iff.mp e).1]
      refine sp.fr l c e fun o => n ?_
      obtain ⟨i, z, x, a1, a2⟩ := own0 l o
      rw [← hN]
      exact alocs_mem a1 a2
  have resd : ∀ {M' : Mem} {x : D} {y : Vl}, M.length ≤ M'.length → PvR M' (.d x) y → ∃ y', finish M.length (.ret y M') = .ok y' (M'.take M.length) ∧ PvR (M'.take M.length) (.d x) y' := fun {M' x y} hl hy => by
    rcases hy with hy | ⟨l, a1, a2, a3⟩
    · subst hy
      exact ⟨_, rfl, .inl rfl⟩
    · subst a1
      by_cases hn : l < M.length
      · exact ⟨.loc l, by simp only [finish, if_pos hn], .inr ⟨l, rfl, by rw [List.getElem?_take_of_lt hn]; exact a2, a3⟩⟩
      · exact ⟨.d x, by simp only [finish, if_neg hn, a2]; rfl, .inl rfl⟩
  cases q with
  | no => trivial
  | brk s' => trivial
  | cnt s' => trivial
  | nx s' =>
    cases r with
    | nx v' M' => exact ⟨ap hr, .inl rfl⟩
    | _ => exact hr.elim
  | exc c fs s' =>
    cases r with
    | exc c' fs' v' M' => exact ⟨hr.1, hr.2.1, ap hr.2.2⟩
    | _ => exact hr.elim
  | ret x s' =>
    cases r with
    | ret y M' =>
      obtain ⟨v', sp, rr⟩ := hr
      cases x with
      | d x =>
        obtain ⟨y', e1, e2⟩ := resd sp.len rr
        rw [e1]
        exact ⟨ap sp, e2⟩
      | n x =>
        cases rr
        exact ⟨ap sp, rfl⟩
      | v i =>
        obtain ⟨r1, p, r2⟩ := rr
        obtain ⟨y', a1, a2⟩ := sp.er.at_ i p r2
        rw [r1] at a1
        cases a1
        simp only [pfin, r2]
        cases p with
        | b l x => trivial
        | d x =>
          obtain ⟨y', e1, e2⟩ := resd sp.len a2
          rw [e1]
          exact ⟨ap sp, e2⟩
        | c x =>
          obtain ⟨l, b1, b2, b3⟩ := a2
          subst b1
          have hn : ¬ l < M.length := by
            rcases sp.own l ⟨i, _, r2, rfl, r1⟩ with o | o
            · obtain ⟨j, z, w, c1, c2⟩ := own0 l o
              obtain ⟨d1, l', w', d2, _⟩ := sp.kb j z w (by rw [s0]; exact c1)
              rw [startv_get _ _ j _ c2] at d1
              obtain ⟨y', f1, f2⟩ := sp.er.at_ j _ d2
              rw [d1] at f1
              cases f1
              obtain ⟨n, g1, g2, _⟩ := f2
              cases g1
              rw [b2] at g2
              cases g2
              have := sp.er.dis i j _ _ l r2 d2 rfl rfl r1 d1
              subst this
              rw [r2] at d2
              cases d2
            · omega
          simp only [finish, if_neg hn, b2]
          exact ⟨ap sp, rfl⟩
    | _ => exact hr.elim
/-- what the evaluator without cells tells, the evaluator tells -/
theorem pF_ok (P : Pg) : ∀ n : Nat, CR (pF P n) (evF P n)
  | 0 => fun _ _ _ _ _ _ => by
    rw [pF_zero]
    trivial
  | n + 1 => fun f as ys M h nd => by
    have hl := h.at_.1
    rw [pF_succ]
    simp only [evF]
    cases P.fns[f]? with
    | none => trivial
    | some fn =>
      dsimp only
      have fe : fn.pfits as = fn.fits ys := by unfold Fn.pfits Fn.fits; rw [hl]
      rw [fe]
      by_cases hf : fn.fits ys = true
      · rw [if_pos hf, if_pos hf]
        refine fin_rel (ds := fn.dfl.drop (as.length + fn.dfl.length - fn.np)) (k := fn.ns - fn.np) h nd ?_
        have z := pS_ok (P := P) (pF_ok P n) fn.body (pstart fn as) (startV fn ys) M (by
          unfold pstart startV
          rw [← hl]
          obtain ⟨a, b⟩ := argR_app (fn.dfl.drop (as.length + fn.dfl.length - fn.np)) h
          exact start_er _ a (by rw [b]; exact nd))
        unfold pstart startV at z ⊢
        rw [← hl] at z ⊢
        exact z
      · rw [if_neg hf]
        trivial
/-- a law's answer -/
theorem law_of {P : Pg} {n i : Nat} {ns : List Int} (h : pF P n i [.d (.scr ns)] = .ok (.d (.bl true)) [.d (.scr ns)]) : evF P n i [.d (.scr ns)] [] = .ok (.d (.bl true)) [] := by
  have z := pF_ok P n i [.d (.scr ns)] [.d (.scr ns)] [] ⟨_, _, rfl, .inl rfl, (fun _ h => by cases h), (fun _ h => by cases h), rfl⟩ (by exact List.nodup_nil)
  rw [h] at z
  cases e : evF P n i [.d (.scr ns)] [] with
  | no => rw [e] at z; exact z.elim
  | exc _ _ _ => rw [e] at z; exact z.elim
  | ok y M =>
    rw [e] at z
    obtain ⟨ap, rr⟩ := z
    have hm : M = [] := List.eq_nil_of_length_eq_zero ap.len
    subst hm
    rcases rr with rr | ⟨l, _, a, _⟩
    · rw [rr]
    · cases a
end Pd

/-! Me1: mirrors: plain functions that tell what a def tells. -/
namespace Pd
open PySem PySem.Spec PyProof.Rows L2
inductive X (α : Type) where
  | ok (a : α) | exc (c : Nat) (fs : List (Str × D)) | no
  deriving Inhabited
def X.bind {α β : Type} (m : X α) (k : α → X β) : X β := match m with
  | .ok a => k a
  | .exc c fs => .exc c fs
  | .no => .no
inductive Fl (ρ σ : Type) where
  | nx (s : σ) | brk (s : σ) | ret (r : ρ)
def XR {δ α : Type} (r : RP δ) (m : X α) (g : α → δ) (sr : α → Pvs) : Prop := match m with
  | .ok a => r = .ok (g a) (sr a)
  | .exc c fs => ∃ s', r = .exc c fs s'
  | .no => True
def QS {β : Type} (q : RQ) (m : X β) (h : β → RQ → Prop) : Prop := match m with
  | .ok b => h b q
  | .exc c fs => ∃ s', q = .exc c fs s'
  | .no => True
/-- a def's mirror -/
@[irreducible] def FS {α : Type} (r : RF) (m : X α) (po : α → Po) (fin : α → List Pv) : Prop := match m with
  | .ok a => r = .ok (po a) (fin a)
  | .exc c fs => ∃ as', r = .exc c fs as'
  | .no => True
theorem FS.mk {α : Type} {r : RF} {a : α} {po : α → Po} {fin : α → List Pv} (h : r = .ok (po a) (fin a)) : FS r (.ok a) po fin := by
  unfold FS
  exact h
theorem FS.no {α : Type} {r : RF} {po : α → Po} {fin : α → List Pv} : FS r .no po fin := by
  unfold FS
  trivial
theorem FS.exc {α : Type} {r : RF} {c : Nat} {fs : List (Str × D)} {po : α → Po} {fin : α → List Pv} (h : ∃ as', r = .exc c fs as') : FS r (.exc c fs : X α) po fin := by
  unfold FS
  exact h
theorem FS.get {α : Type} {r : RF} {a : α} {po : α → Po} {fin : α → List Pv} (h : FS r (.ok a) po fin) : r = .ok (po a) (fin a) := by
  unfold FS at h
  exact h
theorem FS.getE {α : Type} {r : RF} {c : Nat} {fs : List (Str × D)} {po : α → Po} {fin : α → List Pv} (h : FS r (.exc c fs : X α) po fin) : ∃ as', r = .exc c fs as' := by
  unfold FS at h
  exact h
theorem XR.bind {δ δ' α β : Type} {r : RP δ} {m : X α} {g : α → δ} {sr : α → Pvs} {f : δ → Pvs → RP δ'} {k : α → X β} {g' : β → δ'} {sr' : β → Pvs} (h : XR r m g sr) (hk : ∀ a, XR (f (g a) (sr a)) (k a) g' sr') : XR (r.bind f) (m.bind k) g' sr' := by
  cases m with
  | no => trivial
  | exc c fs =>
    obtain ⟨s', e⟩ := h
    subst e
    exact ⟨s', rfl⟩
  | ok a =>
    have h : r = .ok (g a) (sr a) := h
    subst h
    exact hk a
theorem QS.bindS {δ α β : Type} {r : RP δ} {m : X α} {g : α → δ} {sr : α → Pvs} {f : δ → Pvs → RQ} {k : α → X β} {h : β → RQ → Prop} (hr : XR r m g sr) (hk : ∀ a, QS (f (g a) (sr a)) (k a) h) : QS (r.thenS f) (m.bind k) h := by
  cases m with
  | no => trivial
  | exc c fs =>
    obtain ⟨s', e⟩ := hr
    subst e
    exact ⟨s', rfl⟩
  | ok a =>
    have hr : r = .ok (g a) (sr a) := hr
    subst hr
    exact hk a
theorem QS.andThen {α β : Type} {q : RQ} {m : X α} {f : Pvs → RQ} {k : α → X β} {h1 : α → RQ → Prop} {h : β → RQ → Prop} (hq : QS q m h1) (hk : ∀ a q', h1 a q' → QS (q'.andThen f) (k a) h) : QS (q.andThen f) (m.bind k) h := by
  cases m with
  | no => trivial
  | exc c fs =>
    obtain ⟨s', e⟩ := hq
    subst e
    exact ⟨s', rfl⟩
  | ok a => exact hk a q hq
theorem andThen_assoc (q : RQ) (f g : Pvs → RQ) : (q.andThen f).andThen g = q.andThen fun s => (f s).andThen g := by
  cases q <;> rfl
theorem thenS_then {δ : Type} (r : RP δ) (f : δ → Pvs → RQ) (g : Pvs → RQ) : (r.thenS f).andThen g = r.thenS fun x s => (f x s).andThen g := by
  cases r <;> rfl
section
variable {C : Nat → List Pv → RF} {s : Pvs} {α β γ δ ε : Type}
abbrev EF (C : Nat → List Pv → RF) (e : E) (s : Pvs) (m : X α) (vr : α → Po) (sr : α → Pvs) : Prop := XR ((pden C e).v s) m vr sr
abbrev AF (C : Nat → List Pv → RF) (e : E) (s : Pvs) (m : X α) (vr : α → List Po) (sr : α → Pvs) : Prop := XR ((pden C e).a s) m vr sr
abbrev PF (C : Nat → List Pv → RF) (e : E) (cs : List Bool) (s : Pvs) (m : X α) (vr : α → List Po) (sr : α → Pvs) : Prop := XR ((pden C e).p cs s) m vr sr
abbrev TF (C : Nat → List Pv → RF) (e : E) (s : Pvs) (m : X α) (vr : α → Bool) (sr : α → Pvs) : Prop := XR ((pden C e).t s) m vr sr
abbrev IF (C : Nat → List Pv → RF) (e : E) (s : Pvs) (m : X α) (vr : α → List D × Pg1) (sr : α → Pvs) : Prop := XR ((pden C e).i s) m vr sr
/-- an operation's mirror -/
def OpS (o : Option Vl) (m : X γ) (v : γ → Po) : Prop := match m with
  | .ok c => o.bind poOf = some (v c)
  | .exc _ _ => False
  | .no => True
theorem XR.lift {o : Option Vl} {m : X γ} {v : γ → Po} (h : OpS o m v) (k : γ → δ) (w : δ → Po) (sr : δ → Pvs) (hw : ∀ c, w (k c) = v c) (hs : ∀ c, sr (k c) = s) : XR (RP.lift (o.bind poOf) s) (m.bind fun c => .ok (k c)) w sr := by
  cases m with
  | no => trivial
  | exc _ _ => exact h.elim
  | ok c =>
    have h : o.bind poOf = some (v c) := h
    show RP.lift (o.bind poOf) s = .ok (w (k c)) (sr (k c))
    rw [h, hw, hs]
    rfl
theorem XR.lift0 {o : Option Vl} {m : X γ} {v : γ → Po} (h : OpS o m v) : XR (RP.lift (o.bind poOf) s) m v fun _ => s := by
  cases m with
  | no => trivial
  | exc _ _ => exact h.elim
  | ok c =>
    have h : o.bind poOf = some (v c) := h
    show RP.lift (o.bind poOf) s = .ok (v c) s
    rw [h]
    rfl
/-! ### pure ones -/
def PV (C : Nat → List Pv → RF) (e : E) (s : Pvs) (x : Po) : Prop := (pden C e).v s = .ok x s
def PVs (C : Nat → List Pv → RF) (e : E) (s : Pvs) (x : List Po) : Prop := (pden C e).a s = .ok x s
def TV (C : Nat → List Pv → RF) (e : E) (s : Pvs) (b : Bool) : Prop := (pden C e).t s = .ok b s
def IV (C : Nat → List Pv → RF) (e : E) (s : Pvs) (x : List D × Pg1) : Prop := (pden C e).i s = .ok x s
theorem PV.ef {e : E} {x : Po} (h : PV C e s x) : EF C e s (.ok ()) (fun _ => x) fun _ => s := h
theorem TV.tf {e : E} {b : Bool} (h : TV C e s b) : TF C e s (.ok b) id fun _ => s := h
theorem pv_var {i : Nat} {x : D} (h : pget s i = some (.d x)) : PV C (.var i) s (.d x) := by
  show (match pget s i with
      | some (.d x) => RP.ok (Po.d x) s
      | some _ => .ok (.v i) s
      | none => .no) = _
  rw [h]
theorem pv_cell {i : Nat} {x : D} (h : pget s i = some (.c x)) : PV C (.var i) s (.v i) := by
  show (match pget s i with
      | some (.d x) => RP.ok (Po.d x) s
      | some _ => .ok (.v i) s
      | none => .no) = _
  rw [h]
theorem pv_bor {i : Nat} {l : Bool} {x : D} (h : pget s i = some (.b l x)) : PV C (.var i) s (.v i) := by
  show (match pget s i with
      | some (.d x) => RP.ok (Po.d x) s
      | some _ => .ok (.v i) s
      | none => .no) = _
  rw [h]
theorem pv_k (d : D) : PV C (.k d) s (.d d) := rfl
theorem pv_g (x : Str) (d : D) : PV C (.g x d) s (.d d) := rfl
theorem pvs_nil : PVs C .nil s [] := rfl
theorem pvs_cons {e r : E} {x : Po} {xs : List Po} (h : PV C e s x) (k : PVs C r s xs) : PVs C (.cons e r) s (pfrz x :: xs) := by
  show ((pden C e).v s).bind _ = _
  rw [h]
  show ((pden C r).a s).bind _ = _
  rw [k]
  rfl
/-! ### rows -/
/-- an operation upon a row -/
def nary (C : Nat → List Pv → RF) (F : List D → Option Vl) (es : E) (s : Pvs) : RP Po := ((pden C es).a s).bind fun xs s1 => RP.lift (((pders s1 xs).bind F).bind poOf) s1
theorem ak_nil {f : List Po → Pvs → RP δ} {m : X α} {g : α → δ} {sr : α → Pvs} (h : XR (f [] s) m g sr) : XR (((pden C .nil).a s).bind f) m g sr := h
theorem RP.bind_assoc {α β γ : Type} (r : RP α) (f : α → Pvs → RP β) (g : β → Pvs → RP γ) : (r.bind f).bind g = r.bind fun a s => (f a s).bind g := by
  cases r <;> rfl
theorem ak_cons {e r : E} {f : List Po → Pvs → RP δ} {me : X β} {ve : β → Po} {se : β → Pvs} {mk : β → X α} {g : α → δ} {sr : α → Pvs} (h : EF C e s me ve se)
    (k : ∀ b, XR (((pden C r).a (se b)).bind fun ys s2 => f (pfrz (ve b) :: ys) s2) (mk b) g sr) : XR (((pden C (.cons e r)).a s).bind f) (me.bind mk) g sr := by
  have e1 : ((pden C (.cons e r)).a s).bind f = ((pden C e).v s).bind fun y s1 => (((pden C r).a s1).bind fun ys s2 => f (pfrz y :: ys) s2) := by
    show (((pden C e).v s).bind fun y s1 => ((pden C r).a s1).bind fun ys s2 => RP.ok (pfrz y :: ys) s2).bind f = _
    rw [RP.bind_assoc]
    congr 1
    funext y s1
    rw [RP.bind_assoc]
    rfl
  rw [e1]
  exact h.bind k
theorem ak_consP {e r : E} {f : List Po → Pvs → RP δ} {x : Po} {m : X α} {g : α → δ} {sr : α → Pvs} (h : PV C e s x)
    (k : XR (((pden C r).a s).bind fun ys s2 => f (pfrz x :: ys) s2) m g sr) : XR (((pden C (.cons e r)).a s).bind f) m g sr :=
  ak_cons (me := .ok ()) (mk := fun _ => m) h.ef fun _ => k
/-- the end of a row, quiet -/
theorem nary_end {F : List D → Option Vl} {xs : List Po} {ds : List D} {m : X γ} {v : γ → Po} (h1 : pders s xs = some ds) (h : OpS (F ds) m v) : XR (RP.lift (((pders s xs).bind F).bind poOf) s) m v fun _ => s := by
  rw [h1]
  exact XR.lift0 h
theorem nary_endF {F : List D → Option Vl} {xs : List Po} {ds : List D} {m : X γ} {v : γ → Po} {k : γ → δ} {w : δ → Po} {sr : δ → Pvs} (h1 : pders s xs = some ds) (h : OpS (F ds) m v) (hw : ∀ c, w (k c) = v c) (hs : ∀ c, sr (k c) = s) :
    XR (RP.lift (((pders s xs).bind F).bind poOf) s) (m.bind fun c => .ok (k c)) w sr := by
  rw [h1]
  exact XR.lift h k w sr hw hs
theorem pv_nary {F : List D → Option Vl} {es : E} {xs : List Po} {ds : List D} {r : Po} (h : PVs C es s xs) (h1 : pders s xs = some ds) (h2 : (F ds).bind poOf = some r) : nary C F es s = .ok r s := by
  unfold nary
  rw [h]
  show RP.lift (((pders s xs).bind F).bind poOf) s = _
  rw [h1]
  show RP.lift ((F ds).bind poOf) s = _
  rw [h2]
  rfl
def opl1 (o : Op1) : List D → Option Vl
  | [x] => op1 o x
  | _ => none
def opl2 (o : Op2) : List D → Option Vl
  | [x, y] => op2 o x y
  | _ => none
def oplx : List D → Option Vl
  | [x, y] => idx x y
  | _ => none
def opli (ts : List Ty) : List D → Option Vl
  | [x] => isi ts x
  | _ => none
theorem pder_frz (s : Pvs) (x : Po) : pder s (pfrz x) = pder s x := by
  cases x <;> rfl
theorem v_op1 {o : Op1} {a : E} : (pden C (.op1 o a)).v s = nary C (opl1 o) (.cons a .nil) s := by
  show ((pden C a).v s).bind _ = (((pden C a).v s).bind fun y s1 => (RP.ok [] s1 : RP (List Po)).bind fun ys s2 => .ok (pfrz y :: ys) s2).bind _
  rw [RP.bind_assoc]
  congr 1
  funext x s1
  show _ = RP.lift _ s1
  simp only [pders, pder_frz]
  cases pder s1 x <;> rfl
theorem v_isi {ts : List Ty} {a : E} : (pden C (.isi ts a)).v s = nary C (opli ts) (.cons a .nil) s := by
  show ((pden C a).v s).bind _ = (((pden C a).v s).bind fun y s1 => (RP.ok [] s1 : RP (List Po)).bind fun ys s2 => .ok (pfrz y :: ys) s2).bind _
  rw [RP.bind_assoc]
  congr 1
  funext x s1
  show _ = RP.lift _ s1
  simp only [pders, pder_frz]
  cases pder s1 x <;> rfl
theorem row2 {a b : E} : (pden C (.cons a (.cons b .nil))).a s = ((pden C a).v s).bind fun x s1 => ((pden C b).v s1).bind fun y s2 => .ok [pfrz x, pfrz y] s2 := by
  show ((pden C a).v s).bind (fun x s1 => (((pden C b).v s1).bind fun y s2 => (RP.ok [] s2 : RP (List Po)).bind fun ys s3 => .ok (pfrz y :: ys) s3).bind fun ys s2 => .ok (pfrz x :: ys) s2) = _
  congr 1
  funext x s1
  rw [RP.bind_assoc]
  rfl
theorem v_op2 {o : Op2} {a b : E} : (pden C (.op2 o a b)).v s = nary C (opl2 o) (.cons a (.cons b .nil)) s := by
  unfold nary
  rw [row2, RP.bind_assoc]
  show ((pden C a).v s).bind _ = _
  congr 1
  funext x s1
  rw [RP.bind_assoc]
  congr 1
  funext y s2
  show _ = RP.lift _ s2
  simp only [pders, pder_frz]
  cases pder s2 x with
  | none => rfl
  | some d => cases pder s2 y <;> rfl
theorem v_idx {a b : E} : (pden C (.idx a b)).v s = nary C oplx (.cons a (.cons b .nil)) s := by
  unfold nary
  rw [row2, RP.bind_assoc]
  show ((pden C a).v s).bind _ = _
  congr 1
  funext x s1
  rw [RP.bind_assoc]
  congr 1
  funext y s2
  show _ = RP.lift _ s2
  simp only [pders, pder_frz]
  cases pder s2 x with
  | none => rfl
  | some d => cases pder s2 y <;> rfl
theorem v_bi {b : Bi} {as : E} : (pden C (.bi b as)).v s = nary C (bi b) as s := rfl
/-! ### displays -/
def tupF (xs : List Po) (s1 : Pvs) : RP Po := match ptoDs s1 xs with
  | some (ds, s2) => if short ds.length then .ok (.d (.tup ds)) s2 else .no
  | none => .no
def lstF (xs : List Po) (s1 : Pvs) : RP Po := match ptoDs s1 xs with
  | some (ds, s2) => if short ds.length then .ok (.n (.lst ds)) s2 else .no
  | none => .no
theorem v_tup {as : E} : (pden C (.tup as)).v s = ((pden C as).a s).bind tupF := rfl
theorem v_lst {as : E} : (pden C (.lst as)).v s = ((pden C as).a s).bind lstF := rfl
theorem v_call {f : Nat} {as : E} : (pden C (.call f as)).v s = ((pden C as).a s).bind fun xs s1 => pcall C f xs s1 := rfl
theorem tup_end {xs : List Po} {ds : List D} {s' : Pvs} {c : γ} {w : γ → Po} {sr : γ → Pvs} (h : ptoDs s xs = some (ds, s')) (hl : short ds.length = true) (hw : w c = .d (.tup ds)) (hs : sr c = s') : XR (tupF xs s) (.ok c) w sr := by
  show tupF xs s = .ok (w c) (sr c)
  unfold tupF
  rw [h, hw, hs]
  show (if short ds.length then RP.ok _ _ else _) = _
  rw [if_pos hl]
theorem lst_end {xs : List Po} {ds : List D} {s' : Pvs} {c : γ} {w : γ → Po} {sr : γ → Pvs} (h : ptoDs s xs = some (ds, s')) (hl : short ds.length = true) (hw : w c = .n (.lst ds)) (hs : sr c = s') : XR (lstF xs s) (.ok c) w sr := by
  show lstF xs s = .ok (w c) (sr c)
  unfold lstF
  rw [h, hw, hs]
  show (if short ds.length then RP.ok _ _ else _) = _
  rw [if_pos hl]
theorem pv_tup {as : E} {xs : List Po} {ds : List D} (h : PVs C as s xs) (h1 : ptoDs s xs = some (ds, s)) (hl : short ds.length = true) : PV C (.tup as) s (.d (.tup ds)) := by
  show ((pden C as).a s).bind tupF = _
  rw [h]
  exact tup_end (c := ()) (w := fun _ => .d (.tup ds)) (sr := fun _ => s) h1 hl rfl rfl
theorem pv_lst {as : E} {xs : List Po} {ds : List D} (h : PVs C as s xs) (h1 : ptoDs s xs = some (ds, s)) (hl : short ds.length = true) : PV C (.lst as) s (.n (.lst ds)) := by
  show ((pden C as).a s).bind lstF = _
  rw [h]
  exact lst_end (c := ()) (w := fun _ => .n (.lst ds)) (sr := fun _ => s) h1 hl rfl rfl
/-! ### calls -/
theorem call_end {f : Nat} {rs : List Po} {args : List Pv} {mf : X γ} {po : γ → Po} {fin : γ → List Pv} {sr : γ → Pvs} (h1 : presolve s rs = some args) (h2 : (prefs s rs).Nodup) (hf : FS (C f args) mf po fin) (h3 : ∀ b, pback s rs (fin b) = sr b) : XR (pcall C f rs s) mf po sr := by
  unfold pcall
  rw [h1]
  dsimp only
  rw [if_pos h2]
  cases mf with
  | no => trivial
  | exc c fs =>
    obtain ⟨as', e⟩ := hf.getE
    rw [e]
    exact ⟨_, rfl⟩
  | ok b =>
    have hf : C f args = .ok (po b) (fin b) := hf.get
    rw [hf]
    show RP.ok _ _ = _
    rw [h3]
theorem call_endF {f : Nat} {rs : List Po} {args : List Pv} {mf : X γ} {po : γ → Po} {fin : γ → List Pv} {k : γ → δ} {w : δ → Po} {sr : δ → Pvs} (h1 : presolve s rs = some args) (h2 : (prefs s rs).Nodup) (hf : FS (C f args) mf po fin) (h3 : ∀ b, pback s rs (fin b) = sr (k b)) (hw : ∀ b, w (k b) = po b) :
    XR (pcall C f rs s) (mf.bind fun b => .ok (k b)) w sr := by
  have z := call_end (sr := fun b => sr (k b)) h1 h2 hf h3
  cases mf with
  | no => trivial
  | exc c fs => exact z
  | ok b =>
    show pcall C f rs s = .ok (w (k b)) (sr (k b))
    rw [hw]
    exact z
/-! ### methods -/
theorem ef_bm {m : Bm} {o as : E} {dx : D} {mm : X α} {w : α → Po} {sr : α → Pvs} (ho : PV C o s (.d dx)) (ht : bmTy m (some dx) = true) (hm : m.mut = false)
    (h : XR (((pden C as).a s).bind fun xs s2 => RP.lift (((pders s2 xs).bind (bmP m dx)).bind poOf) s2) mm w sr) : EF C (.bm m o as) s mm w sr := by
  have e : (pden C (.bm m o as)).v s = ((pden C as).a s).bind fun xs s2 => RP.lift (((pders s2 xs).bind (bmP m dx)).bind poOf) s2 := by
    show ((pden C o).v s).bind _ = _
    rw [ho]
    show (if bmTy m (some dx) = true then _ else _) = _
    rw [if_pos ht]
    congr 1
    funext xs s2
    rw [hm]
    rfl
  unfold EF
  rw [e]
  exact h
/-- with an own list -/
theorem ef_bmC {m : Bm} {i : Nat} {p : Pv} {as : E} {xs : List Po} {ds : List D} {mm : X α} {w : α → Po} (hp : pget s i = some p) (hd : ∀ x, p ≠ .d x) (ht : bmTy m (some p.dat) = true) (hm : m.mut = false) (ha : PVs C as s xs) (h1 : pders s xs = some ds)
    (h : OpS (bmP m p.dat ds) mm w) : EF C (.bm m (.var i) as) s mm w fun _ => s := by
  have ho : (pden C (.var i)).v s = .ok (.v i) s := by
    cases p with
    | d x => exact absurd rfl (hd x)
    | c x => exact pv_cell hp
    | b l x => exact pv_bor hp
  have e : (pden C (.bm m (.var i) as)).v s = RP.lift ((bmP m p.dat ds).bind poOf) s := by
    show ((pden C (.var i)).v s).bind _ = _
    rw [ho]
    show (if bmTy m ((pget s i).map Pv.dat) = true then _ else _) = _
    rw [hp]
    show (if bmTy m (some p.dat) = true then _ else _) = _
    rw [if_pos ht, ha]
    show (if m.mut = true then _ else _) = _
    rw [hm]
    show RP.lift ((((pget s i).map Pv.dat).bind fun x => (pders s xs).bind fun ds => bmP m x ds).bind poOf) s = _
    rw [hp, h1]
    rfl
  unfold EF
  rw [e]
  exact XR.lift0 h
theorem ef_mut {m : Bm} {i : Nat} {p : Pv} {as : E} {mm : X α} {w : α → Po} {sr : α → Pvs} (hp : pget s i = some p) (hd : ∀ x, p ≠ .d x) (ht : bmTy m (some p.dat) = true) (hm : m.mut = true)
    (h : XR (((pden C as).a s).bind fun xs s2 => match ptoDs s2 xs with
        | some (ds, s3) => pmutate m s3 (.v i) ds
        | none => .no) mm w sr) : EF C (.bm m (.var i) as) s mm w sr := by
  have ho : (pden C (.var i)).v s = .ok (.v i) s := by
    cases p with
    | d x => exact absurd rfl (hd x)
    | c x => exact pv_cell hp
    | b l x => exact pv_bor hp
  have e : (pden C (.bm m (.var i) as)).v s = ((pden C as).a s).bind fun xs s2 => match ptoDs s2 xs with
        | some (ds, s3) => pmutate m s3 (.v i) ds
        | none => .no := by
    show ((pden C (.var i)).v s).bind _ = _
    rw [ho]
    show (if bmTy m ((pget s i).map Pv.dat) = true then _ else _) = _
    rw [hp]
    show (if bmTy m (some p.dat) = true then _ else _) = _
    rw [if_pos ht]
    congr 1
    funext xs s2
    rw [hm]
    rfl
  unfold EF
  rw [e]
  exact h
@[irreducible] def fits (n : Nat) : Bool := decide (n ≤ sizeLine)
theorem fits_le {n : Nat} (h : fits n = true) : n ≤ sizeLine := by
  unfold fits at h
  exact of_decide_eq_true h
theorem fits_of {n : Nat} (h : n ≤ sizeLine) : fits n = true := by
  unfold fits
  exact decide_eq_true h
def X.push {α : Type} (xs : List α) (x : α) : X (List α) := if fits (xs.length + 1) then .ok (xs ++ [x]) else .no
def X.ext {α : Type} (xs ys : List α) : X (List α) := if fits (xs.length + ys.length) then .ok (xs ++ ys) else .no
theorem upd_c (y : D) (x : D) : (Pv.c x).upd y = some (.c y) := rfl
theorem pm_eq {m : Bm} {i : Nat} {p q : Pv} {xs : List D} {ds ys : List D} {r : D} (hp : pget s i = some p) (hx : p.dat = .lst xs) (hb : bmM m xs ds = some (ys, r)) (hq : p.upd (.lst ys) = some q) : pmutate m s (.v i) ds = .ok (.d r) (s.set i (some q)) := by
  simp only [pmutate, hp, hx, hb, hq]
theorem mu_append {i : Nat} {p : Pv} {k : D → Pv} {xs : List α} {x : α} {e : α → D} (hp : pget s i = some p) (hx : p.dat = .lst (xs.map e)) (hk : ∀ y, p.upd y = some (k y)) {sr : List α → Pvs} (hs : ∀ c, s.set i (some (k (.lst (c.map e)))) = sr c) :
    XR (pmutate .append s (.v i) [e x]) (X.push xs x) (fun _ => .d .non) sr := by
  unfold X.push
  by_cases h : fits (xs.length + 1) = true
  · rw [if_pos h]
    have h : xs.length + 1 ≤ sizeLine := fits_le h
    show _ = RP.ok (Po.d .non) (sr (xs ++ [x]))
    rw [← hs, pm_eq (ys := xs.map e ++ [e x]) (r := .non) hp hx (by simp only [bmM, List.length_map]; rw [if_pos (by omega)]) (hk _)]
    simp only [List.map_append, List.map_cons, List.map_nil]
  · rw [if_neg h]
    trivial
theorem mu_extend {i : Nat} {p : Pv} {k : D → Pv} {xs ys : List α} {e : α → D} (hp : pget s i = some p) (hx : p.dat = .lst (xs.map e)) (hk : ∀ y, p.upd y = some (k y)) {sr : List α → Pvs} (hs : ∀ c, s.set i (some (k (.lst (c.map e)))) = sr c) :
    XR (pmutate .extend s (.v i) [.lst (ys.map e)]) (X.ext xs ys) (fun _ => .d .non) sr := by
  unfold X.ext
  by_cases h : fits (xs.length + ys.length) = true
  · rw [if_pos h]
    have h : xs.length + ys.length ≤ sizeLine := fits_le h
    show _ = RP.ok (Po.d .non) (sr (xs ++ ys))
    rw [← hs, pm_eq (ys := xs.map e ++ ys.map e) (r := .non) hp hx (by simp only [bmM, List.length_map]; rw [if_pos (by omega)]) (hk _)]
    simp only [List.map_append]
  · rw [if_neg h]
    trivial
theorem mu_reverse {i : Nat} {p : Pv} {k : D → Pv} {xs : List α} {e : α → D} (hp : pget s i = some p) (hx : p.dat = .lst (xs.map e)) (hk : ∀ y, p.upd y = some (k y)) {sr : List α → Pvs} (hs : ∀ c, s.set i (some (k (.lst (c.map e)))) = sr c) :
    XR (pmutate .reverse s (.v i) []) (.ok xs.reverse) (fun _ => .d .non) sr := by
  show _ = RP.ok (Po.d .non) (sr xs.reverse)
  rw [← hs, pm_eq (ys := (xs.map e).reverse) (r := .non) hp hx rfl (hk _), List.map_reverse]
/-! ### branches, tests -/
theorem ef_ife {c a b : E} {mc : X β} {vc : β → Bool} {sc : β → Pvs} {ma mb : β → X α} {w : α → Po} {sr : α → Pvs} (hc : TF C c s mc vc sc) (ha : ∀ x, EF C a (sc x) (ma x) w sr) (hb : ∀ x, EF C b (sc x) (mb x) w sr) : EF C (.ife c a b) s (mc.bind fun x => if vc x = true then ma x else mb x) w sr := by
  show XR (((pden C c).t s).bind fun x s1 => if x then (pden C a).v s1 else (pden C b).v s1) _ _ _
  refine hc.bind fun x => ?_
  by_cases h : vc x = true
  · rw [if_pos h, if_pos h]; exact ha x
  · rw [if_neg h, if_neg h]; exact hb x
theorem ef_ifeP {c a b : E} {x : Bool} {ma mb : X α} {w : α → Po} {sr : α → Pvs} (hc : TV C c s x) (ha : EF C a s ma w sr) (hb : EF C b s mb w sr) : EF C (.ife c a b) s (if x = true then ma else mb) w sr :=
  ef_ife (ma := fun _ => ma) (mb := fun _ => mb) hc.tf (fun _ => ha) fun _ => hb
theorem pv_ife {c a b : E} {x : Bool} {t1 t2 : α} {e : α → D} (hc : TV C c s x) (ha : PV C a s (.d (e t1))) (hb : PV C b s (.d (e t2))) : PV C (.ife c a b) s (.d (e (if x = true then t1 else t2))) := by
  show ((pden C c).t s).bind _ = _
  rw [hc]
  cases x with
  | true => exact ha
  | false => exact hb
def tDef (C : Nat → List Pv → RF) (e : E) : Prop := ∀ s, (pden C e).t s = ((pden C e).v s).bind fun x s1 => RP.lift ((pder s1 x).bind D.truth) s1
theorem tv_v {e : E} {x : Po} {d : D} {b : Bool} (ht : tDef C e) (h : PV C e s x) (hd : pder s x = some d) (hb : D.truth d = some b) : TV C e s b := by
  show (pden C e).t s = _
  rw [ht, h]
  show RP.lift ((pder s x).bind D.truth) s = _
  rw [hd]
  show RP.lift (D.truth d) s = _
  rw [hb]
  rfl
theorem tf_v {e : E} {m : X α} {w : α → Po} {sr : α → Pvs} {d : α → D} {b : α → Bool} (ht : tDef C e) (h : EF C e s m w sr) (hd : ∀ a, pder (sr a) (w a) = some (d a)) (hb : ∀ a, D.truth (d a) = some (b a)) : TF C e s m b sr := by
  show XR ((pden C e).t s) _ _ _
  rw [ht]
  have z := h.bind (f := fun x s1 => RP.lift ((pder s1 x).bind D.truth) s1) (k := fun a => X.ok a) (g' := b) (sr' := sr) fun a => by
    show RP.lift ((pder (sr a) (w a)).bind D.truth) (sr a) = .ok (b a) (sr a)
    rw [hd]
    show RP.lift (D.truth (d a)) (sr a) = _
    rw [hb]
    rfl
  cases m with
  | ok a => exact z
  | exc c fs => exact z
  | no => trivial
theorem tv_and {a b : E} {x y : Bool} (h : TV C a s x) (k : TV C b s y) : TV C (.and a b) s (x && y) := by
  show ((pden C a).t s).bind _ = _
  rw [h]
  cases x with
  | true => exact k
  | false => rfl
theorem tv_or {a b : E} {x y : Bool} (h : TV C a s x) (k : TV C b s y) : TV C (.or a b) s (x || y) := by
  show ((pden C a).t s).bind _ = _
  rw [h]
  cases x with
  | true => rfl
  | false => exact k
theorem tv_not {a : E} {x : Bool} (h : TV C a s x) : TV C (.not a) s (!x) := by
  show ((pden C a).t s).bind _ = _
  rw [h]
  rfl
theorem tf_not {a : E} {m : X α} {v : α → Bool} {sr : α → Pvs} (h : TF C a s m v sr) : TF C (.not a) s m (fun x => !v x) sr := by
  have z := h.bind (f := fun x s1 => RP.ok (!x) s1) (k := fun a => X.ok a) (g' := fun x => !v x) (sr' := sr) fun a => rfl
  cases m with
  | ok a => exact z
  | exc c fs => exact z
  | no => trivial
theorem tf_and {a b : E} {ma : X β} {va : β → Bool} {sa : β → Pvs} {mb : β → X α} {v : α → Bool} {sr : α → Pvs} {z : β → α} (h : TF C a s ma va sa) (k : ∀ x, TF C b (sa x) (mb x) v sr) (hz : ∀ x, v (z x) = false ∧ sr (z x) = sa x) :
    TF C (.and a b) s (ma.bind fun x => if va x = true then mb x else .ok (z x)) v sr := by
  refine h.bind (f := fun x s1 => if x = true then (pden C b).t s1 else .ok false s1) fun x => ?_
  by_cases h : va x = true
  · rw [if_pos h, if_pos h]; exact k x
  · rw [if_neg h, if_neg h]
    show RP.ok false (sa x) = .ok (v (z x)) (sr (z x))
    rw [(hz x).1, (hz x).2]
theorem tf_or {a b : E} {ma : X β} {va : β → Bool} {sa : β → Pvs} {mb : β → X α} {v : α → Bool} {sr : α → Pvs} {z : β → α} (h : TF C a s ma va sa) (k : ∀ x, TF C b (sa x) (mb x) v sr) (hz : ∀ x, v (z x) = true ∧ sr (z x) = sa x) :
    TF C (.or a b) s (ma.bind fun x => if va x = true then .ok (z x) else mb x) v sr := by
  refine h.bind (f := fun x s1 => if x = true then .ok true s1 else (pden C b).t s1) fun x => ?_
  by_cases h : va x = true
  · rw [if_pos h, if_pos h]
    show RP.ok true (sa x) = .ok (v (z x)) (sr (z x))
    rw [(hz x).1, (hz x).2]
  · rw [if_neg h, if_neg h]; exact k x
theorem ef_and {a b : E} {ma : X β} {va : β → Bool} {sa : β → Pvs} {mb : β → X α} {w : α → Po} {sr : α → Pvs} {z : β → α} (h : EF C a s ma (fun x => .d (.bl (va x))) sa) (k : ∀ x, EF C b (sa x) (mb x) w sr) (hz : ∀ x, w (z x) = .d (.bl false) ∧ sr (z x) = sa x) :
    EF C (.and a b) s (ma.bind fun x => if va x = true then mb x else .ok (z x)) w sr := by
  refine h.bind (f := fun x s1 => match pasB x with
        | some true => (pden C b).v s1
        | some false => .ok (.d (.bl false)) s1
        | none => .no) fun x => ?_
  cases h : va x with
  | true => exact k x
  | false =>
    rw [if_neg (by decide)]
    show RP.ok (Po.d (.bl false)) (sa x) = .ok (w (z x)) (sr (z x))
    rw [(hz x).1, (hz x).2]
theorem ef_or {a b : E} {ma : X β} {va : β → Bool} {sa : β → Pvs} {mb : β → X α} {w : α → Po} {sr : α → Pvs} {z : β → α} (h : EF C a s ma (fun x => .d (.bl (va x))) sa) (k : ∀ x, EF C b (sa x) (mb x) w sr) (hz : ∀ x, w (z x) = .d (.bl true) ∧ sr (z x) = sa x) :
    EF C (.or a b) s (ma.bind fun x => if va x = true then .ok (z x) else mb x) w sr := by
  refine h.bind (f := fun x s1 => match pasB x with
        | some false => (pden C b).v s1
        | some true => .ok (.d (.bl true)) s1
        | none => .no) fun x => ?_
  cases h : va x with
  | false => exact k x
  | true =>
    rw [if_pos rfl]
    show RP.ok (Po.d (.bl true)) (sa x) = .ok (w (z x)) (sr (z x))
    rw [(hz x).1, (hz x).2]
theorem pv_and {a b : E} {x y : Bool} (h : PV C a s (.d (.bl x))) (k : PV C b s (.d (.bl y))) : PV C (.and a b) s (.d (.bl (x && y))) := by
  show ((pden C a).v s).bind _ = _
  rw [h]
  cases x with
  | true => exact k
  | false => rfl
theorem pv_or {a b : E} {x y : Bool} (h : PV C a s (.d (.bl x))) (k : PV C b s (.d (.bl y))) : PV C (.or a b) s (.d (.bl (x || y))) := by
  show ((pden C a).v s).bind _ = _
  rw [h]
  cases x with
  | true => rfl
  | false => exact k
theorem pv_not {a : E} {x : Po} {d : D} {b : Bool} (h : PV C a s x) (hd : pder s x = some d) (hb : D.truth d = some b) : PV C (.not a) s (.d (.bl (!b))) := by
  show ((pden C a).v s).bind _ = _
  rw [h]
  show (match (pder s x).bind D.truth with
    | some b => RP.ok (Po.d (.bl (!b))) s
    | none => .no) = _
  rw [hd]
  show (match D.truth d with
    | some b => RP.ok (Po.d (.bl (!b))) s
    | none => .no) = _
  rw [hb]
theorem ef_not {a : E} {m : X α} {w : α → Po} {sr : α → Pvs} {d : α → D} {b : α → Bool} (h : EF C a s m w sr) (hd : ∀ a, pder (sr a) (w a) = some (d a)) (hb : ∀ a, D.truth (d a) = some (b a)) : EF C (.not a) s m (fun x => .d (.bl (!b x))) sr := by
  have z := h.bind (f := fun x s1 => match (pder s1 x).bind D.truth with
        | some b => RP.ok (Po.d (.bl (!b))) s1
        | none => .no) (k := fun a => X.ok a) (g' := fun x => .d (.bl (!b x))) (sr' := sr) fun a => by
    show (match (pder (sr a) (w a)).bind D.truth with
      | some b => RP.ok (Po.d (.bl (!b))) (sr a)
      | none => .no) = _
    rw [hd]
    show (match D.truth (d a) with
      | some b => RP.ok (Po.d (.bl (!b))) (sr a)
      | none => .no) = _
    rw [hb]
  cases m with
  | ok a => exact z
  | exc c fs => exact z
  | no => trivial
theorem pv_chain {o p : Op2} {a b c : E} {x y z : Po} {dx dy dz : D} {b1 b2 : Bool} (ha : PV C a s x) (hb : PV C b s y) (hc : PV C c s z) (h1 : pder s x = some dx) (h2 : pder s y = some dy) (h3 : pder s z = some dz)
    (o1 : op2 o dx dy = some (.d (.bl b1))) (o2 : op2 p dy dz = some (.d (.bl b2))) : PV C (.chain o p a b c) s (.d (.bl (b1 && b2))) := by
  show ((pden C a).v s).bind (fun x s1 => ((pden C b).v s1).bind _) = _
  rw [ha]
  show ((pden C b).v s).bind _ = _
  rw [hb]
  show (match (pder s x).bind fun x => (pder s y).bind fun y => (op2 o x y).bind asB with
      | some true => _
      | some false => _
      | none => _) = _
  rw [h1, h2]
  show (match (op2 o dx dy).bind asB with
      | some true => _
      | some false => _
      | none => _) = _
  rw [o1]
  cases b1 with
  | false => rfl
  | true =>
    show ((pden C c).v s).bind _ = _
    rw [hc]
    show RP.lift (((pder s y).bind fun y => (pder s z).bind fun z => op2 p y z).bind poOf) s = _
    rw [h2, h3]
    show RP.lift ((op2 p dy dz).bind poOf) s = _
    rw [o2]
    rfl
end
end Pd

/-! Me2: mirrors: comprehensions, statements, walks. -/
namespace Pd
open PySem PySem.Spec PyProof.Rows L2
mutual
theorem D.same_self : ∀ x : D, D.same x x = true
  | .non => by simp only [D.same]
  | .bl b => by simp only [D.same, beq_self_eq_true]
  | .int i => by simp only [D.same, beq_self_eq_true]
  | .str s => by simp only [D.same, beq_self_eq_true]
  | .lst xs => by simp only [D.same, D.sames_self xs]
  | .tup xs => by simp only [D.same, D.sames_self xs]
  | .dic xs => by simp only [D.same, D.samek_self xs]
  | .ins c xs => by simp only [D.same, beq_self_eq_true, D.samef_self xs, Bool.and_self]
  | .scr a => by simp only [D.same, beq_self_eq_true]
theorem D.sames_self : ∀ x : List D, D.sames x x = true
  | [] => by simp only [D.sames]
  | x :: xs => by simp only [D.sames, D.same_self x, D.sames_self xs, Bool.and_self]
theorem D.samek_self : ∀ x : List (D × D), D.samek x x = true
  | [] => by simp only [D.samek]
  | (a, x) :: xs => by simp only [D.samek, D.same_self a, D.same_self x, D.samek_self xs, Bool.and_self]
theorem D.samef_self : ∀ x : List (Str × D), D.samef x x = true
  | [] => by simp only [D.samef]
  | (a, x) :: xs => by simp only [D.samef, beq_self_eq_true, D.same_self x, D.samef_self xs, Bool.and_self]
end
theorem chk_nil {s : Pvs} : pchkG [] s = true := rfl
theorem chk_c {i : Nat} {x : D} {s : Pvs} (h : pget s i = some (.c x)) : pchkG [(i, x)] s = true := by
  simp only [pchkG, List.all_cons, List.all_nil, pchk1, h, D.same_self, Bool.and_self]
theorem chk_b {i : Nat} {x : D} {s : Pvs} (h : pget s i = some (.b true x)) : pchkG [(i, x)] s = true := by
  simp only [pchkG, List.all_cons, List.all_nil, pchk1, h, D.same_self, Bool.and_self]
/-! ### what is walked -/
section
variable {C : Nat → List Pv → RF} {s : Pvs} {α β γ δ ε σ ρ : Type}
def iDef (C : Nat → List Pv → RF) (e : E) : Prop := ∀ s, (pden C e).i s = ((pden C e).v s).bind fun x s1 => RP.lift (piterOf s1 (pfrz x)) s1
theorem iv_v {e : E} {x : Po} {r : List D × Pg1} (ht : iDef C e) (h : PV C e s x) (hr : piterOf s (pfrz x) = some r) : IV C e s r := by
  show (pden C e).i s = _
  rw [ht, h]
  show RP.lift (piterOf s (pfrz x)) s = _
  rw [hr]
  rfl
theorem if_v {e : E} {m : X α} {w : α → Po} {sr : α → Pvs} {r : α → List D × Pg1} (ht : iDef C e) (h : EF C e s m w sr) (hr : ∀ a, piterOf (sr a) (pfrz (w a)) = some (r a)) : IF C e s m r sr := by
  show XR ((pden C e).i s) _ _ _
  rw [ht]
  have z := h.bind (f := fun x s1 => RP.lift (piterOf s1 (pfrz x)) s1) (k := fun a => X.ok a) (g' := r) (sr' := sr) fun a => by
    show RP.lift (piterOf (sr a) (pfrz (w a))) (sr a) = .ok (r a) (sr a)
    rw [hr]
    rfl
  cases m with
  | ok a => exact z
  | exc c fs => exact z
  | no => trivial
theorem IV.if_ {e : E} {r : List D × Pg1} (h : IV C e s r) : IF C e s (.ok ()) (fun _ => r) fun _ => s := h
def rangeI (lo hi : Int) : List Int := (List.range (hi - lo).toNat).map fun (k : Nat) => lo + (k : Int)
theorem rangeD_eq (lo hi : Int) : rangeD lo hi = (rangeI lo hi).map D.int := by
  unfold rangeD rangeI
  rw [List.map_map]
  rfl
@[irreducible] def rngB (lo hi : Int) : Bool := rngOk lo hi
theorem rngB_eq (lo hi : Int) : rngB lo hi = rngOk lo hi := by
  unfold rngB
  rfl
def X.rng (lo hi : Int) : X (List Int) := if rngB lo hi then .ok (rangeI lo hi) else .no
theorem if_rng {a b : E} {l h : Int} (ha : PV C a s (.d (.int l))) (hb : PV C b s (.d (.int h))) : IF C (.rng a b) s (X.rng l h) (fun xs => (xs.map D.int, [])) fun _ => s := by
  show XR (((pden C a).v s).bind fun x s1 => ((pden C b).v s1).bind _) _ _ _
  rw [ha]
  show XR (((pden C b).v s).bind _) _ _ _
  rw [hb]
  show XR (if rngOk l h then _ else _) (if rngB l h then _ else _) _ _
  rw [rngB_eq]
  by_cases hr : rngOk l h = true
  · rw [if_pos hr, if_pos hr]
    show _ = RP.ok _ _
    rw [rangeD_eq]
  · rw [if_neg hr, if_neg hr]
    trivial
theorem if_rngF {a b : E} {ma : X β} {va : β → Int} {sa : β → Pvs} {mb : β → X γ} {vb : β → γ → Int} {sb : β → γ → Pvs} {k : β → γ → List Int → δ} {xs : δ → List Int} {sr : δ → Pvs}
    (ha : EF C a s ma (fun x => .d (.int (va x))) sa) (hb : ∀ x, EF C b (sa x) (mb x) (fun y => .d (.int (vb x y))) (sb x)) (h1 : ∀ x y l, xs (k x y l) = l) (h2 : ∀ x y l, sr (k x y l) = sb x y) :
    IF C (.rng a b) s (ma.bind fun x => (mb x).bind fun y => (X.rng (va x) (vb x y)).bind fun l => .ok (k x y l)) (fun c => ((xs c).map D.int, [])) sr := by
  refine ha.bind fun x => (hb x).bind fun y => ?_
  show XR (if rngOk (va x) (vb x y) then _ else _) ((if rngB (va x) (vb x y) then _ else _ : X _).bind _) _ _
  rw [rngB_eq]
  by_cases hr : rngOk (va x) (vb x y) = true
  · rw [if_pos hr, if_pos hr]
    show _ = RP.ok _ _
    simp only [h1, h2, rangeD_eq]
  · rw [if_neg hr, if_neg hr]
    trivial
def enumI (k : Nat) : List α → List (Int × α)
  | [] => []
  | x :: r => ((k : Int), x) :: enumI (k + 1) r
theorem enumFrom_eq {e : α → D} : ∀ (k : Nat) (xs : List α), enumFrom k (xs.map e) = (enumI k xs).map fun p => .tup [.int p.1, e p.2]
  | _, [] => rfl
  | k, x :: r => by simp only [List.map_cons, enumFrom, enumI, enumFrom_eq (k + 1) r]
theorem if_enum {a : E} {x : Po} {b : Bool} {xs : List α} {e : α → D} {g : Pg1} (ha : PV C a s x) (hs : pseqOf s (pfrz x) = some (b, xs.map e, g)) : IV C (.enum a) s ((enumI 0 xs).map fun p => .tup [.int p.1, e p.2], g) := by
  show ((pden C a).v s).bind (fun x s1 => RP.lift ((pseqOf s1 (pfrz x)).map fun p => (enumFrom 0 p.2.1, p.2.2)) s1) = _
  rw [ha]
  show RP.lift ((pseqOf s (pfrz x)).map fun p => (enumFrom 0 p.2.1, p.2.2)) s = _
  rw [hs]
  show RP.ok _ _ = _
  simp only [enumFrom_eq]
theorem if_enumF {a : E} {m : X β} {w : β → Po} {sr : β → Pvs} {xs : β → List α} {e : α → D} (ha : EF C a s m w sr) (hs : ∀ y, ∃ b, pseqOf (sr y) (pfrz (w y)) = some (b, (xs y).map e, [])) : IF C (.enum a) s m (fun y => ((enumI 0 (xs y)).map fun p => .tup [.int p.1, e p.2], [])) sr := by
  show XR (((pden C a).v s).bind fun x s1 => RP.lift ((pseqOf s1 (pfrz x)).map fun p => (enumFrom 0 p.2.1, p.2.2)) s1) _ _ _
  have z := ha.bind (f := fun x s1 => RP.lift ((pseqOf s1 (pfrz x)).map fun p => (enumFrom 0 p.2.1, p.2.2)) s1) (k := fun a => X.ok a) (g' := fun y => ((enumI 0 (xs y)).map fun p => D.tup [.int p.1, e p.2], [])) (sr' := sr) fun y => by
    obtain ⟨b, h⟩ := hs y
    rw [h]
    show RP.ok _ _ = RP.ok _ _
    simp only [enumFrom_eq]
  cases m with
  | ok a => exact z
  | exc c fs => exact z
  | no => trivial
theorem zipD_eq {e : α → D} {f : β → D} : ∀ (xs : List α) (ys : List β), zipD (xs.map e) (ys.map f) = (xs.zip ys).map fun p => .tup [e p.1, f p.2]
  | [], _ => by simp [zipD]
  | x :: xs, [] => by simp [zipD]
  | x :: xs, y :: ys => by simp only [List.map_cons, zipD, List.zip_cons_cons, zipD_eq xs ys]
theorem if_zip {a b : E} {x y : Po} {t : Bool} {xs : List α} {e : α → D} {ys : List β} {f : β → D} {g h : Pg1} (ha : PV C a s x) (hb : PV C b s y) (h1 : pseqOf s (pfrz x) = some (t, xs.map e, g)) (h2 : pseqOf s (pfrz y) = some (t, ys.map f, h)) :
    IV C (.zip a b) s ((xs.zip ys).map fun p => .tup [e p.1, f p.2], g ++ h) := by
  show ((pden C a).v s).bind (fun x s1 => ((pden C b).v s1).bind _) = _
  rw [ha]
  show ((pden C b).v s).bind _ = _
  rw [hb]
  show RP.lift ((pseqOf s (pfrz x)).bind fun p => (pseqOf s (pfrz y)).bind fun q => if p.1 == q.1 then some (zipD p.2.1 q.2.1, p.2.2 ++ q.2.2) else none) s = _
  rw [h1, h2]
  show RP.lift (if t == t then _ else _) s = _
  rw [beq_self_eq_true, if_pos rfl]
  show RP.ok _ _ = _
  rw [zipD_eq]
/-! ### comprehensions -/
/-- pure ones -/
theorem plc_pure {t : T} {g : Pg1} {own : List Nat} {c : Pvs → RP Bool} {e : Pvs → RP Po} {sw : Pvs} {en : α → D} {p : α → Bool} {f : α → β} {er : β → D} (hg : pchkG g sw = true)
    (hx : ∀ x, ∃ s1, pbindT t (en x) sw = some s1 ∧ c s1 = .ok (p x) s1 ∧ (∃ y, e s1 = .ok y s1 ∧ ptoD s1 y = some (er (f x), s1)) ∧ pwipe s1 own = sw) :
    ∀ xs : List α, plcGo t g own c e (xs.map en) sw = .ok (((xs.filter p).map f).map er) sw
  | [] => by
    simp only [List.map_nil, plcGo, hg, if_true, List.filter_nil]
  | x :: xs => by
    obtain ⟨s1, h1, h2, ⟨y, h3, h4⟩, h5⟩ := hx x
    have ih := plc_pure hg hx xs
    simp only [List.map_cons, plcGo, hg, if_true, h1, h2]
    cases hp : p x with
    | true => simp only [h3, h4, h5, ih, List.filter_cons, hp, if_true, List.map_cons]
    | false => simp only [h5, ih, List.filter_cons, hp, Bool.false_eq_true, if_false]
def X.mapS (xs : List α) (r : σ) (f : α → σ → X (Option β × σ)) : X (List β × σ) := match xs with
  | [] => .ok ([], r)
  | x :: xs => match f x r with
    | .ok (some y, r1) => (match X.mapS xs r1 f with
      | .ok (ys, r2) => .ok (y :: ys, r2)
      | _ => .no)
    | .ok (none, r1) => X.mapS xs r1 f
    | _ => .no
def X.mapM (xs : List α) (f : α → X β) : X (List β) := match xs with
  | [] => .ok []
  | x :: xs => match f x with
    | .ok y => (match X.mapM xs f with
      | .ok ys => .ok (y :: ys)
      | _ => .no)
    | _ => .no
/-- a turn -/
def plcT (c : Pvs → RP Bool) (e : Pvs → RP Po) (s1 : Pvs) : RP (Option D) := (c s1).bind fun b s2 => if b then (e s2).bind fun y s3 => match ptoD s3 y with
    | some (yd, s4) => .ok (some yd) s4
    | none => .no else .ok none s2
theorem plc_gen {t : T} {g : Pg1} {own : List Nat} {c : Pvs → RP Bool} {e : Pvs → RP Po} {W : σ → Pvs} {en : α → D} {f : α → σ → X (Option β × σ)} {er : β → D} (hg : ∀ r, pchkG g (W r) = true)
    (hx : ∀ x r, ∃ s1, pbindT t (en x) (W r) = some s1 ∧ ∃ sr : Option β × σ → Pvs, XR (plcT c e s1) (f x r) (fun o => o.1.map er) sr ∧ ∀ o, pwipe (sr o) own = W o.2) :
    ∀ (xs : List α) (r : σ), match X.mapS xs r f with
      | .ok (ys, r2) => plcGo t g own c e (xs.map en) (W r) = .ok (ys.map er) (W r2)
      | _ => True
  | [], r => by
    simp only [X.mapS, List.map_nil, plcGo, hg, if_true]
  | x :: xs, r => by
    obtain ⟨s1, h1, sr, h2, h3⟩ := hx x r
    simp only [X.mapS]
    cases hf : f x r with
    | no => trivial
    | exc _ _ => trivial
    | ok o =>
      obtain ⟨o, r1⟩ := o
      rw [hf] at h2
      have h2 : plcT c e s1 = .ok (o.map er) (sr (o, r1)) := h2
      have ih := plc_gen hg hx xs r1
      have h3 := h3 (o, r1)
      simp only [List.map_cons, plcGo, hg, if_true, h1]
      unfold plcT at h2
      cases hc : c s1 with
      | no => rw [hc] at h2; cases h2
      | exc _ _ _ => rw [hc] at h2; cases h2
      | ok b s2 =>
        rw [hc] at h2
        simp only [RP.bind] at h2
        cases b with
        | false =>
          rw [if_neg (by decide)] at h2
          cases o with
          | some y => cases h2
          | none =>
            simp only [Option.map_none, RP.ok.injEq, true_and] at h2
            dsimp only
            rw [h2, h3]
            exact ih
        | true =>
          rw [if_pos rfl] at h2
          cases he : e s2 with
          | no => rw [he] at h2; cases h2
          | exc _ _ _ => rw [he] at h2; cases h2
          | ok y s3 =>
            rw [he] at h2
            dsimp only at h2 ⊢
            cases hd : ptoD s3 y with
            | none => rw [hd] at h2; cases h2
            | some w =>
              obtain ⟨yd, s4⟩ := w
              rw [hd] at h2
              dsimp only at h2 ⊢
              cases o with
              | none => cases h2
              | some y =>
                simp only [Option.map_some, RP.ok.injEq, Option.some.injEq] at h2
                obtain ⟨e1, e2⟩ := h2
                simp only [he, hd, e2, h3]
                cases hm : X.mapS xs r1 f with
                | no => trivial
                | exc _ _ => trivial
                | ok w =>
                  obtain ⟨ys, r2⟩ := w
                  rw [hm] at ih
                  dsimp only at ih ⊢
                  rw [ih, e1]
                  rfl
def X.mapO (xs : List α) (f : α → X (Option β)) : X (List β) := match xs with
  | [] => .ok []
  | x :: xs => match f x with
    | .ok (some y) => (match X.mapO xs f with
      | .ok ys => .ok (y :: ys)
      | _ => .no)
    | .ok none => X.mapO xs f
    | _ => .no
theorem plc_quiet {t : T} {g : Pg1} {own : List Nat} {c : Pvs → RP Bool} {e : Pvs → RP Po} {sw : Pvs} {en : α → D} {f : α → X (Option β)} {er : β → D} (hg : pchkG g sw = true)
    (hx : ∀ x, ∃ s1, pbindT t (en x) sw = some s1 ∧ ∃ sr : Option β → Pvs, XR (plcT c e s1) (f x) (fun o => o.map er) sr ∧ ∀ o, pwipe (sr o) own = sw) (xs : List α) : match X.mapO xs f with
      | .ok ys => plcGo t g own c e (xs.map en) sw = .ok (ys.map er) sw
      | .exc _ _ => False
      | .no => True := by
  have key : ∀ (F2 : α → Unit → X (Option β × Unit)) (hF : ∀ x, F2 x () = (f x).bind fun o => .ok (o, ())) (xs : List α), match X.mapS xs () F2 with
      | .ok (ys, _) => X.mapO xs f = .ok ys
      | _ => X.mapO xs f = .no := by
    intro F2 hF xs
    induction xs with
    | nil => rfl
    | cons x xs ih =>
      simp only [X.mapS, X.mapO]
      rw [hF x]
      cases f x with
      | no => rfl
      | exc _ _ => rfl
      | ok o =>
        dsimp only [X.bind]
        cases o with
        | none => exact ih
        | some y =>
          dsimp only
          cases hm : X.mapS xs () F2 with
          | no =>
            rw [hm] at ih
            dsimp only at ih ⊢
            rw [ih]
          | exc _ _ =>
            rw [hm] at ih
            dsimp only at ih ⊢
            rw [ih]
          | ok w =>
            obtain ⟨ys, u⟩ := w
            rw [hm] at ih
            dsimp only at ih ⊢
            rw [ih]
  have key := key (fun x (_ : Unit) => (f x).bind fun o => .ok (o, ())) fun _ => rfl
  have z := plc_gen (W := fun _ : Unit => sw) (t := t) (own := own) (c := c) (e := e) (en := en) (er := er) (f := fun x (_ : Unit) => (f x).bind fun o => .ok (o, ())) (fun _ => hg) (fun x _ => by
    obtain ⟨s1, h1, sr, h2, h3⟩ := hx x
    refine ⟨s1, h1, fun o => sr o.1, ?_, fun o => h3 o.1⟩
    cases hf : f x with
    | no => trivial
    | exc _ _ => rw [hf] at h2; exact h2
    | ok o => rw [hf] at h2; exact h2) xs ()
  have k := key xs
  cases hm : X.mapS xs () (fun x (_ : Unit) => (f x).bind fun o => .ok (o, ())) with
  | no =>
    rw [hm] at k
    dsimp only at k
    rw [k]
    trivial
  | exc _ _ =>
    rw [hm] at k
    dsimp only at k
    rw [k]
    trivial
  | ok w =>
    obtain ⟨ys, u⟩ := w
    rw [hm] at k z
    dsimp only at k z
    rw [k]
    exact z
/-- the loose ends of a comprehension -/
theorem ef_lc {own : List Nat} {t : T} {it c e : E} {mi : X α} {gi : α → List D × Pg1} {si : α → Pvs} {mb : α → X β} {ys : β → List D} {s2 : α → β → Pvs} {k : α → β → γ} {w : γ → Po} {sr : γ → Pvs} (hi : IF C it s mi gi si) (hw : t.within own = true)
    (hb : ∀ a, match mb a with
      | .ok b => plcGo t (gi a).2 own (if isTrueE c then fun s => .ok true s else (pden C c).t) (pden C e).v (gi a).1 (pwipe (si a) own) = .ok (ys b) (s2 a b)
      | .exc _ _ => False
      | .no => True) (h1 : ∀ a b, w (k a b) = .n (.lst (ys b))) (h2 : ∀ a b, prest (si a) (s2 a b) own = sr (k a b)) : EF C (.lc own t it c e) s (mi.bind fun a => (mb a).bind fun b => .ok (k a b)) w sr := by
  show XR (((pden C it).i s).bind _) _ _ _
  refine hi.bind fun a => ?_
  show XR (if t.within own then _ else _) _ _ _
  rw [if_pos hw]
  have z := hb a
  cases hm : mb a with
  | no => trivial
  | exc _ _ => rw [hm] at z; exact z.elim
  | ok b =>
    rw [hm] at z
    dsimp only at z
    rw [z]
    show RP.ok _ _ = RP.ok _ _
    rw [h1, h2]
/-- pure comprehensions -/
theorem pv_lc {own : List Nat} {t : T} {it c e : E} {xs : List α} {en : α → D} {g : Pg1} {p : α → Bool} {f : α → β} {er : β → D} (hi : IV C it s (xs.map en, g)) (hw : t.within own = true) (hg : pchkG g (pwipe s own) = true)
    (hx : ∀ x, ∃ s1, pbindT t (en x) (pwipe s own) = some s1 ∧ (if isTrueE c then fun s => RP.ok true s else (pden C c).t) s1 = .ok (p x) s1 ∧ (∃ y, (pden C e).v s1 = .ok y s1 ∧ ptoD s1 y = some (er (f x), s1)) ∧ pwipe s1 own = pwipe s own)
    (hr : prest s (pwipe s own) own = s) : PV C (.lc own t it c e) s (.n (.lst (((xs.filter p).map f).map er))) := by
  show ((pden C it).i s).bind _ = _
  rw [hi]
  show (if t.within own then _ else _) = _
  rw [if_pos hw, plc_pure hg hx xs]
  show RP.ok _ _ = _
  rw [hr]
/-! ### statements -/
def QK (Z : PSm) (t : S) (s : Pvs) (F : Pvs → RQ) (m : X β) (h : β → RQ → Prop) : Prop := QS ((pS Z t s).andThen F) m h
variable {Z : PSm} {F : Pvs → RQ} {m : X β} {h : β → RQ → Prop}
theorem qk_seq {a b : S} (k : QK Z a s (fun s1 => (pS Z b s1).andThen F) m h) : QK Z (.seq a b) s F m h := by
  unfold QK
  rw [show pS Z (.seq a b) s = (pS Z a s).andThen fun s => pS Z b s from rfl, andThen_assoc]
  exact k
theorem qk_skip (k : QS (F s) m h) : QK Z .skip s F m h := k
theorem qs_ret {x : Po} {s' : Pvs} {r : β} (k : h r (.ret x s')) : QS (RQ.ret x s') (.ok r) h := k
def setF (t : T) (x : Po) (s1 : Pvs) : RQ := match pfrz x with
      | .d y => (match pbindT t y s1 with
        | some s2 => .nx s2
        | none => .no)
      | .v j => (match pget s1 j, t with
        | some (.d y), .n i => (match psetD s1 i (.d y) with
          | some s2 => .nx s2
          | none => .no)
        | _, _ => .no)
      | _ => .no
theorem qk_set {t : T} {e : E} {me : X α} {ve : α → Po} {se : α → Pvs} {k : α → X β} (he : EF Z.C e s me ve se) (hk : ∀ a, QS ((setF t (ve a) (se a)).andThen F) (k a) h) : QK Z (.set t e) s F (me.bind k) h := by
  unfold QK
  show QS ((((pden Z.C e).v s).thenS fun x s1 => setF t x s1).andThen F) _ _
  rw [thenS_then]
  exact QS.bindS he hk
theorem set_n {i : Nat} {x : Po} {y : D} {s2 : Pvs} (hx : pfrz x = .d y) (hs : psetD s i (.d y) = some s2) (k : QS (F s2) m h) : QS ((setF (.n i) x s).andThen F) m h := by
  unfold setF
  rw [hx]
  simp only [pbindT, hs]
  exact k
theorem set_t {t : T} {x : Po} {y : D} {s2 : Pvs} (hx : pfrz x = .d y) (hs : pbindT t y s = some s2) (k : QS (F s2) m h) : QS ((setF t x s).andThen F) m h := by
  unfold setF
  rw [hx]
  simp only [hs]
  exact k
theorem qk_setP {t : T} {e : E} {x : Po} (he : PV Z.C e s x) (hk : QS ((setF t x s).andThen F) m h) : QK Z (.set t e) s F m h := qk_set (me := .ok ()) (k := fun _ => m) he.ef fun _ => hk
def cellF (i : Nat) (x : Po) (s1 : Pvs) : RQ := match x with
      | .n y => if isL y then (match psetD s1 i (.c y) with
        | some s2 => .nx s2
        | none => .no) else .no
      | _ => .no
theorem qk_cell {i : Nat} {e : E} {me : X α} {ve : α → Po} {se : α → Pvs} {k : α → X β} (he : EF Z.C e s me ve se) (hk : ∀ a, QS ((cellF i (ve a) (se a)).andThen F) (k a) h) : QK Z (.cell i e) s F (me.bind k) h := by
  unfold QK
  show QS ((((pden Z.C e).v s).thenS fun x s1 => cellF i x s1).andThen F) _ _
  rw [thenS_then]
  exact QS.bindS he hk
theorem qk_cellP {i : Nat} {e : E} {x : Po} (he : PV Z.C e s x) (hk : QS ((cellF i x s).andThen F) m h) : QK Z (.cell i e) s F m h := qk_cell (me := .ok ()) (k := fun _ => m) he.ef fun _ => hk
theorem cell_n {i : Nat} {xs : List D} {s2 : Pvs} (hs : psetD s i (.c (.lst xs)) = some s2) (k : QS (F s2) m h) : QS ((cellF i (.n (.lst xs)) s).andThen F) m h := by
  simp only [cellF, isL, if_true, hs]
  exact k
/-- parallel stores -/
def pkF (C : Nat → List Pv → RF) (cs : List Bool) (es : E) (s : Pvs) (f : List Po → Pvs → RQ) : RQ := ((pden C es).p cs s).thenS f
def pkv (c : Bool) (x : Po) : Option Po := if c then (match x with
  | .n z => some (.n z)
  | _ => none) else some (pfrz x)
theorem pk_nil {f : List Po → Pvs → RQ} (k : QS (f [] s) m h) : QS (pkF C [] .nil s f) m h := k
theorem pk_cons {c : Bool} {cs : List Bool} {e r : E} {f : List Po → Pvs → RQ} {me : X α} {ve : α → Po} {se : α → Pvs} {k : α → X β} {ve' : α → Po} (he : EF C e s me ve se) (hc : ∀ a, pkv c (ve a) = some (ve' a)) (hk : ∀ a, QS (pkF C cs r (se a) fun ys s2 => f (ve' a :: ys) s2) (k a) h) : QS (pkF C (c :: cs) (.cons e r) s f) (me.bind k) h := by
  have e1 : pkF C (c :: cs) (.cons e r) s f = ((pden C e).v s).thenS fun y s1 => (((if c then (match y with
            | .n z => RP.ok (Po.n z) s1
            | _ => RP.no) else RP.ok (pfrz y) s1) : RP Po).thenS fun z s2 => pkF C cs r s2 fun ys s3 => f (z :: ys) s3) := by
    unfold pkF
    show (((pden C e).v s).bind _ : RP _).thenS f = _
    cases (pden C e).v s with
    | no => rfl
    | exc _ _ _ => rfl
    | ok y s1 =>
      show ((((if c then (match y with
            | .n z => RP.ok (Po.n z) s1
            | _ => RP.no) else RP.ok (pfrz y) s1) : RP Po).bind _) : RP _).thenS f = _
      show _ = ((((if c then (match y with
            | .n z => RP.ok (Po.n z) s1
            | _ => RP.no) else RP.ok (pfrz y) s1) : RP Po)).thenS _)
      cases ((if c then (match y with
            | .n z => RP.ok (Po.n z) s1
            | _ => RP.no) else RP.ok (pfrz y) s1) : RP Po) with
      | no => rfl
      | exc _ _ _ => rfl
      | ok z s2 =>
        show ((((pden C r).p cs s2).bind _) : RP _).thenS f = ((pden C r).p cs s2).thenS _
        cases (pden C r).p cs s2 <;> rfl
  rw [e1]
  refine QS.bindS he fun a => ?_
  have z := hc a
  unfold pkv at z
  cases c with
  | false =>
    rw [if_neg (by decide)] at z ⊢
    rw [Option.some.inj z]
    exact hk a
  | true =>
    rw [if_pos rfl] at z ⊢
    cases hv : ve a with
    | d x => rw [hv] at z; cases z
    | v i => rw [hv] at z; cases z
    | n x =>
      rw [hv] at z
      have z := Option.some.inj z
      have k2 := hk a
      rw [← z] at k2
      exact k2
theorem pk_consP {c : Bool} {cs : List Bool} {e r : E} {f : List Po → Pvs → RQ} {x x' : Po} (he : PV C e s x) (hc : pkv c x = some x') (hk : QS (pkF C cs r s fun ys s2 => f (x' :: ys) s2) m h) : QS (pkF C (c :: cs) (.cons e r) s f) m h :=
  pk_cons (me := .ok ()) (k := fun _ => m) (ve := fun _ => x) (ve' := fun _ => x') he.ef (fun _ => hc) fun _ => hk
theorem qk_par {is : List Nat} {cs : List Bool} {es : E} (k : QS (pkF Z.C cs es s fun xs s1 => (match psetAll s1 is xs with
      | some s2 => RQ.nx s2
      | none => .no).andThen F) m h) : QK Z (.par is cs es) s F m h := by
  unfold QK
  show QS ((((pden Z.C es).p cs s).thenS _).andThen F) _ _
  rw [thenS_then]
  exact k
theorem par_end {is : List Nat} {xs : List Po} {s2 : Pvs} (hs : psetAll s is xs = some s2) (k : QS (F s2) m h) : QS ((match psetAll s is xs with
      | some s2 => RQ.nx s2
      | none => .no).andThen F) m h := by
  rw [hs]
  exact k
theorem qk_ex {e : E} {me : X α} {ve : α → Po} {se : α → Pvs} {k : α → X β} (he : EF Z.C e s me ve se) (hk : ∀ a, QS (F (se a)) (k a) h) : QK Z (.ex e) s F (me.bind k) h := by
  unfold QK
  show QS ((((pden Z.C e).v s).thenS _).andThen F) _ _
  rw [thenS_then]
  exact QS.bindS he hk
theorem qk_ret {e : E} {me : X α} {ve : α → Po} {se : α → Pvs} {k : α → X β} (he : EF Z.C e s me ve se) (hk : ∀ a, QS (.ret (ve a) (se a)) (k a) h) : QK Z (.ret e) s F (me.bind k) h := by
  unfold QK
  show QS ((((pden Z.C e).v s).thenS _).andThen F) _ _
  rw [thenS_then]
  exact QS.bindS he hk
theorem qk_retP {e : E} {x : Po} (he : PV Z.C e s x) (hk : QS (.ret x s) m h) : QK Z (.ret e) s F m h := qk_ret (me := .ok ()) (k := fun _ => m) he.ef fun _ => hk
theorem qk_retn (hk : QS (.ret (.d .non) s) m h) : QK Z .retn s F m h := hk
theorem qk_nev : QK Z .nev s F (.no : X β) h := trivial
theorem qk_ite {c : E} {a b : S} {mc : X α} {vc : α → Bool} {sc : α → Pvs} {ka kb : α → X β} (hc : TF Z.C c s mc vc sc) (ha : ∀ x, QK Z a (sc x) F (ka x) h) (hb : ∀ x, QK Z b (sc x) F (kb x) h) : QK Z (.ite c a b) s F (mc.bind fun x => if vc x = true then ka x else kb x) h := by
  unfold QK
  show QS ((((pden Z.C c).t s).thenS fun x s1 => if x then pS Z a s1 else pS Z b s1).andThen F) _ _
  rw [thenS_then]
  refine QS.bindS hc fun x => ?_
  by_cases hx : vc x = true
  · rw [if_pos hx, if_pos hx]; exact ha x
  · rw [if_neg hx, if_neg hx]; exact hb x
theorem qk_iteP {c : E} {a b : S} {x : Bool} {ka kb : X β} (hc : TV Z.C c s x) (ha : QK Z a s F ka h) (hb : QK Z b s F kb h) : QK Z (.ite c a b) s F (if x = true then ka else kb) h :=
  qk_ite (ka := fun _ => ka) (kb := fun _ => kb) hc.tf (fun _ => ha) fun _ => hb
/-- both branches go on: their ends are joined -/
theorem qk_join {t : S} {mj : X α} {k : α → X β} {P : α → Pvs → Prop} (hj : QK Z t s .nx mj fun a q => ∃ s', q = .nx s' ∧ P a s') (hk : ∀ a s', P a s' → QS (F s') (k a) h) : QK Z t s F (mj.bind k) h := by
  unfold QK at *
  have hj' : QS (pS Z t s) mj fun a q => ∃ s', q = .nx s' ∧ P a s' := by
    have e : (pS Z t s).andThen .nx = pS Z t s := by cases pS Z t s <;> rfl
    rw [e] at hj
    exact hj
  exact hj'.andThen fun a q ⟨s', e, p⟩ => by
    subst e
    exact hk a s' p
theorem qs_nx {a : β} {P : β → Pvs → Prop} (p : P a s) : QS (RQ.nx s) (.ok a) fun a q => ∃ s', q = .nx s' ∧ P a s' := ⟨s, rfl, p⟩
/-- a store by place -/
theorem qk_setix {o i e : E} {me : X α} {ve : α → Po} {se : α → Pvs} {k : α → X β} (he : EF Z.C e s me ve se) (hk : ∀ a, QS ((match ptoD (se a) (ve a) with
      | some (yd, s2) => ((pden Z.C o).v s2).thenS fun x s3 => ((pden Z.C i).v s3).thenS fun k s4 => match k with
        | .d (.int k) => (match psetIx s4 x k yd with
          | some s5 => RQ.nx s5
          | none => .no)
        | _ => .no
      | none => .no).andThen F) (k a) h) : QK Z (.setix o i e) s F (me.bind k) h := by
  unfold QK
  show QS ((((pden Z.C e).v s).thenS _).andThen F) _ _
  rw [thenS_then]
  exact QS.bindS he hk
def X.setAt (xs : List α) (i : Int) (y : α) : X (List α) := match ixN xs.length i with
  | some j => if j < xs.length then .ok (xs.set j y) else .no
  | none => .no
theorem setix_end {x : Po} {yd : α} {er : α → D} {s2 : Pvs} {o i : E} {j : Nat} {n : Int} {p : Pv} {xs : List α} {k : List α → X β} {kp : D → Pv} {sr : List α → Pvs} (h1 : ptoD s x = some (er yd, s2)) (ho : PV Z.C o s2 (.v j)) (hi : PV Z.C i s2 (.d (.int n))) (hp : pget s2 j = some p) (hx : p.dat = .lst (xs.map er)) (hu : ∀ y, p.upd y = some (kp y))
    (hs : ∀ c, s2.set j (some (kp (.lst (c.map er)))) = sr c) (hk : ∀ c, QS (F (sr c)) (k c) h) : QS ((match ptoD s x with
      | some (yd, s2) => ((pden Z.C o).v s2).thenS fun x s3 => ((pden Z.C i).v s3).thenS fun k s4 => match k with
        | .d (.int k) => (match psetIx s4 x k yd with
          | some s5 => RQ.nx s5
          | none => .no)
        | _ => .no
      | none => .no).andThen F) ((X.setAt xs n yd).bind k) h := by
  rw [h1]
  dsimp only
  rw [ho]
  show QS ((((pden Z.C i).v s2).thenS _).andThen F) _ _
  rw [hi]
  show QS ((match psetIx s2 (.v j) n (er yd) with
          | some s5 => RQ.nx s5
          | none => .no).andThen F) _ _
  unfold X.setAt psetIx
  simp only [hp, Option.bind_some, hx, List.length_map]
  cases ixN xs.length n with
  | none => trivial
  | some l =>
    dsimp only [Option.bind_some]
    by_cases hl : l < xs.length
    · rw [if_pos hl, if_pos hl, hu]
      have e := hs (xs.set l yd)
      rw [List.map_set] at e
      simp only [Option.map_some, e]
      exact hk _
    · rw [if_neg hl, if_neg hl]
      trivial
theorem qk_aug {i : Nat} {o : Op2} {e : E} {x : D} {me : X α} {y : α → D} {se : α → Pvs} {k : α → X β} {z : α → D} {s2 : α → Pvs} (hp : pget s i = some (.d x)) (hx : isL x = false) (he : EF Z.C e s me (fun a => .d (y a)) se) (ha : ∀ a, augOk o x (y a) = true) (ho : ∀ a, op2 o x (y a) = some (.d (z a)))
    (hs : ∀ a, psetD (se a) i (.d (z a)) = some (s2 a)) (hk : ∀ a, QS (F (s2 a)) (k a) h) : QK Z (.aug i o e) s F (me.bind k) h := by
  unfold QK
  have e1 : pS Z (.aug i o e) s = ((pden Z.C e).v s).thenS fun y s1 => match y with
        | .d y => if augOk o x y then (match op2 o x y with
          | some (.d z) => (match psetD s1 i (.d z) with
            | some s2 => .nx s2
            | none => .no)
          | _ => .no) else .no
        | _ => .no := by
    show (match pget s i with
      | some (.d x) => if isL x then RQ.no else _
      | _ => .no) = _
    rw [hp]
    show (if isL x then RQ.no else _) = _
    rw [hx]
    rfl
  rw [e1, thenS_then]
  refine QS.bindS he fun a => ?_
  simp only [ha, if_true, ho, hs]
  exact hk a
/-! ### walks -/
def X.loop (xs : List α) (st : σ) (f : α → σ → X (Fl ρ σ)) : X (Fl ρ σ) := match xs with
  | [] => .ok (.nx st)
  | x :: xs => match f x st with
    | .ok (.nx st1) => X.loop xs st1 f
    | .ok (.brk st1) => .ok (.nx st1)
    | .ok (.ret r) => .ok (.ret r)
    | .exc c fs => .exc c fs
    | .no => .no
def X.fold (xs : List α) (st : σ) (f : α → σ → X σ) : X σ := match xs with
  | [] => .ok st
  | x :: xs => match f x st with
    | .ok st1 => X.fold xs st1 f
    | .exc c fs => .exc c fs
    | .no => .no
/-- a turn's end -/
def LP {J : Type} (V : σ → J → Pvs) (hr : ρ → RQ → Prop) : Fl ρ σ → RQ → Prop
  | .nx st, q => ∃ j, q = .nx (V st j) ∨ q = .cnt (V st j)
  | .brk st, q => ∃ j, q = .brk (V st j)
  | .ret r, q => (∃ x s', q = .ret x s') ∧ hr r q
def LE {J : Type} (V : σ → J → Pvs) (hr : ρ → RQ → Prop) : Fl ρ σ → RQ → Prop
  | .nx st, q => ∃ j, q = .nx (V st j)
  | .brk _, _ => False
  | .ret r, q => (∃ x s', q = .ret x s') ∧ hr r q
theorem loop_sim {J : Type} {t : T} {g : Pg1} {b : Pvs → RQ} {V : σ → J → Pvs} {en : α → D} {f : α → σ → X (Fl ρ σ)} {hr : ρ → RQ → Prop} (hg : ∀ st j, pchkG g (V st j) = true) (hb : ∀ x st j, ∃ s1, pbindT t (en x) (V st j) = some s1 ∧ QS (b s1) (f x st) (LP V hr)) :
    ∀ (xs : List α) (st : σ) (j : J), QS (pforGo t g b (xs.map en) (V st j)) (X.loop xs st f) (LE V hr)
  | [], st, j => by
    simp only [List.map_nil, pforGo, hg, if_true, X.loop]
    exact ⟨j, rfl⟩
  | x :: xs, st, j => by
    obtain ⟨s1, h1, h2⟩ := hb x st j
    simp only [List.map_cons, pforGo, hg, if_true, X.loop, h1]
    cases hf : f x st with
    | no => trivial
    | exc c fs =>
      rw [hf] at h2
      obtain ⟨s', e⟩ := h2
      rw [e]
      exact ⟨s', rfl⟩
    | ok o =>
      rw [hf] at h2
      cases o with
      | nx st1 =>
        obtain ⟨j1, e | e⟩ := h2
        · rw [e]; exact loop_sim hg hb xs st1 j1
        · rw [e]; exact loop_sim hg hb xs st1 j1
      | brk st1 =>
        obtain ⟨j1, e⟩ := h2
        rw [e]; exact ⟨j1, rfl⟩
      | ret r =>
        obtain ⟨⟨x', s', e⟩, hh⟩ := h2
        rw [e] at hh ⊢
        exact ⟨⟨x', s', rfl⟩, hh⟩
theorem fold_sim {J : Type} {t : T} {g : Pg1} {b : Pvs → RQ} {V : σ → J → Pvs} {en : α → D} {f : α → σ → X σ} (hg : ∀ st j, pchkG g (V st j) = true) (hb : ∀ x st j, ∃ s1, pbindT t (en x) (V st j) = some s1 ∧ QS (b s1) (f x st) fun st q => ∃ j, q = .nx (V st j) ∨ q = .cnt (V st j)) :
    ∀ (xs : List α) (st : σ) (j : J), QS (pforGo t g b (xs.map en) (V st j)) (X.fold xs st f) fun st q => ∃ j, q = .nx (V st j)
  | [], st, j => by
    simp only [List.map_nil, pforGo, hg, if_true, X.fold]
    exact ⟨j, rfl⟩
  | x :: xs, st, j => by
    obtain ⟨s1, h1, h2⟩ := hb x st j
    simp only [List.map_cons, pforGo, hg, if_true, X.fold, h1]
    cases hf : f x st with
    | no => trivial
    | exc c fs =>
      rw [hf] at h2
      obtain ⟨s', e⟩ := h2
      rw [e]
      exact ⟨s', rfl⟩
    | ok st1 =>
      rw [hf] at h2
      obtain ⟨j1, e | e⟩ := h2
      · rw [e]; exact fold_sim hg hb xs st1 j1
      · rw [e]; exact fold_sim hg hb xs st1 j1
theorem qk_for {t : T} {it : E} {b : S} {mi : X α} {gi : α → List D × Pg1} {si : α → Pvs} {k : α → X β} (hi : IF Z.C it s mi gi si) (hk : ∀ a, QS (((pforGo t (gi a).2 (pS Z b) (gi a).1 (plock (si a) (gi a).2)).onS fun s2 => punlock (si a) s2 (gi a).2).andThen F) (k a) h) : QK Z (.for t it b) s F (mi.bind k) h := by
  unfold QK
  show QS ((((pden Z.C it).i s).thenS _).andThen F) _ _
  rw [thenS_then]
  exact QS.bindS hi hk
theorem qk_forP {t : T} {it : E} {b : S} {gi : List D × Pg1} (hi : IV Z.C it s gi) (hk : QS (((pforGo t gi.2 (pS Z b) gi.1 (plock s gi.2)).onS fun s2 => punlock s s2 gi.2).andThen F) m h) : QK Z (.for t it b) s F m h := qk_for (mi := .ok ()) (k := fun _ => m) hi.if_ fun _ => hk
/-- a walk without an end ahead -/
theorem fold_end {J : Type} {t : T} {g : Pg1} {b : Pvs → RQ} {V : σ → J → Pvs} {en : α → D} {f : α → σ → X σ} {xs : List α} {st : σ} {j : J} {k : σ → X β} {sl s0 : Pvs} {V' : σ → J → Pvs} (hs : plock s0 g = V st j) (hg : ∀ st j, pchkG g (V st j) = true)
    (hb : ∀ x st j, ∃ s1, pbindT t (en x) (V st j) = some s1 ∧ QS (b s1) (f x st) fun st q => ∃ j, q = .nx (V st j) ∨ q = .cnt (V st j)) (hu : ∀ st j, punlock s0 (V st j) g = V' st j) (hk : ∀ st j, QS (F (V' st j)) (k st) h) :
    QS (((pforGo t g b (xs.map en) (plock s0 g)).onS fun s2 => punlock s0 s2 g).andThen F) ((X.fold xs st f).bind k) h := by
  rw [hs]
  have z := fold_sim hg hb xs st j
  refine QS.andThen (h1 := fun st q => ∃ j, q = .nx (V' st j)) ?_ fun st q ⟨j, e⟩ => by
    rw [e]
    exact hk st j
  cases hm : X.fold xs st f with
  | no => trivial
  | exc c fs =>
    rw [hm] at z
    obtain ⟨s', e⟩ := z
    exact ⟨_, by rw [e]; rfl⟩
  | ok st1 =>
    rw [hm] at z
    obtain ⟨j1, e⟩ := z
    refine ⟨j1, ?_⟩
    rw [e]
    show RQ.nx (punlock s0 (V st1 j1) g) = _
    rw [hu]
theorem loop_end {J : Type} {t : T} {b : Pvs → RQ} {V : σ → J → Pvs} {en : α → D} {f : α → σ → X (Fl ρ σ)} {xs : List α} {st : σ} {j : J} {k : Fl ρ σ → X β} {s0 : Pvs} {hr : ρ → RQ → Prop} (hs : s0 = V st j)
    (hb : ∀ x st j, ∃ s1, pbindT t (en x) (V st j) = some s1 ∧ QS (b s1) (f x st) (LP V hr)) (hk : ∀ st j, QS (F (V st j)) (k (.nx st)) h) (hret : ∀ r x s', hr r (.ret x s') → QS (.ret x s') (k (.ret r)) h) :
    QS (((pforGo t [] b (xs.map en) (plock s0 [])).onS fun s2 => punlock s0 s2 []).andThen F) ((X.loop xs st f).bind k) h := by
  subst hs
  have z := loop_sim (g := []) (fun _ _ => rfl) hb xs st j
  have eo : ∀ q : RQ, (q.onS fun s2 => punlock (V st j) s2 []) = q := fun q => by cases q <;> rfl
  rw [eo]
  refine z.andThen fun a q hq => ?_
  cases a with
  | nx st1 =>
    obtain ⟨j1, e⟩ := hq
    rw [e]
    exact hk st1 j1
  | brk _ => exact hq.elim
  | ret r =>
    obtain ⟨⟨x, s', e⟩, hh⟩ := hq
    rw [e] at hh ⊢
    exact hret r x s' hh
/-- while -/
def X.whl (n : Nat) (st : σ) (c : σ → X (Bool × σ)) (f : σ → X (Fl ρ σ)) : X (Fl ρ σ) := match n with
  | 0 => .no
  | n + 1 => match c st with
    | .ok (true, st1) => (match f st1 with
      | .ok (.nx st2) => X.whl n st2 c f
      | .ok (.brk st2) => .ok (.nx st2)
      | .ok (.ret r) => .ok (.ret r)
      | .exc c fs => .exc c fs
      | .no => .no)
    | .ok (false, st1) => .ok (.nx st1)
    | .exc c fs => .exc c fs
    | .no => .no
theorem whl_sim {J : Type} {c : Pvs → RP Bool} {b : Pvs → RQ} {V : σ → J → Pvs} {mc : σ → X (Bool × σ)} {f : σ → X (Fl ρ σ)} {hr : ρ → RQ → Prop} (hc : ∀ st j, XR (c (V st j)) (mc st) (·.1) fun p => V p.2 j) (hb : ∀ st j, QS (b (V st j)) (f st) (LP V hr)) :
    ∀ (n : Nat) (st : σ) (j : J), QS (pwhGo c b n (V st j)) (X.whl n st mc f) (LE V hr)
  | 0, st, j => trivial
  | n + 1, st, j => by
    simp only [pwhGo, X.whl]
    have h1 := hc st j
    cases hm : mc st with
    | no => trivial
    | exc c fs =>
      rw [hm] at h1
      obtain ⟨s', e⟩ := h1
      rw [e]
      exact ⟨s', rfl⟩
    | ok p =>
      obtain ⟨x, st1⟩ := p
      rw [hm] at h1
      have h1 : c (V st j) = .ok x (V st1 j) := h1
      rw [h1]
      cases x with
      | false => exact ⟨j, rfl⟩
      | true =>
        simp only [RP.thenS, if_true]
        have h2 := hb st1 j
        cases hf : f st1 with
        | no => trivial
        | exc c fs =>
          rw [hf] at h2
          obtain ⟨s', e⟩ := h2
          rw [e]
          exact ⟨s', rfl⟩
        | ok o =>
          rw [hf] at h2
          cases o with
          | nx st2 =>
            obtain ⟨j1, e | e⟩ := h2
            · rw [e]; exact whl_sim hc hb n st2 j1
            · rw [e]; exact whl_sim hc hb n st2 j1
          | brk st2 =>
            obtain ⟨j1, e⟩ := h2
            rw [e]; exact ⟨j1, rfl⟩
          | ret r =>
            obtain ⟨⟨x', s', e⟩, hh⟩ := h2
            rw [e] at hh ⊢
            exact ⟨⟨x', s', rfl⟩, hh⟩
theorem qk_whl {J : Type} {c : E} {b : S} {V : σ → J → Pvs} {mc : σ → X (Bool × σ)} {f : σ → X (Fl ρ σ)} {st : σ} {j : J} {k : Fl ρ σ → X β} {hr : ρ → RQ → Prop} (hs : s = V st j) (hc : ∀ st j, TF Z.C c (V st j) (mc st) (·.1) fun p => V p.2 j) (hb : ∀ st j, QK Z b (V st j) .nx (f st) (LP V hr))
    (hk : ∀ st j, QS (F (V st j)) (k (.nx st)) h) (hret : ∀ r x s', hr r (.ret x s') → QS (.ret x s') (k (.ret r)) h) : QK Z (.whil c b) s F ((X.whl Z.W st mc f).bind k) h := by
  subst hs
  have hb' : ∀ st j, QS (pS Z b (V st j)) (f st) (LP V hr) := fun st j => by
    have z := hb st j
    unfold QK at z
    have e : (pS Z b (V st j)).andThen .nx = pS Z b (V st j) := by cases pS Z b (V st j) <;> rfl
    rw [e] at z
    exact z
  have z := whl_sim (c := (pden Z.C c).t) (b := pS Z b) hc hb' Z.W st j
  unfold QK
  refine QS.andThen (q := pwhGo (pden Z.C c).t (pS Z b) Z.W (V st j)) z fun a q hq => ?_
  cases a with
  | nx st1 =>
    obtain ⟨j1, e⟩ := hq
    rw [e]
    exact hk st1 j1
  | brk _ => exact hq.elim
  | ret r =>
    obtain ⟨⟨x, s', e⟩, hh⟩ := hq
    rw [e] at hh ⊢
    exact hret r x s' hh
theorem qk_body {t : S} (k : QK Z t s .nx m h) : QS (pS Z t s) m h := by
  unfold QK at k
  have e : (pS Z t s).andThen .nx = pS Z t s := by cases pS Z t s <;> rfl
  rw [e] at k
  exact k
/-- a def -/
theorem fs_of {P : Pg} {n f : Nat} {fn : Fn} {as : List Pv} {vs : Pvs} {m : X α} {po : α → Po} {fin : α → List Pv} (h1 : P.fns[f]? = some fn) (h2 : fn.pfits as = true) (h3 : pstart fn as = vs) (hb : QK ⟨pF P n, P.W, P.X⟩ fn.body vs .nx m fun r q => pfin as q = .ok (po r) (fin r)) : FS (pF P (n + 1) f as) m po fin := by
  have z := qk_body hb
  have e : pF P (n + 1) f as = pfin as (pS ⟨pF P n, P.W, P.X⟩ fn.body vs) := by
    rw [pF_succ, h1]
    dsimp only
    rw [if_pos h2, h3]
  rw [e]
  cases m with
  | no => exact .no
  | exc c fs =>
    obtain ⟨s', e⟩ := z
    exact .exc ⟨_, by rw [e]; rfl⟩
  | ok r => exact .mk z
end
end Pd

/-! Me3: mirrors: operations. -/
namespace Pd
open PySem PySem.Spec PyProof.Rows L2
section
variable {C : Nat → List Pv → RF} {s : Pvs} {α β γ δ ε σ ρ : Type}
/-! ### data of optional things, tuples -/
def eO (e : α → D) : Option α → D
  | none => .non
  | some x => e x
abbrev eL (e : α → D) (xs : List α) : D := .lst (xs.map e)
abbrev eV (e : α → D) (xs : List α) : D := .tup (xs.map e)
abbrev eT1 (a : α → D) (p : α) : D := .tup [a p]
abbrev eT2 (a : α → D) (b : β → D) (p : α × β) : D := .tup [a p.1, b p.2]
abbrev eT3 (a : α → D) (b : β → D) (c : γ → D) (p : α × β × γ) : D := .tup [a p.1, b p.2.1, c p.2.2]
abbrev eT4 (a : α → D) (b : β → D) (c : γ → D) (d : δ → D) (p : α × β × γ × δ) : D := .tup [a p.1, b p.2.1, c p.2.2.1, d p.2.2.2]
abbrev eT5 (a : α → D) (b : β → D) (c : γ → D) (d : δ → D) (e : ε → D) (p : α × β × γ × δ × ε) : D := .tup [a p.1, b p.2.1, c p.2.2.1, d p.2.2.2.1, e p.2.2.2.2]
abbrev eN (_ : Unit) : D := .non
/-! ### numbers -/
@[irreducible] def mulB (a b : Int) : Bool := mulOk a b
theorem mulB_eq (a b : Int) : mulB a b = mulOk a b := by
  unfold mulB
  rfl
@[irreducible] def divB (b : Int) : Bool := divOk b
theorem divB_eq (b : Int) : divB b = divOk b := by
  unfold divB
  rfl
@[irreducible] def powB (a b : Int) : Bool := powOk a b
theorem powB_eq (a b : Int) : powB a b = powOk a b := by
  unfold powB
  rfl
def X.mul (a b : Int) : X Int := if mulB a b then .ok (a * b) else .no
def X.fdiv (a b : Int) : X Int := if divB b then .ok (a / b) else .no
def X.mod (a b : Int) : X Int := if 0 < b then .ok (a % b) else .no
def X.pow (a b : Int) : X Int := if powB a b then .ok (a ^ b.toNat) else .no
theorem os_mul {a b : Int} : OpS (opl2 .mul [.int a, .int b]) (X.mul a b) fun c => .d (.int c) := by
  unfold X.mul
  rw [mulB_eq]
  show OpS (if mulOk a b then _ else _) _ _
  split <;> first
    | trivial
    | exact rfl
theorem os_fdiv {a b : Int} : OpS (opl2 .fdiv [.int a, .int b]) (X.fdiv a b) fun c => .d (.int c) := by
  unfold X.fdiv
  rw [divB_eq]
  show OpS (if divOk b then _ else _) _ _
  split <;> first
    | trivial
    | exact rfl
theorem os_mod {a b : Int} : OpS (opl2 .mod [.int a, .int b]) (X.mod a b) fun c => .d (.int c) := by
  unfold X.mod
  show OpS (if 0 < b then _ else _) _ _
  split <;> first
    | trivial
    | exact rfl
theorem os_pow {a b : Int} : OpS (opl2 .pow [.int a, .int b]) (X.pow a b) fun c => .d (.int c) := by
  unfold X.pow
  rw [powB_eq]
  show OpS (if powOk a b then _ else _) _ _
  split <;> first
    | trivial
    | exact rfl
theorem op_fdivK {a b : Int} (h : divOk b = true) : (opl2 .fdiv [.int a, .int b]).bind poOf = some (.d (.int (a / b))) := by
  show (if divOk b then some (Vl.d (.int (a / b))) else none).bind poOf = _
  rw [if_pos h]
  rfl
theorem op_modK {a b : Int} (h : decide (0 < b) = true) : (opl2 .mod [.int a, .int b]).bind poOf = some (.d (.int (a % b))) := by
  show (if 0 < b then some (Vl.d (.int (a % b))) else none).bind poOf = _
  rw [if_pos (of_decide_eq_true h)]
  rfl
theorem op_powK {a b r : Int} (h : powOk a b = true) (e : a ^ b.toNat = r) : (opl2 .pow [.int a, .int b]).bind poOf = some (.d (.int r)) := by
  show (if powOk a b then some (Vl.d (.int (a ^ b.toNat))) else none).bind poOf = _
  rw [if_pos h, e]
  rfl
/-! ### flat data -/
def Fla (n : Nat) (e : α → D) : Prop := ∀ k x, D.flat (k + n) (e x) = true
theorem fla_int : Fla 0 D.int := fun k x => by simp only [D.flat]
theorem fla_bl : Fla 0 D.bl := fun k x => by simp only [D.flat]
theorem fla_str : Fla 0 D.str := fun k x => by simp only [D.flat]
theorem fla_non : Fla 0 eN := fun k x => by simp only [eN, D.flat]
theorem flats_map {n : Nat} {e : α → D} (h : Fla n e) (k : Nat) : ∀ xs : List α, D.flats (k + n) (xs.map e) = true
  | [] => by simp only [List.map_nil, D.flats]
  | x :: xs => by simp only [List.map_cons, D.flats, h k x, flats_map h k xs, Bool.and_self]
theorem fla_L {n : Nat} {e : α → D} (h : Fla n e) : Fla (n + 1) (eL e) := fun k x => by
  show D.flat (k + n + 1) (.lst (x.map e)) = true
  simp only [D.flat, flats_map h]
theorem fla_V {n : Nat} {e : α → D} (h : Fla n e) : Fla (n + 1) (eV e) := fun k x => by
  show D.flat (k + n + 1) (.tup (x.map e)) = true
  simp only [D.flat, flats_map h]
theorem fla_O {n : Nat} {e : α → D} (h : Fla n e) : Fla n (eO e) := fun k x => by
  cases x with
  | none => simp only [eO, D.flat]
  | some x => exact h k x
theorem fla_up {n m : Nat} {e : α → D} (h : Fla n e) (l : n ≤ m) : Fla m e := fun k x => by
  obtain ⟨d, rfl⟩ := Nat.exists_eq_add_of_le l
  rw [show k + (n + d) = (k + d) + n by omega]
  exact h _ x
theorem fla_T2 {n : Nat} {a : α → D} {b : β → D} (h1 : Fla n a) (h2 : Fla n b) : Fla (n + 1) (eT2 a b) := fun k x => by
  show D.flat (k + n + 1) (.tup [_, _]) = true
  simp only [D.flat, D.flats, h1 k, h2 k, Bool.and_self]
theorem fla_T3 {n : Nat} {a : α → D} {b : β → D} {c : γ → D} (h1 : Fla n a) (h2 : Fla n b) (h3 : Fla n c) : Fla (n + 1) (eT3 a b c) := fun k x => by
  show D.flat (k + n + 1) (.tup [_, _, _]) = true
  simp only [D.flat, D.flats, h1 k, h2 k, h3 k, Bool.and_self]
theorem fla_deep {n : Nat} {e : α → D} (h : Fla n e) (l : n ≤ 40) (x : α) : D.flat D.deep (e x) = true := by
  have := h (40 - n) x
  rw [show 40 - n + n = 40 by omega] at this
  exact this
/-! ### alike -/
theorem op_eqS {a b : Str} : (opl2 .eq [.str a, .str b]).bind poOf = some (.d (.bl (a == b))) := by
  show (op2 .eq (.str a) (.str b)).bind poOf = _
  simp only [op2, D.flat, Bool.and_self, if_true, D.eqv, bool2]
  rfl
theorem op_neS {a b : Str} : (opl2 .ne [.str a, .str b]).bind poOf = some (.d (.bl (!(a == b)))) := by
  show (op2 .ne (.str a) (.str b)).bind poOf = _
  simp only [op2, D.flat, Bool.and_self, if_true, D.eqv, bool2]
  rfl
def X.eqD (x y : D) : X Bool := if D.flat D.deep x && D.flat D.deep y then .ok (D.eqv x y) else .no
def notII : D → D → Bool
  | .int _, .int _ => false
  | _, _ => true
theorem os_eq {x y : D} : OpS (opl2 .eq [x, y]) (X.eqD x y) fun c => .d (.bl c) := by
  unfold X.eqD
  by_cases h : (D.flat D.deep x && D.flat D.deep y) = true
  · rw [if_pos h]
    show (op2 .eq x y).bind poOf = _
    cases x <;> cases y <;> first
      | rfl
      | (simp only [op2, h, if_true, bool2]; rfl)
      | (simp only [op2, opII, bool2, D.eqv]; rfl)
  · rw [if_neg h]
    trivial
theorem os_ne {x y : D} : OpS (opl2 .ne [x, y]) ((X.eqD x y).bind fun b => .ok (!b)) fun c => .d (.bl c) := by
  unfold X.eqD
  by_cases h : (D.flat D.deep x && D.flat D.deep y) = true
  · rw [if_pos h]
    show (op2 .ne x y).bind poOf = some (Po.d (.bl (!D.eqv x y)))
    cases x <;> cases y <;> first
      | rfl
      | (simp only [op2, h, if_true, bool2]; rfl)
      | (simp only [op2, opII, bool2, D.eqv]; rfl)
  · rw [if_neg h]
    trivial
theorem op_emptyEq {e : α → D} {n : Nat} {xs : List α} (h : Fla n e) (l : n ≤ 39) : (opl2 .eq [.lst (xs.map e), .lst []]).bind poOf = some (.d (.bl xs.isEmpty)) := by
  have f := fla_deep (fla_L h) (by omega) xs
  have f2 : D.flat D.deep (.lst []) = true := by simp only [D.deep, D.flat, D.flats]
  simp only [opl2]
  simp only [op2, f, f2, Bool.and_self, if_true, bool2]
  cases xs with
  | nil => simp only [List.map_nil, D.eqv, D.eqvs, List.isEmpty_nil]; rfl
  | cons x xs => simp only [List.map_cons, D.eqv, D.eqvs, List.isEmpty_cons]; rfl
theorem op_emptyNe {e : α → D} {n : Nat} {xs : List α} (h : Fla n e) (l : n ≤ 39) : (opl2 .ne [.lst (xs.map e), .lst []]).bind poOf = some (.d (.bl (!xs.isEmpty))) := by
  have f := fla_deep (fla_L h) (by omega) xs
  have f2 : D.flat D.deep (.lst []) = true := by simp only [D.deep, D.flat, D.flats]
  simp only [opl2]
  simp only [op2, f, f2, Bool.and_self, if_true, bool2]
  cases xs with
  | nil => simp only [List.map_nil, D.eqv, D.eqvs, List.isEmpty_nil]; rfl
  | cons x xs => simp only [List.map_cons, D.eqv, D.eqvs, List.isEmpty_cons]; rfl
theorem op_inS {a : Str} {xs : List Str} : (opl2 .inn [.str a, .lst (xs.map D.str)]).bind poOf = some (.d (.bl (xs.any (· == a)))) := by
  have f : D.flats D.deep (xs.map D.str) = true := flats_map fla_str 40 xs
  simp only [opl2]
  simp only [op2, D.flat, f, Bool.and_self, if_true, bool2]
  show some (Po.d (.bl _)) = _
  congr 3
  induction xs with
  | nil => rfl
  | cons y ys ih => rw [List.map_cons, List.any_cons, List.any_cons, ih (flats_map fla_str 40 ys)]; simp only [D.eqv]
theorem op_ninS {a : Str} {xs : List Str} : (opl2 .nin [.str a, .lst (xs.map D.str)]).bind poOf = some (.d (.bl (!xs.any (· == a)))) := by
  have f : D.flats D.deep (xs.map D.str) = true := flats_map fla_str 40 xs
  simp only [opl2]
  simp only [op2, D.flat, f, Bool.and_self, if_true, bool2]
  show some (Po.d (.bl _)) = _
  congr 4
  induction xs with
  | nil => rfl
  | cons y ys ih => rw [List.map_cons, List.any_cons, List.any_cons, ih (flats_map fla_str 40 ys)]; simp only [D.eqv]
theorem op_inSS {a b : Str} : (opl2 .inn [.str a, .str b]).bind poOf = some (.d (.bl (inStr a b))) := rfl
/-- any operation upon data -/
def X.opD (o : Op2) (x y : D) : X D := match (op2 o x y).bind poOf with
  | some (.d z) => .ok z
  | _ => .no
theorem os_opD {o : Op2} {x y : D} : OpS (opl2 o [x, y]) (X.opD o x y) fun c => .d c := by
  unfold X.opD
  show OpS (op2 o x y) _ _
  cases h : (op2 o x y).bind poOf with
  | none => trivial
  | some r =>
    cases r with
    | d z => exact h
    | n z => trivial
    | v z => trivial
def X.cmpD (o : Op2) (x y : D) : X Bool := match (op2 o x y).bind poOf with
  | some (.d (.bl b)) => .ok b
  | _ => .no
theorem os_cmpD {o : Op2} {x y : D} : OpS (opl2 o [x, y]) (X.cmpD o x y) fun c => .d (.bl c) := by
  unfold X.cmpD
  show OpS (op2 o x y) _ _
  cases h : (op2 o x y).bind poOf with
  | none => trivial
  | some r =>
    cases r with
    | d z =>
      cases z with
      | bl b => exact h
      | _ => trivial
    | n z => trivial
    | v z => trivial
def isNonD : D → Bool
  | .non => true
  | _ => false
theorem op_isN {x : D} : (opl1 .isN [x]).bind poOf = some (.d (.bl (isNonD x))) := by
  cases x <;> rfl
theorem op_notN {x : D} : (opl1 .notN [x]).bind poOf = some (.d (.bl (!isNonD x))) := by
  cases x <;> rfl
theorem op_isNO {e : α → D} (h : ∀ x, isNonD (e x) = false) {x : Option α} : (opl1 .isN [eO e x]).bind poOf = some (.d (.bl x.isNone)) := by
  rw [op_isN]
  cases x with
  | none => rfl
  | some x => simp only [eO, h]; rfl
theorem op_notNO {e : α → D} (h : ∀ x, isNonD (e x) = false) {x : Option α} : (opl1 .notN [eO e x]).bind poOf = some (.d (.bl x.isSome)) := by
  rw [op_notN]
  cases x with
  | none => rfl
  | some x => simp only [eO, h]; rfl
/-! ### items -/
def X.at (xs : List α) (i : Int) : X α := match atI xs i with
  | some a => .ok a
  | none => .no
theorem atI_map (e : α → β) (xs : List α) (i : Int) : atI (xs.map e) i = (atI xs i).map e := by
  unfold atI
  rw [List.length_map]
  cases ixN xs.length i with
  | none => rfl
  | some j => simp only [Option.bind_some, List.getElem?_map]
theorem os_at {e : α → D} {xs : List α} {i : Int} : OpS (oplx [.lst (xs.map e), .int i]) (X.at xs i) fun a => .d (e a) := by
  unfold X.at
  show OpS ((atI (xs.map e) i).map Vl.d) _ _
  rw [atI_map]
  cases atI xs i with
  | none => trivial
  | some a => exact rfl
theorem os_atV {e : α → D} {xs : List α} {i : Int} : OpS (oplx [.tup (xs.map e), .int i]) (X.at xs i) fun a => .d (e a) := by
  unfold X.at
  show OpS ((atI (xs.map e) i).map Vl.d) _ _
  rw [atI_map]
  cases atI xs i with
  | none => trivial
  | some a => exact rfl
def chS (c : Nat) : Str := ⟨#[c]⟩
theorem os_atS {z : Str} {i : Int} : OpS (oplx [.str z, .int i]) (X.at z.cps.toList i) fun c => .d (.str (chS c)) := by
  unfold X.at
  show OpS ((atI z.cps.toList i).map _) _ _
  cases atI z.cps.toList i with
  | none => trivial
  | some a => exact rfl
def X.atD (x : D) (i : Int) : X D := match (idx x (.int i)).bind poOf with
  | some (.d z) => .ok z
  | _ => .no
theorem os_atD {x : D} {i : Int} : OpS (oplx [x, .int i]) (X.atD x i) fun c => .d c := by
  unfold X.atD
  show OpS (idx x (.int i)) _ _
  cases h : (idx x (.int i)).bind poOf with
  | none => trivial
  | some r =>
    cases r with
    | d z => exact h
    | n z => trivial
    | v z => trivial
/-! ### built-ins -/
theorem op_len {e : α → D} {xs : List α} : (bi .len [.lst (xs.map e)]).bind poOf = some (.d (.int xs.length)) := by
  show some (Po.d (.int ((xs.map e).length : Nat))) = _
  rw [List.length_map]
theorem op_lenV {e : α → D} {xs : List α} : (bi .len [.tup (xs.map e)]).bind poOf = some (.d (.int xs.length)) := by
  show some (Po.d (.int ((xs.map e).length : Nat))) = _
  rw [List.length_map]
theorem ints_map : ∀ xs : List Int, D.ints? (xs.map D.int) = some xs
  | [] => rfl
  | x :: xs => by simp only [List.map_cons, D.ints?, ints_map xs, Option.map_some]
theorem strs_map : ∀ xs : List Str, D.strs? (xs.map D.str) = some xs
  | [] => rfl
  | x :: xs => by simp only [List.map_cons, D.strs?, strs_map xs, Option.map_some]
theorem bls_map : ∀ xs : List Bool, D.bls? (xs.map D.bl) = some xs
  | [] => rfl
  | x :: xs => by simp only [List.map_cons, D.bls?, bls_map xs, Option.map_some]
theorem op_sum {xs : List Int} : (bi .sum [.lst (xs.map D.int)]).bind poOf = some (.d (.int xs.sum)) := by
  simp only [bi, ints_map, Option.map_some]
  rfl
theorem op_all {xs : List Bool} : (bi .all [.lst (xs.map D.bl)]).bind poOf = some (.d (.bl (xs.all id))) := by
  simp only [bi, bls_map, Option.map_some]
  rfl
theorem op_any {xs : List Bool} : (bi .any [.lst (xs.map D.bl)]).bind poOf = some (.d (.bl (xs.any id))) := by
  simp only [bi, bls_map, Option.map_some]
  rfl
def X.maxL (xs : List Int) : X Int := if xs.isEmpty then .no else .ok (Pd.maxL xs)
def X.minL (xs : List Int) : X Int := if xs.isEmpty then .no else .ok (Pd.minL xs)
theorem os_maxL {xs : List Int} : OpS (bi .max [.lst (xs.map D.int)]) (X.maxL xs) fun c => .d (.int c) := by
  unfold X.maxL
  simp only [bi, ints_map, Option.bind_some]
  by_cases h : xs.isEmpty = true
  · rw [if_pos h, if_pos h]; trivial
  · rw [if_neg h, if_neg h]; exact rfl
theorem os_minL {xs : List Int} : OpS (bi .min [.lst (xs.map D.int)]) (X.minL xs) fun c => .d (.int c) := by
  unfold X.minL
  simp only [bi, ints_map, Option.bind_some]
  by_cases h : xs.isEmpty = true
  · rw [if_pos h, if_pos h]; trivial
  · rw [if_neg h, if_neg h]; exact rfl
def pmax (i j : Int) : Int := if j > i then j else i
def pmin (i j : Int) : Int := if j < i then j else i
theorem op_sortI {xs : List Int} : (bi .sorted [.lst (xs.map D.int)]).bind poOf = some (.n (.lst ((isortI xs).map D.int))) := by
  cases xs with
  | nil => rfl
  | cons x xs =>
    simp only [List.map_cons, bi, ints_map, Option.map_some]
    rfl
def X.sortS (xs : List Str) : X (List Str) := .ok (isortS xs)
theorem os_sortS {xs : List Str} : OpS (bi .sorted [.lst (xs.map D.str)]) (X.sortS xs) fun c => .n (.lst (c.map D.str)) := by
  unfold X.sortS
  cases xs with
  | nil => exact rfl
  | cons x xs =>
    show (bi .sorted [.lst (.str x :: xs.map D.str)]).bind poOf = _
    simp only [bi, strs_map, Option.map_some]
    rfl
def X.isi (ts : List Ty) (x : D) : X Bool := if x.plainTy then .ok (ts.any fun t => t.has x) else .no
theorem os_isi {ts : List Ty} {x : D} : OpS (opli ts [x]) (X.isi ts x) fun c => .d (.bl c) := by
  unfold X.isi
  show OpS (if x.plainTy then _ else _) _ _
  split <;> first
    | trivial
    | exact rfl
def X.biD (b : Bi) (ds : List D) : X D := match (bi b ds).bind poOf with
  | some (.d z) => .ok z
  | _ => .no
theorem os_biD {b : Bi} {ds : List D} : OpS (bi b ds) (X.biD b ds) fun c => .d c := by
  unfold X.biD
  cases h : (bi b ds).bind poOf with
  | none => trivial
  | some r =>
    cases r with
    | d z => exact h
    | n z => trivial
    | v z => trivial
/-- a built-in's new list -/
def X.biN (b : Bi) (ds : List D) : X (List D) := match (bi b ds).bind poOf with
  | some (.n (.lst z)) => .ok z
  | _ => .no
theorem os_biN {b : Bi} {ds : List D} : OpS (bi b ds) (X.biN b ds) fun c => .n (.lst (c.map fun x => x)) := by
  unfold X.biN
  cases h : (bi b ds).bind poOf with
  | none => trivial
  | some r =>
    cases r with
    | d z => trivial
    | n z =>
      cases z with
      | lst z => show _ = some (Po.n (.lst (z.map fun x => x))); rw [List.map_id']; exact h
      | _ => trivial
    | v z => trivial
def X.biI (b : Bi) (ds : List D) : X Int := match (bi b ds).bind poOf with
  | some (.d (.int z)) => .ok z
  | _ => .no
theorem os_biI {b : Bi} {ds : List D} : OpS (bi b ds) (X.biI b ds) fun c => .d (.int c) := by
  unfold X.biI
  cases h : (bi b ds).bind poOf with
  | none => trivial
  | some r =>
    cases r with
    | d z =>
      cases z with
      | int b => exact h
      | _ => trivial
    | n z => trivial
    | v z => trivial
/-! ### joins of rows -/
def X.app (xs ys : List α) : X (List α) := if fits (xs.length + ys.length) then .ok (xs ++ ys) else .no
theorem os_app {e : α → D} {xs ys : List α} : OpS (opl2 .add [.lst (xs.map e), .lst (ys.map e)]) (X.app xs ys) fun c => .n (.lst (c.map e)) := by
  unfold X.app
  show OpS (if (xs.map e).length + (ys.map e).length ≤ sizeLine then _ else _) _ _
  rw [List.length_map, List.length_map]
  by_cases h : fits (xs.length + ys.length) = true
  · rw [if_pos h, if_pos (fits_le h)]
    show some (Po.n (.lst (xs.map e ++ ys.map e))) = some (Po.n (.lst ((xs ++ ys).map e)))
    rw [List.map_append]
  · rw [if_neg h]
    trivial
def X.cat (a b : Str) : X Str := if fits (a.length + b.length) then .ok (a ++ b) else .no
theorem os_cat {a b : Str} : OpS (opl2 .add [.str a, .str b]) (X.cat a b) fun c => .d (.str c) := by
  unfold X.cat
  show OpS (if a.length + b.length ≤ sizeLine then _ else _) _ _
  by_cases h : fits (a.length + b.length) = true
  · rw [if_pos h, if_pos (fits_le h)]
    exact rfl
  · rw [if_neg h]
    trivial
@[irreducible] def repB (k : Int) : Bool := decide (-(2 ^ 63) ≤ k) && decide (k < 2 ^ 63)
def X.rep (xs : List α) (k : Int) : X (List α) := if repB k && fits (xs.length * k.toNat) then .ok (List.replicate k.toNat xs).flatten else .no
theorem os_rep {e : α → D} {xs : List α} {k : Int} : OpS (opl2 .mul [.lst (xs.map e), .int k]) (X.rep xs k) fun c => .n (.lst (c.map e)) := by
  unfold X.rep
  by_cases h : (repB k && fits (xs.length * k.toNat)) = true
  · rw [if_pos h]
    rw [Bool.and_eq_true] at h
    obtain ⟨h1, h2⟩ := h
    unfold repB at h1
    have h2 := fits_le h2
    have e1 : op2 .mul (.lst (xs.map e)) (.int k) = some (.new (.lst (List.replicate k.toNat (xs.map e)).flatten)) := by
      simp only [op2, List.length_map]
      rw [Bool.and_eq_true] at h1
      rw [h1.1, h1.2, decide_eq_true h2]
      rfl
    show (op2 .mul (.lst (xs.map e)) (.int k)).bind poOf = _
    rw [e1]
    show some (Po.n (.lst (List.replicate k.toNat (xs.map e)).flatten)) = some (Po.n (.lst ((List.replicate k.toNat xs).flatten.map e)))
    rw [List.map_flatten, List.map_replicate]
  · rw [if_neg h]
    trivial
@[irreducible] def joinB (n : Nat) : Bool := decide (n ≤ 16777216)
def X.join (a : Str) (xs : List Str) : X Str := if joinB ((xs.map (·.length)).sum + xs.length * a.length) then .ok (Str.join a xs) else .no
theorem os_join {a : Str} {xs : List Str} : OpS (bmP .join (.str a) [.lst (xs.map D.str)]) (X.join a xs) fun c => .d (.str c) := by
  unfold X.join joinB
  by_cases h : (xs.map (·.length)).sum + xs.length * a.length ≤ 16777216
  · rw [if_pos (decide_eq_true h)]
    show (joinP (.str a) [.lst (xs.map D.str)]).bind poOf = _
    simp only [joinP, strs_map, Option.bind_some]
    rw [if_pos h]
    rfl
  · rw [if_neg (by simpa using h)]
    trivial
/-! ### slices -/
def cutL (xs : List α) (lo hi : Option Int) : List α := cutD xs lo hi
theorem cutD_map (e : α → D) (xs : List α) (lo hi : Option Int) : cutD (xs.map e) lo hi = (cutD xs lo hi).map e := by
  unfold cutD
  rw [List.length_map, List.map_take, List.map_drop]
theorem pv_sl {a lo hi : E} {x : Po} {e : α → D} {xs : List α} {l u : Option Int} (ha : PV C a s x) (hx : pder s x = some (.lst (xs.map e))) (hl : ∀ s', s' = s → poptI ((pden C lo).v s') (isTrueE lo) s' = .ok l s') (hu : ∀ s', s' = s → poptI ((pden C hi).v s') (isTrueE hi) s' = .ok u s') : PV C (.sl a lo hi) s (.n (.lst ((cutD xs l u).map e))) := by
  show ((pden C a).v s).bind _ = _
  rw [ha]
  show (poptI ((pden C lo).v s) (isTrueE lo) s).bind _ = _
  rw [hl s rfl]
  show (poptI ((pden C hi).v s) (isTrueE hi) s).bind _ = _
  rw [hu s rfl]
  show RP.lift (((pder s x).bind fun x => slice x l u).bind poOf) s = _
  rw [hx]
  show RP.lift (some (Po.n (.lst (cutD (xs.map e) l u)))) s = _
  rw [cutD_map]
  rfl
theorem psl_none {s' : Pvs} {r : RP Po} : poptI r true s' = .ok none s' := by
  cases r <;> rfl
theorem psl_some {e : E} {i : Int} (h : PV C e s (.d (.int i))) : poptI ((pden C e).v s) false s = .ok (some i) s := by
  show ((pden C e).v s).bind _ = _
  rw [h]
  rfl
/-! ### truth -/
theorem tr_L {e : α → D} {xs : List α} : D.truth (.lst (xs.map e)) = some (!xs.isEmpty) := by
  show some (!(xs.map e).isEmpty) = _
  cases xs <;> rfl
theorem tr_V {e : α → D} {xs : List α} : D.truth (.tup (xs.map e)) = some (!xs.isEmpty) := by
  show some (!(xs.map e).isEmpty) = _
  cases xs <;> rfl
def X.truth (d : D) : X Bool := match D.truth d with
  | some b => .ok b
  | none => .no
theorem tf_D {e : E} {m : X α} {w : α → Po} {sr : α → Pvs} {d : α → D} (ht : tDef C e) (h : EF C e s m w sr) (hd : ∀ a, pder (sr a) (w a) = some (d a)) {k : α → Bool → γ} {vb : γ → Bool} {sr' : γ → Pvs} (h1 : ∀ a b, vb (k a b) = b) (h2 : ∀ a b, sr' (k a b) = sr a) :
    TF C e s (m.bind fun a => (X.truth (d a)).bind fun b => .ok (k a b)) vb sr' := by
  show XR ((pden C e).t s) _ _ _
  rw [ht]
  refine h.bind fun a => ?_
  rw [hd]
  show XR (RP.lift (D.truth (d a)) (sr a)) _ _ _
  unfold X.truth
  cases D.truth (d a) with
  | none => trivial
  | some b =>
    show RP.ok _ _ = RP.ok _ _
    rw [h1, h2]
/-- a chain of pure things -/
theorem ef_chain {o p : Op2} {a b c : E} {x y z : Po} {dx dy dz : D} {m1 m2 : X Bool} (ha : PV C a s x) (hb : PV C b s y) (hc : PV C c s z) (h1 : pder s x = some dx) (h2 : pder s y = some dy) (h3 : pder s z = some dz)
    (o1 : OpS (op2 o dx dy) m1 fun c => .d (.bl c)) (o2 : OpS (op2 p dy dz) m2 fun c => .d (.bl c)) : EF C (.chain o p a b c) s (m1.bind fun b => if b = true then m2 else .ok false) (fun c => .d (.bl c)) fun _ => s := by
  show XR (((pden C a).v s).bind fun x s1 => ((pden C b).v s1).bind _) _ _ _
  rw [ha]
  show XR (((pden C b).v s).bind _) _ _ _
  rw [hb]
  show XR (match (pder s x).bind fun x => (pder s y).bind fun y => (op2 o x y).bind asB with
      | some true => _
      | some false => _
      | none => _) _ _ _
  rw [h1, h2]
  show XR (match (op2 o dx dy).bind asB with
      | some true => _
      | some false => _
      | none => _) _ _ _
  cases m1 with
  | no => trivial
  | exc _ _ => exact o1.elim
  | ok b1 =>
    have e : (op2 o dx dy).bind asB = some b1 := by
      have o1 : (op2 o dx dy).bind poOf = some (.d (.bl b1)) := o1
      cases eo : op2 o dx dy with
      | none => rw [eo] at o1; cases o1
      | some v =>
        rw [eo] at o1
        cases v with
        | d x => cases o1; rfl
        | new x => cases o1
        | loc x => cases o1
    rw [e]
    cases b1 with
    | false => exact rfl
    | true =>
      show XR (((pden C c).v s).bind _) _ _ _
      rw [hc]
      show XR (RP.lift (((pder s y).bind fun y => (pder s z).bind fun z => op2 p y z).bind poOf) s) _ _ _
      rw [h2, h3]
      exact XR.lift0 o2
end
end Pd

/-! Me4: mirrors: the rules as gen2.py uses them. -/
namespace Pd
open PySem PySem.Spec PyProof.Rows L2
section
variable {C : Nat → List Pv → RF} {s : Pvs} {α β γ δ ε σ ρ : Type}
theorem ef_op1 {o : Op1} {a : E} {m : X α} {w : α → Po} {sr : α → Pvs} (h : XR (nary C (opl1 o) (.cons a .nil) s) m w sr) : EF C (.op1 o a) s m w sr := by
  show XR _ _ _ _
  rw [v_op1]
  exact h
theorem ef_op2 {o : Op2} {a b : E} {m : X α} {w : α → Po} {sr : α → Pvs} (h : XR (nary C (opl2 o) (.cons a (.cons b .nil)) s) m w sr) : EF C (.op2 o a b) s m w sr := by
  show XR _ _ _ _
  rw [v_op2]
  exact h
theorem ef_idx {a b : E} {m : X α} {w : α → Po} {sr : α → Pvs} (h : XR (nary C oplx (.cons a (.cons b .nil)) s) m w sr) : EF C (.idx a b) s m w sr := by
  show XR _ _ _ _
  rw [v_idx]
  exact h
theorem ef_isi {ts : List Ty} {a : E} {m : X α} {w : α → Po} {sr : α → Pvs} (h : XR (nary C (opli ts) (.cons a .nil) s) m w sr) : EF C (.isi ts a) s m w sr := by
  show XR _ _ _ _
  rw [v_isi]
  exact h
theorem ef_bi {b : Bi} {as : E} {m : X α} {w : α → Po} {sr : α → Pvs} (h : XR (nary C (bi b) as s) m w sr) : EF C (.bi b as) s m w sr := h
theorem pv_op1 {o : Op1} {a : E} {x : Po} {d : D} {r : Po} (ha : PV C a s x) (h1 : pder s x = some d) (h : (opl1 o [d]).bind poOf = some r) : PV C (.op1 o a) s r := by
  show (pden C (.op1 o a)).v s = _
  rw [v_op1]
  exact pv_nary (pvs_cons ha pvs_nil) (by simp only [pders, pder_frz, h1]; rfl) h
theorem pv_op2 {o : Op2} {a b : E} {x y : Po} {d e : D} {r : Po} (ha : PV C a s x) (hb : PV C b s y) (h1 : pder s x = some d) (h2 : pder s y = some e) (h : (opl2 o [d, e]).bind poOf = some r) : PV C (.op2 o a b) s r := by
  show (pden C (.op2 o a b)).v s = _
  rw [v_op2]
  exact pv_nary (pvs_cons ha (pvs_cons hb pvs_nil)) (by simp only [pders, pder_frz, h1, h2]; rfl) h
theorem pv_idx {a b : E} {x y : Po} {d e : D} {r : Po} (ha : PV C a s x) (hb : PV C b s y) (h1 : pder s x = some d) (h2 : pder s y = some e) (h : (oplx [d, e]).bind poOf = some r) : PV C (.idx a b) s r := by
  show (pden C (.idx a b)).v s = _
  rw [v_idx]
  exact pv_nary (pvs_cons ha (pvs_cons hb pvs_nil)) (by simp only [pders, pder_frz, h1, h2]; rfl) h
theorem pv_isi {ts : List Ty} {a : E} {x : Po} {d : D} {r : Po} (ha : PV C a s x) (h1 : pder s x = some d) (h : (opli ts [d]).bind poOf = some r) : PV C (.isi ts a) s r := by
  show (pden C (.isi ts a)).v s = _
  rw [v_isi]
  exact pv_nary (pvs_cons ha pvs_nil) (by simp only [pders, pder_frz, h1]; rfl) h
theorem pv_bi1 {b : Bi} {a : E} {x : Po} {d : D} {r : Po} (ha : PV C a s x) (h1 : pder s x = some d) (h : (bi b [d]).bind poOf = some r) : PV C (.bi b (.cons a .nil)) s r :=
  pv_nary (pvs_cons ha pvs_nil) (by simp only [pders, pder_frz, h1]; rfl) h
theorem pv_bi2 {b : Bi} {a c : E} {x y : Po} {d e : D} {r : Po} (ha : PV C a s x) (hc : PV C c s y) (h1 : pder s x = some d) (h2 : pder s y = some e) (h : (bi b [d, e]).bind poOf = some r) : PV C (.bi b (.cons a (.cons c .nil))) s r :=
  pv_nary (pvs_cons ha (pvs_cons hc pvs_nil)) (by simp only [pders, pder_frz, h1, h2]; rfl) h
theorem ef_tup {as : E} {m : X α} {w : α → Po} {sr : α → Pvs} (h : XR (((pden C as).a s).bind tupF) m w sr) : EF C (.tup as) s m w sr := h
theorem ef_lst {as : E} {m : X α} {w : α → Po} {sr : α → Pvs} (h : XR (((pden C as).a s).bind lstF) m w sr) : EF C (.lst as) s m w sr := h
theorem ef_call {f : Nat} {as : E} {m : X α} {w : α → Po} {sr : α → Pvs} (h : XR (((pden C as).a s).bind fun xs s1 => pcall C f xs s1) m w sr) : EF C (.call f as) s m w sr := h
/-- other words for the same outcome -/
theorem XR.as {r : RP δ} {m : X α} {g g' : α → δ} {sr sr' : α → Pvs} (h : XR r m g sr) (h1 : ∀ a, g a = g' a) (h2 : ∀ a, sr a = sr' a) : XR r m g' sr' := by
  have e1 : g = g' := funext h1
  have e2 : sr = sr' := funext h2
  subst e1; subst e2
  exact h
theorem XR.ok_ {r : RP δ} {a : α} {g : α → δ} {sr : α → Pvs} {x : δ} (h : r = .ok x s) (h1 : g a = x) (h2 : sr a = s) : XR r (.ok a) g sr := by
  show r = .ok (g a) (sr a)
  rw [h, h1, h2]
theorem PV.to {e : E} {x : Po} {a : α} {w : α → Po} {sr : α → Pvs} (h : PV C e s x) (h1 : w a = x) (h2 : sr a = s) : EF C e s (.ok a) w sr := XR.ok_ h h1 h2
theorem TV.to {e : E} {x : Bool} {a : α} {w : α → Bool} {sr : α → Pvs} (h : TV C e s x) (h1 : w a = x) (h2 : sr a = s) : TF C e s (.ok a) w sr := XR.ok_ h h1 h2
/-- a value behind a bound one -/
theorem ef_then {e : E} {m : X α} {w : α → Po} {sr : α → Pvs} {k : α → β} {w' : β → Po} {sr' : β → Pvs} (h : EF C e s m w sr) (h1 : ∀ a, w' (k a) = w a) (h2 : ∀ a, sr' (k a) = sr a) : EF C e s (m.bind fun a => .ok (k a)) w' sr' := by
  cases m with
  | no => trivial
  | exc c fs => exact h
  | ok a =>
    have h : (pden C e).v s = .ok (w a) (sr a) := h
    show (pden C e).v s = .ok (w' (k a)) (sr' (k a))
    rw [h, h1, h2]
theorem tf_then {e : E} {m : X α} {w : α → Bool} {sr : α → Pvs} {k : α → β} {w' : β → Bool} {sr' : β → Pvs} (h : TF C e s m w sr) (h1 : ∀ a, w' (k a) = w a) (h2 : ∀ a, sr' (k a) = sr a) : TF C e s (m.bind fun a => .ok (k a)) w' sr' := by
  cases m with
  | no => trivial
  | exc c fs => exact h
  | ok a =>
    have h : (pden C e).t s = .ok (w a) (sr a) := h
    show (pden C e).t s = .ok (w' (k a)) (sr' (k a))
    rw [h, h1, h2]
/-! ### comprehensions -/
theorem turn_no {e : Pvs → RP Po} {m : X α} {ve : α → Po} {se : α → Pvs} {k : α → γ} {o : γ → Option β} {er : β → D} {sr : γ → Pvs} {y : α → β} (h : XR (e s) m ve se) (h1 : ∀ a, ptoD (se a) (ve a) = some (er (y a), sr (k a))) (h2 : ∀ a, o (k a) = some (y a)) :
    XR (plcT (fun s => RP.ok true s) e s) (m.bind fun a => .ok (k a)) (fun c => (o c).map er) sr := by
  show XR ((e s).bind fun y s3 => _) _ _ _
  refine h.bind fun a => ?_
  show XR (match ptoD (se a) (ve a) with
    | some (yd, s4) => RP.ok (some yd) s4
    | none => .no) _ _ _
  rw [h1]
  show RP.ok _ _ = RP.ok _ _
  simp only [h2, Option.map_some]
theorem turn_if {c : Pvs → RP Bool} {e : Pvs → RP Po} {mc : X δ} {vc : δ → Bool} {sc : δ → Pvs} {m : δ → X α} {ve : δ → α → Po} {se : δ → α → Pvs} {k : δ → α → γ} {z : δ → γ} {o : γ → Option β} {er : β → D} {sr : γ → Pvs} {y : δ → α → β} (hc : XR (c s) mc vc sc) (h : ∀ b, XR (e (sc b)) (m b) (ve b) (se b))
    (h1 : ∀ b a, ptoD (se b a) (ve b a) = some (er (y b a), sr (k b a))) (h2 : ∀ b a, o (k b a) = some (y b a)) (h3 : ∀ b, o (z b) = none) (h4 : ∀ b, sr (z b) = sc b) :
    XR (plcT c e s) (mc.bind fun b => if vc b = true then (m b).bind fun a => .ok (k b a) else .ok (z b)) (fun c => (o c).map er) sr := by
  unfold plcT
  refine hc.bind fun b => ?_
  by_cases hb : vc b = true
  · rw [if_pos hb, if_pos hb]
    refine (h b).bind fun a => ?_
    rw [h1]
    show RP.ok _ _ = RP.ok _ _
    simp only [h2, Option.map_some]
  · rw [if_neg hb, if_neg hb]
    show RP.ok _ _ = RP.ok _ _
    simp only [h3, h4, Option.map_none]
theorem turn_noE {e : E} {m : X α} {ve : α → Po} {se : α → Pvs} {k : α → γ} {o : γ → Option β} {er : β → D} {sr : γ → Pvs} {y : α → β} (h : EF C e s m ve se) (h1 : ∀ a, ptoD (se a) (ve a) = some (er (y a), sr (k a))) (h2 : ∀ a, o (k a) = some (y a)) :
    XR (plcT (if isTrueE E.nil then fun s => RP.ok true s else (pden C E.nil).t) (pden C e).v s) (m.bind fun a => .ok (k a)) (fun c => (o c).map er) sr := turn_no h h1 h2
theorem turn_ifE {c e : E} {mc : X δ} {vc : δ → Bool} {sc : δ → Pvs} {m : δ → X α} {ve : δ → α → Po} {se : δ → α → Pvs} {k : δ → α → γ} {z : δ → γ} {o : γ → Option β} {er : β → D} {sr : γ → Pvs} {y : δ → α → β} (hn : isTrueE c = false) (hc : TF C c s mc vc sc) (h : ∀ b, EF C e (sc b) (m b) (ve b) (se b))
    (h1 : ∀ b a, ptoD (se b a) (ve b a) = some (er (y b a), sr (k b a))) (h2 : ∀ b a, o (k b a) = some (y b a)) (h3 : ∀ b, o (z b) = none) (h4 : ∀ b, sr (z b) = sc b) :
    XR (plcT (if isTrueE c then fun s => RP.ok true s else (pden C c).t) (pden C e).v s) (mc.bind fun b => if vc b = true then (m b).bind fun a => .ok (k b a) else .ok (z b)) (fun c => (o c).map er) sr := by
  rw [hn]
  exact turn_if hc h h1 h2 h3 h4
/-- quiet -/
theorem ef_lcQ {own : List Nat} {t : T} {it c e : E} {mi : X α} {si : α → Pvs} {xs : α → List β} {en : β → D} {g : α → Pg1} {f : α → β → X (Option γ)} {er : γ → D} {sw : α → Pvs} {s2 : α → Pvs} {k : α → List γ → δ} {w : δ → Po} {sr : δ → Pvs} (hi : IF C it s mi (fun a => ((xs a).map en, g a)) si) (hw : t.within own = true) (h0 : ∀ a, pwipe (si a) own = sw a) (hg : ∀ a, pchkG (g a) (sw a) = true)
    (hx : ∀ a x, ∃ s1, pbindT t (en x) (sw a) = some s1 ∧ ∃ st : Option γ → Pvs, XR (plcT (if isTrueE c then fun s => .ok true s else (pden C c).t) (pden C e).v s1) (f a x) (fun o => o.map er) st ∧ ∀ o, pwipe (st o) own = sw a)
    (hr : ∀ a, prest (si a) (sw a) own = s2 a) (h1 : ∀ a b, w (k a b) = .n (.lst (b.map er))) (h2 : ∀ a b, sr (k a b) = s2 a) : EF C (.lc own t it c e) s (mi.bind fun a => (X.mapO (xs a) (f a)).bind fun ys => .ok (k a ys)) w sr := by
  refine ef_lc (ys := fun b => b.map er) (s2 := fun a _ => sw a) hi hw (fun a => ?_) h1 fun a b => by rw [hr, h2]
  have z := plc_quiet (hg a) (hx a) (xs a)
  rw [h0]
  cases hm : X.mapO (xs a) (f a) with
  | no => trivial
  | exc _ _ => rw [hm] at z; exact z
  | ok ys => rw [hm] at z; exact z
/-- as a row that is only told -/
theorem ef_lcQ0 {own : List Nat} {t : T} {it c e : E} {xs : List β} {en : β → D} {g : Pg1} {f : β → X (Option γ)} {er : γ → D} {sw : Pvs} (hi : IV C it s (xs.map en, g)) (hw : t.within own = true) (h0 : pwipe s own = sw) (hg : pchkG g sw = true)
    (hx : ∀ x, ∃ s1, pbindT t (en x) sw = some s1 ∧ ∃ st : Option γ → Pvs, XR (plcT (if isTrueE c then fun s => .ok true s else (pden C c).t) (pden C e).v s1) (f x) (fun o => o.map er) st ∧ ∀ o, pwipe (st o) own = sw)
    (hr : prest s sw own = s) : EF C (.lc own t it c e) s (X.mapO xs f) (fun b => .n (.lst (b.map er))) fun _ => s := by
  have z := ef_lcQ (mi := .ok ()) (si := fun _ => s) (xs := fun _ => xs) (g := fun _ => g) (f := fun _ => f) (sw := fun _ => sw) (s2 := fun _ => s) (k := fun _ b => b) (w := fun b => .n (.lst (b.map er))) (sr := fun _ => s) hi.if_ hw (fun _ => h0) (fun _ => hg) (fun _ => hx) (fun _ => hr) (fun _ _ => rfl) (fun _ _ => rfl)
  have z : EF C (.lc own t it c e) s ((X.mapO xs f).bind fun ys => .ok ys) (fun b => .n (.lst (b.map er))) fun _ => s := z
  cases hm : X.mapO xs f with
  | no => trivial
  | exc _ _ => rw [hm] at z; exact z
  | ok ys => rw [hm] at z; exact z
/-- with a state -/
theorem ef_lcS {own : List Nat} {t : T} {it c e : E} {mi : X α} {si : α → Pvs} {xs : α → List β} {en : β → D} {g : α → Pg1} {f : α → β → σ → X (Option γ × σ)} {er : γ → D} {W : α → σ → Pvs} {s2 : α → σ → Pvs} {k : α → List γ × σ → δ} {w : δ → Po} {sr : δ → Pvs} {r : α → σ} (hi : IF C it s mi (fun a => ((xs a).map en, g a)) si) (hw : t.within own = true) (h0 : ∀ a, pwipe (si a) own = W a (r a)) (hg : ∀ a r, pchkG (g a) (W a r) = true)
    (hx : ∀ a x r, ∃ s1, pbindT t (en x) (W a r) = some s1 ∧ ∃ st : Option γ × σ → Pvs, XR (plcT (if isTrueE c then fun s => .ok true s else (pden C c).t) (pden C e).v s1) (f a x r) (fun o => o.1.map er) st ∧ ∀ o, pwipe (st o) own = W a o.2)
    (hr : ∀ a r, prest (si a) (W a r) own = s2 a r) (h1 : ∀ a b, w (k a b) = .n (.lst (b.1.map er))) (h2 : ∀ a b, sr (k a b) = s2 a b.2) : EF C (.lc own t it c e) s (mi.bind fun a => (X.mapS (xs a) (r a) (f a)).bind fun ys => .ok (k a ys)) w sr := by
  have nx : ∀ (xs : List β) (r : σ) (f : β → σ → X (Option γ × σ)), (match X.mapS xs r f with
      | .ok b => X.ok b
      | _ => .no) = X.mapS xs r f := by
    intro xs
    induction xs with
    | nil => intro r f; rfl
    | cons x xs ih =>
      intro r f
      simp only [X.mapS]
      cases f x r with
      | no => rfl
      | exc _ _ => rfl
      | ok o =>
        obtain ⟨o, r1⟩ := o
        cases o with
        | none => exact ih r1 f
        | some y =>
          dsimp only
          cases X.mapS xs r1 f <;> rfl
  have e2 : ∀ a, (match X.mapS (xs a) (r a) (f a) with
    | .ok b => X.ok b
    | _ => .no : X _) = X.mapS (xs a) (r a) (f a) := fun a => nx _ _ _
  have z := ef_lc (ys := fun b : List γ × σ => b.1.map er) (s2 := fun a b => W a b.2) (mb := fun a => match X.mapS (xs a) (r a) (f a) with
    | .ok b => .ok b
    | _ => .no) (k := k) (w := w) (sr := sr) hi hw (fun a => by
      have z := plc_gen (W := W a) (hg a) (hx a) (xs a) (r a)
      rw [h0]
      cases hm : X.mapS (xs a) (r a) (f a) with
      | no => trivial
      | exc _ _ => trivial
      | ok ys => rw [hm] at z; exact z) h1 (fun a b => by rw [hr, h2])
  simp only [e2] at z
  exact z
theorem pv_lcM {own : List Nat} {t : T} {it e : E} {xs : List α} {en : α → D} {g : Pg1} {f : α → β} {er : β → D} (hi : IV C it s (xs.map en, g)) (hw : t.within own = true) {sw : Pvs} (h0 : pwipe s own = sw) (hg : pchkG g sw = true)
    (hx : ∀ x, ∃ s1, pbindT t (en x) sw = some s1 ∧ (∃ y, PV C e s1 y ∧ ptoD s1 y = some (er (f x), s1)) ∧ pwipe s1 own = sw)
    (hr : prest s sw own = s) : PV C (.lc own t it .nil e) s (.n (.lst ((xs.map f).map er))) := by
  subst h0
  have z := pv_lc (p := fun _ => true) (c := .nil) hi hw hg (fun x => by
    obtain ⟨s1, a1, a2, a3⟩ := hx x
    exact ⟨s1, a1, rfl, a2, a3⟩) hr
  rw [List.filter_eq_self.mpr (by intros; rfl)] at z
  exact z
theorem pv_lcF {own : List Nat} {t : T} {it c e : E} {xs : List α} {en : α → D} {g : Pg1} {p : α → Bool} {f : α → β} {er : β → D} (hi : IV C it s (xs.map en, g)) (hw : t.within own = true) (hn : isTrueE c = false) {sw : Pvs} (h0 : pwipe s own = sw) (hg : pchkG g sw = true)
    (hx : ∀ x, ∃ s1, pbindT t (en x) sw = some s1 ∧ TV C c s1 (p x) ∧ (∃ y, PV C e s1 y ∧ ptoD s1 y = some (er (f x), s1)) ∧ pwipe s1 own = sw)
    (hr : prest s sw own = s) : PV C (.lc own t it c e) s (.n (.lst (((xs.filter p).map f).map er))) := by
  subst h0
  refine pv_lc (p := p) hi hw hg (fun x => ?_) hr
  obtain ⟨s1, a1, a2, a3, a4⟩ := hx x
  refine ⟨s1, a1, ?_, a3, a4⟩
  rw [hn]
  exact a2
/-! ### statements one behind another -/
variable {Z : PSm} {F : Pvs → RQ} {m : X β} {h : β → RQ → Prop} {b : S}
theorem qq_set {i : Nat} {e : E} {me : X α} {ve : α → Po} {se : α → Pvs} {y : α → D} {s2 : α → Pvs} {k : α → X β} (he : EF Z.C e s me ve se) (h1 : ∀ a, pfrz (ve a) = .d (y a)) (h2 : ∀ a, psetD (se a) i (.d (y a)) = some (s2 a)) (hk : ∀ a, QK Z b (s2 a) F (k a) h) : QK Z (.seq (.set (.n i) e) b) s F (me.bind k) h :=
  qk_seq (qk_set he fun a => set_n (h1 a) (h2 a) (hk a))
theorem qq_setP {i : Nat} {e : E} {x : Po} {y : D} {s2 : Pvs} (he : PV Z.C e s x) (h1 : pfrz x = .d y) (h2 : psetD s i (.d y) = some s2) (hk : QK Z b s2 F m h) : QK Z (.seq (.set (.n i) e) b) s F m h :=
  qk_seq (qk_setP he (set_n h1 h2 hk))
theorem qq_setT {t : T} {e : E} {me : X α} {ve : α → Po} {se : α → Pvs} {y : α → D} {s2 : α → Pvs} {k : α → X β} (he : EF Z.C e s me ve se) (h1 : ∀ a, pfrz (ve a) = .d (y a)) (h2 : ∀ a, pbindT t (y a) (se a) = some (s2 a)) (hk : ∀ a, QK Z b (s2 a) F (k a) h) : QK Z (.seq (.set t e) b) s F (me.bind k) h :=
  qk_seq (qk_set he fun a => set_t (h1 a) (h2 a) (hk a))
theorem qq_setTP {t : T} {e : E} {x : Po} {y : D} {s2 : Pvs} (he : PV Z.C e s x) (h1 : pfrz x = .d y) (h2 : pbindT t y s = some s2) (hk : QK Z b s2 F m h) : QK Z (.seq (.set t e) b) s F m h :=
  qk_seq (qk_setP he (set_t h1 h2 hk))
theorem qq_cell {i : Nat} {e : E} {me : X α} {ve : α → Po} {se : α → Pvs} {y : α → List D} {s2 : α → Pvs} {k : α → X β} (he : EF Z.C e s me ve se) (h1 : ∀ a, ve a = .n (.lst (y a))) (h2 : ∀ a, psetD (se a) i (.c (.lst (y a))) = some (s2 a)) (hk : ∀ a, QK Z b (s2 a) F (k a) h) : QK Z (.seq (.cell i e) b) s F (me.bind k) h :=
  qk_seq (qk_cell he fun a => by rw [h1]; exact cell_n (h2 a) (hk a))
theorem qq_cellP {i : Nat} {e : E} {y : List D} {s2 : Pvs} (he : PV Z.C e s (.n (.lst y))) (h2 : psetD s i (.c (.lst y)) = some s2) (hk : QK Z b s2 F m h) : QK Z (.seq (.cell i e) b) s F m h :=
  qk_seq (qk_cellP he (cell_n h2 hk))
theorem qq_ex {e : E} {me : X α} {ve : α → Po} {se : α → Pvs} {k : α → X β} (he : EF Z.C e s me ve se) (hk : ∀ a, QK Z b (se a) F (k a) h) : QK Z (.seq (.ex e) b) s F (me.bind k) h :=
  qk_seq (qk_ex he hk)
theorem qq_ret {e : E} {me : X α} {ve : α → Po} {se : α → Pvs} {k : α → X β} (he : EF Z.C e s me ve se) (hk : ∀ a, QS (.ret (ve a) (se a)) (k a) h) : QK Z (.seq (.ret e) b) s F (me.bind k) h :=
  qk_seq (qk_ret he hk)
theorem qq_retP {e : E} {x : Po} (he : PV Z.C e s x) (hk : QS (.ret x s) m h) : QK Z (.seq (.ret e) b) s F m h := qk_seq (qk_retP he hk)
theorem qq_retn (hk : QS (.ret (.d .non) s) m h) : QK Z (.seq .retn b) s F m h := hk
theorem qq_no {t : S} : QK Z t s F (.no : X β) h := trivial
theorem qq_ite {c : E} {t u : S} {mc : X α} {vc : α → Bool} {sc : α → Pvs} {ka kb : α → X β} (hc : TF Z.C c s mc vc sc) (ha : ∀ x, QK Z t (sc x) (fun s1 => (pS Z b s1).andThen F) (ka x) h) (hb : ∀ x, QK Z u (sc x) (fun s1 => (pS Z b s1).andThen F) (kb x) h) : QK Z (.seq (.ite c t u) b) s F (mc.bind fun x => if vc x = true then ka x else kb x) h :=
  qk_seq (qk_ite hc ha hb)
theorem qq_iteP {c : E} {t u : S} {x : Bool} {ka kb : X β} (hc : TV Z.C c s x) (ha : QK Z t s (fun s1 => (pS Z b s1).andThen F) ka h) (hb : QK Z u s (fun s1 => (pS Z b s1).andThen F) kb h) : QK Z (.seq (.ite c t u) b) s F (if x = true then ka else kb) h :=
  qk_seq (qk_iteP hc ha hb)
theorem qq_join {J : Type} {t : S} {mj : X α} {k : α → X β} {V : α → J → Pvs} (hj : QK Z t s .nx mj fun a q => ∃ j, q = .nx (V a j)) (hk : ∀ a j, QK Z b (V a j) F (k a) h) : QK Z (.seq t b) s F (mj.bind k) h :=
  qk_seq (qk_join (P := fun a s' => ∃ j, s' = V a j) (by
    unfold QK at hj ⊢
    cases mj with
    | no => trivial
    | exc c fs => exact hj
    | ok a =>
      obtain ⟨j, e⟩ := hj
      exact ⟨_, e, j, rfl⟩) fun a s' ⟨j, e⟩ => by
    subst e
    exact hk a j)
theorem qq_skip (k : QS (F s) m h) : QK Z .skip s F m h := k
/-- a branch goes on behind -/
theorem qq_on {t : S} {G : Pvs → RQ} {s1 : Pvs} (e : G s1 = (pS Z t s1).andThen F) (k : QK Z t s1 F m h) : QS (G s1) m h := by
  rw [e]
  exact k
theorem qq_nxJ {J : Type} {V : α → J → Pvs} {a : α} {j : J} {s1 : Pvs} (e : s1 = V a j) : QS (RQ.nx s1) (.ok a) fun a q => ∃ j, q = .nx (V a j) := ⟨j, by rw [e]⟩
theorem nary_ok {F : List D → Option Vl} {xs : List Po} {ds : List D} {r : Po} {a : γ} {w : γ → Po} {sr : γ → Pvs} (h1 : pders s xs = some ds) (h2 : (F ds).bind poOf = some r) (hw : w a = r) (hs : sr a = s) : XR (RP.lift (((pders s xs).bind F).bind poOf) s) (.ok a) w sr := by
  show _ = RP.ok _ _
  rw [h1]
  show RP.lift ((F ds).bind poOf) s = _
  rw [h2, hw, hs]
  rfl
theorem nd1 {i : Nat} : [i].Nodup := List.nodup_cons.mpr ⟨List.not_mem_nil, List.nodup_nil⟩
def mutF (m : Bm) (i : Nat) (xs : List Po) (s2 : Pvs) : RP Po := match ptoDs s2 xs with
  | some (ds, s3) => pmutate m s3 (.v i) ds
  | none => .no
theorem ef_mutF {m : Bm} {i : Nat} {p : Pv} {as : E} {mm : X α} {w : α → Po} {sr : α → Pvs} (hp : pget s i = some p) (hd : ∀ x, p ≠ .d x) (ht : bmTy m (some p.dat) = true) (hm : m.mut = true)
    (h : XR (((pden C as).a s).bind (mutF m i)) mm w sr) : EF C (.bm m (.var i) as) s mm w sr := ef_mut hp hd ht hm h
theorem mut_end {m : Bm} {i : Nat} {xs : List Po} {ds : List D} {s' : Pvs} {mm : X γ} {w : γ → Po} {sr : γ → Pvs} (h : ptoDs s xs = some (ds, s')) (k : XR (pmutate m s' (.v i) ds) mm w sr) : XR (mutF m i xs s) mm w sr := by
  unfold mutF
  rw [h]
  exact k
/-! ### junk -/
def notb : Option Pv → Bool
  | some (.b _ _) => false
  | _ => true
abbrev Jn := {o : Option Pv // notb o = true}
theorem psetJ {i : Nat} {o : Option Pv} {p : Pv} {s2 : Pvs} (hi : s[i]? = some o) (ho : notb o = true) (hs : s.set i (some p) = s2) : psetD s i p = some s2 := by
  unfold psetD
  rw [hi, hs]
  cases o with
  | none => rfl
  | some q =>
    cases q with
    | b l x => cases ho
    | d x => rfl
    | c x => rfl
theorem bt_n {i : Nat} {x : D} {s1 : Pvs} (h : psetD s i (.d x) = some s1) : pbindT (.n i) x s = some s1 := by
  simp only [pbindT, h]
theorem bt_t {r : T} {xs : List D} {s1 : Pvs} (h : pbindTs r xs s = some s1) : pbindT (.t r) (.tup xs) s = some s1 := by
  simp only [pbindT, h]
theorem bt_nil : pbindTs .t0 [] s = some s := by
  simp only [pbindTs]
theorem bt_cons {a r : T} {x : D} {xs : List D} {s1 s2 : Pvs} (h : pbindT a x s = some s1) (k : pbindTs r xs s1 = some s2) : pbindTs (.tc a r) (x :: xs) s = some s2 := by
  simp only [pbindTs, h, Option.bind_some, k]
/-! ### a row that is a list or a tuple -/
def eG (e : α → D) (p : Bool × List α) : D := if p.1 then .tup (p.2.map e) else .lst (p.2.map e)
def poG (e : α → D) (p : Bool × List α) : Po := if p.1 then .d (.tup (p.2.map e)) else .n (.lst (p.2.map e))
theorem pfrzG {e : α → D} {p : Bool × List α} : pfrz (poG e p) = .d (eG e p) := by
  unfold poG eG
  split <;> rfl
theorem pkvG {e : α → D} {p : Bool × List α} : pkv false (poG e p) = some (.d (eG e p)) := by
  unfold poG eG pkv
  cases p.1 <;> rfl
theorem op_rowG {e : α → D} {p : Bool × List α} : (opli [.list, .tuple] [eG e p]).bind poOf = some (.d (.bl true)) := by
  unfold eG
  split <;> rfl
theorem op_rowG2 {e : α → D} {p : Bool × List α} : (opli [.tuple, .list] [eG e p]).bind poOf = some (.d (.bl true)) := by
  unfold eG
  split <;> rfl
theorem op_lenG {e : α → D} {p : Bool × List α} : (bi .len [eG e p]).bind poOf = some (.d (.int p.2.length)) := by
  unfold eG
  split
  · exact op_lenV
  · exact op_len
theorem op_tupG {e : α → D} {p : Bool × List α} : (bi .tuple [eG e p]).bind poOf = some (.d (.tup (p.2.map e))) := by
  unfold eG
  split <;> rfl
theorem op_listG {e : α → D} {p : Bool × List α} : (bi .list [eG e p]).bind poOf = some (.n (.lst (p.2.map e))) := by
  unfold eG
  split <;> rfl
theorem it_G {e : α → D} {p : Bool × List α} : piterOf s (.d (eG e p)) = some (p.2.map e, []) := by
  unfold eG
  split <;> rfl
theorem sq_G {e : α → D} {p : Bool × List α} : pseqOf s (.d (eG e p)) = some (p.1, p.2.map e, []) := by
  unfold eG
  cases p.1 <;> rfl
/-! ### typed == -/
def EqE [BEq α] (n : Nat) (e : α → D) : Prop := Fla n e ∧ ∀ x y, D.eqv (e x) (e y) = (x == y)
theorem eqe_int : EqE 0 D.int := ⟨fla_int, fun x y => by simp only [D.eqv]⟩
theorem eqe_str : EqE 0 D.str := ⟨fla_str, fun x y => by simp only [D.eqv]⟩
theorem eqe_bl : EqE 0 D.bl := ⟨fla_bl, fun x y => by simp only [D.eqv]⟩
theorem eqvs_map [BEq α] {n : Nat} {e : α → D} (h : EqE n e) : ∀ xs ys : List α, D.eqvs (xs.map e) (ys.map e) = (xs == ys)
  | [], [] => by simp only [List.map_nil, D.eqvs]; rfl
  | [], y :: ys => by simp only [List.map_nil, List.map_cons, D.eqvs]; rfl
  | x :: xs, [] => by simp only [List.map_nil, List.map_cons, D.eqvs]; rfl
  | x :: xs, y :: ys => by
    simp only [List.map_cons, D.eqvs, h.2, eqvs_map h xs ys]
    rfl
theorem eqe_L [BEq α] {n : Nat} {e : α → D} (h : EqE n e) : EqE (n + 1) (eL e) := ⟨fla_L h.1, fun x y => by
  show D.eqv (.lst _) (.lst _) = _
  simp only [D.eqv, eqvs_map h]⟩
theorem eqe_V [BEq α] {n : Nat} {e : α → D} (h : EqE n e) : EqE (n + 1) (eV e) := ⟨fla_V h.1, fun x y => by
  show D.eqv (.tup _) (.tup _) = _
  simp only [D.eqv, eqvs_map h]⟩
theorem eqe_T2 [BEq α] [BEq β] {n : Nat} {a : α → D} {b : β → D} (h1 : EqE n a) (h2 : EqE n b) : EqE (n + 1) (eT2 a b) := ⟨fla_T2 h1.1 h2.1, fun x y => by
  show D.eqv (.tup [_, _]) (.tup [_, _]) = _
  simp only [D.eqv, D.eqvs, h1.2, h2.2, Bool.and_true]
  rfl⟩
theorem eqe_T3 [BEq α] [BEq β] [BEq γ] {n : Nat} {a : α → D} {b : β → D} {c : γ → D} (h1 : EqE n a) (h2 : EqE n b) (h3 : EqE n c) : EqE (n + 1) (eT3 a b c) := ⟨fla_T3 h1.1 h2.1 h3.1, fun x y => by
  show D.eqv (.tup [_, _, _]) (.tup [_, _, _]) = _
  simp only [D.eqv, D.eqvs, h1.2, h2.2, h3.2, Bool.and_true]
  rfl⟩
theorem eqe_up [BEq α] {n m : Nat} {e : α → D} (h : EqE n e) (l : n ≤ m) : EqE m e := ⟨fla_up h.1 l, h.2⟩
theorem eqd_ok [BEq α] {n : Nat} {e : α → D} (h : EqE n e) (l : n ≤ 40) (x y : α) : X.eqD (e x) (e y) = .ok (x == y) := by
  unfold X.eqD
  rw [fla_deep h.1 l x, fla_deep h.1 l y, h.2]
  rfl
theorem op_eqT [BEq α] {n : Nat} {e : α → D} (h : EqE n e) (l : decide (n ≤ 40) = true) {x y : α} : (opl2 .eq [e x, e y]).bind poOf = some (.d (.bl (x == y))) := by
  have z := os_eq (x := e x) (y := e y)
  rw [eqd_ok h (of_decide_eq_true l)] at z
  exact z
theorem op_neT [BEq α] {n : Nat} {e : α → D} (h : EqE n e) (l : decide (n ≤ 40) = true) {x y : α} : (opl2 .ne [e x, e y]).bind poOf = some (.d (.bl (!(x == y)))) := by
  have z := os_ne (x := e x) (y := e y)
  rw [eqd_ok h (of_decide_eq_true l)] at z
  exact z
/-! ### walks one behind another -/
variable {J : Type}
theorem qq_fold {t : T} {it : E} {bd : S} {mi : X α} {si : α → Pvs} {xs : α → List γ} {en : γ → D} {g : α → Pg1} {st : α → σ} {j : α → J} {f : α → γ → σ → X σ} {V V' : α → σ → J → Pvs} {k : α → σ → X β} (hi : IF Z.C it s mi (fun a => ((xs a).map en, g a)) si) (hs : ∀ a, plock (si a) (g a) = V a (st a) (j a)) (hg : ∀ a st j, pchkG (g a) (V a st j) = true)
    (hb : ∀ a x st j, ∃ s1, pbindT t (en x) (V a st j) = some s1 ∧ QK Z bd s1 .nx (f a x st) fun st q => ∃ j, q = .nx (V a st j) ∨ q = .cnt (V a st j)) (hu : ∀ a st j, punlock (si a) (V a st j) (g a) = V' a st j) (hk : ∀ a st j, QK Z b (V' a st j) F (k a st) h) :
    QK Z (.seq (.for t it bd) b) s F (mi.bind fun a => (X.fold (xs a) (st a) (f a)).bind (k a)) h :=
  qk_seq (qk_for hi fun a => fold_end (sl := []) (V' := V' a) (hs a) (hg a) (fun x st j => by
    obtain ⟨s1, h1, h2⟩ := hb a x st j
    exact ⟨s1, h1, qk_body h2⟩) (hu a) (hk a))
theorem qq_foldP {t : T} {it : E} {bd : S} {xs : List γ} {en : γ → D} {g : Pg1} {st : σ} {j : J} {f : γ → σ → X σ} {V V' : σ → J → Pvs} {k : σ → X β} (hi : IV Z.C it s (xs.map en, g)) (hs : plock s g = V st j) (hg : ∀ st j, pchkG g (V st j) = true)
    (hb : ∀ x st j, ∃ s1, pbindT t (en x) (V st j) = some s1 ∧ QK Z bd s1 .nx (f x st) fun st q => ∃ j, q = .nx (V st j) ∨ q = .cnt (V st j)) (hu : ∀ st j, punlock s (V st j) g = V' st j) (hk : ∀ st j, QK Z b (V' st j) F (k st) h) :
    QK Z (.seq (.for t it bd) b) s F ((X.fold xs st f).bind k) h :=
  qq_fold (mi := .ok ()) (si := fun _ => s) (xs := fun _ => xs) (g := fun _ => g) (st := fun _ => st) (j := fun _ => j) (f := fun _ => f) (V := fun _ => V) (V' := fun _ => V') (k := fun _ => k) hi.if_ (fun _ => hs) (fun _ => hg) (fun _ => hb) (fun _ => hu) fun _ => hk
theorem qq_loop {t : T} {it : E} {bd : S} {mi : X α} {si : α → Pvs} {xs : α → List γ} {en : γ → D} {st : α → σ} {j : α → J} {f : α → γ → σ → X (Fl ρ σ)} {V : α → σ → J → Pvs} {k : α → Fl ρ σ → X β} {hr : ρ → RQ → Prop} (hi : IF Z.C it s mi (fun a => ((xs a).map en, [])) si) (hs : ∀ a, si a = V a (st a) (j a))
    (hb : ∀ a x st j, ∃ s1, pbindT t (en x) (V a st j) = some s1 ∧ QK Z bd s1 .nx (f a x st) (LP (V a) hr)) (hk : ∀ a st j, QK Z b (V a st j) F (k a (.nx st)) h) (hret : ∀ a r x s', hr r (.ret x s') → QS (.ret x s') (k a (.ret r)) h) :
    QK Z (.seq (.for t it bd) b) s F (mi.bind fun a => (X.loop (xs a) (st a) (f a)).bind (k a)) h :=
  qk_seq (qk_for hi fun a => loop_end (V := V a) (hs a) (fun x st j => by
    obtain ⟨s1, h1, h2⟩ := hb a x st j
    exact ⟨s1, h1, qk_body h2⟩) (hk a) (hret a))
theorem qq_loopP {t : T} {it : E} {bd : S} {xs : List γ} {en : γ → D} {st : σ} {j : J} {f : γ → σ → X (Fl ρ σ)} {V : σ → J → Pvs} {k : Fl ρ σ → X β} {hr : ρ → RQ → Prop} (hi : IV Z.C it s (xs.map en, [])) (hs : s = V st j)
    (hb : ∀ x st j, ∃ s1, pbindT t (en x) (V st j) = some s1 ∧ QK Z bd s1 .nx (f x st) (LP V hr)) (hk : ∀ st j, QK Z b (V st j) F (k (.nx st)) h) (hret : ∀ r x s', hr r (.ret x s') → QS (.ret x s') (k (.ret r)) h) :
    QK Z (.seq (.for t it bd) b) s F ((X.loop xs st f).bind k) h :=
  qq_loop (mi := .ok ()) (si := fun _ => s) (xs := fun _ => xs) (st := fun _ => st) (j := fun _ => j) (f := fun _ => f) (V := fun _ => V) (k := fun _ => k) hi.if_ (fun _ => hs) (fun _ => hb) (fun _ => hk) fun _ => hret
theorem qq_whl {c : E} {bd : S} {V : σ → J → Pvs} {mc : σ → X (Bool × σ)} {f : σ → X (Fl ρ σ)} {st : σ} {j : J} {k : Fl ρ σ → X β} {hr : ρ → RQ → Prop} (hs : s = V st j) (hc : ∀ st j, TF Z.C c (V st j) (mc st) (·.1) fun p => V p.2 j) (hb : ∀ st j, QK Z bd (V st j) .nx (f st) (LP V hr))
    (hk : ∀ st j, QK Z b (V st j) F (k (.nx st)) h) (hret : ∀ r x s', hr r (.ret x s') → QS (.ret x s') (k (.ret r)) h) : QK Z (.seq (.whil c bd) b) s F ((X.whl Z.W st mc f).bind k) h :=
  qk_seq (qk_whl hs hc hb hk hret)
theorem tf_pair {c : E} {m : X Bool} {st : σ} {V : σ → Pvs} (h : TF C c s m id fun _ => s) (e : V st = s) : TF C c s (m.bind fun b => .ok (b, st)) (·.1) fun p => V p.2 := by
  cases m with
  | no => trivial
  | exc c fs => exact h
  | ok b =>
    have h : (pden C c).t s = .ok b s := h
    show (pden C c).t s = .ok b (V st)
    rw [h, e]
theorem qq_par {is : List Nat} {cs : List Bool} {es : E} (k : QS (pkF Z.C cs es s fun xs s1 => (match psetAll s1 is xs with
      | some s2 => RQ.nx s2
      | none => .no).andThen fun s1 => (pS Z b s1).andThen F) m h) : QK Z (.seq (.par is cs es) b) s F m h := qk_seq (qk_par k)
theorem par_on {is : List Nat} {xs : List Po} {s2 : Pvs} (hs : psetAll s is xs = some s2) (k : QK Z b s2 F m h) : QS ((match psetAll s is xs with
      | some s2 => RQ.nx s2
      | none => .no).andThen fun s1 => (pS Z b s1).andThen F) m h := par_end hs k
theorem sa_nil : psetAll s [] [] = some s := rfl
theorem sa_d {i : Nat} {is : List Nat} {x : D} {xs : List Po} {s1 s2 : Pvs} (h : psetD s i (.d x) = some s1) (k : psetAll s1 is xs = some s2) : psetAll s (i :: is) (.d x :: xs) = some s2 := by
  simp only [psetAll, h, Option.bind_some, k]
theorem sa_c {i : Nat} {is : List Nat} {x : List D} {xs : List Po} {s1 s2 : Pvs} (h : psetD s i (.c (.lst x)) = some s1) (k : psetAll s1 is xs = some s2) : psetAll s (i :: is) (.n (.lst x) :: xs) = some s2 := by
  simp only [psetAll, isL, if_true, h, Option.bind_some, k]
theorem qq_brk (k : QS (RQ.brk s) m h) : QK Z (.seq .brk b) s F m h := k
theorem qq_cnt (k : QS (RQ.cnt s) m h) : QK Z (.seq .cnt b) s F m h := k
theorem iv_rngK {a b : E} {l h : Int} (ha : PV C a s (.d (.int l))) (hb : PV C b s (.d (.int h))) (hr : rngOk l h = true) : IV C (.rng a b) s ((rangeI l h).map D.int, []) := by
  have z := if_rng ha hb
  unfold X.rng at z
  rw [rngB_eq, if_pos hr] at z
  exact z
def X.itD (d : D) : X (List D) := match d with
  | .lst xs => .ok xs
  | .tup xs => .ok xs
  | .str z => .ok (chars z)
  | _ => .no
theorem if_vD {e : E} {d : D} (ht : iDef C e) (h : PV C e s (.d d)) : IF C e s (X.itD d) (fun xs => (xs.map fun x => x, [])) fun _ => s := by
  show XR ((pden C e).i s) _ _ _
  rw [ht, h]
  show XR (RP.lift (piterOf s (.d d)) s) _ _ _
  cases d with
  | lst xs => show RP.ok _ _ = RP.ok _ _; simp only [List.map_id']
  | tup xs => show RP.ok _ _ = RP.ok _ _; simp only [List.map_id']
  | str z => show RP.ok _ _ = RP.ok _ _; simp only [List.map_id']
  | _ => trivial
def X.opI (o : Op2) (x y : D) : X Int := match (op2 o x y).bind poOf with
  | some (.d (.int b)) => .ok b
  | _ => .no
theorem os_opI {o : Op2} {x y : D} : OpS (opl2 o [x, y]) (X.opI o x y) fun c => .d (.int c) := by
  unfold X.opI
  show OpS (op2 o x y) _ _
  cases h : (op2 o x y).bind poOf with
  | none => trivial
  | some r =>
    cases r with
    | d z =>
      cases z with
      | int b => exact h
      | _ => trivial
    | n z => trivial
    | v z => trivial
def X.bmI (m : Bm) (d : D) (ds : List D) : X Int := match (bmP m d ds).bind poOf with
  | some (.d (.int b)) => .ok b
  | _ => .no
theorem os_bmI {m : Bm} {d : D} {ds : List D} : OpS (bmP m d ds) (X.bmI m d ds) fun c => .d (.int c) := by
  unfold X.bmI
  cases h : (bmP m d ds).bind poOf with
  | none => trivial
  | some r =>
    cases r with
    | d z =>
      cases z with
      | int b => exact h
      | _ => trivial
    | n z => trivial
    | v z => trivial
def X.unO (o : Option α) : X α := match o with
  | some a => .ok a
  | none => .no
theorem os_unO {F : D → Option Vl} {e : α → D} {o : Option α} {pr : α → β} {er : β → D} (h : ∀ v, (F (e v)).bind poOf = some (.d (er (pr v)))) : OpS (F (eO e o)) ((X.unO o).bind fun v => .ok (pr v)) fun c => .d (er c) := by
  cases o with
  | none => trivial
  | some v => exact h v
/-! ### the law's draws -/
structure St where
  ns : List Int
  i : Int
  x : Int
  y : Int
  hi : 0 ≤ i
  h0 : 0 ≤ x
  h1 : x < 2147483648
abbrev rowD (t : St) : D := .lst [.scr t.ns, .int t.i, .int t.x, .int t.y]
end
end Pd

/-! MeL: plain laws of the mirrors' own words. -/
namespace Pd
open PySem PySem.Spec PyProof.Rows L2
section
variable {α β γ σ ρ : Type}
theorem bind_ok_ (a : α) (k : α → X β) : (X.ok a).bind k = k a := rfl
theorem bind_assoc_ (m : X α) (f : α → X β) (g : β → X γ) : (m.bind f).bind g = m.bind fun a => (f a).bind g := by
  cases m <;> rfl
theorem bind_pure_ (m : X α) : (m.bind fun a => .ok a) = m := by
  cases m <;> rfl
/-- it ends well, so that .. -/
def X.Sat (m : X α) (P : α → Prop) : Prop := ∃ a, m = .ok a ∧ P a
theorem sat_ok {a : α} {P : α → Prop} (h : P a) : (X.ok a).Sat P := ⟨a, rfl, h⟩
theorem X.Sat.bind {m : X α} {P : α → Prop} {k : α → X β} {Q : β → Prop} (h : m.Sat P) (hk : ∀ a, P a → (k a).Sat Q) : (m.bind k).Sat Q := by
  obtain ⟨a, e, p⟩ := h
  subst e
  exact hk a p
theorem X.Sat.mono {m : X α} {P Q : α → Prop} (h : m.Sat P) (hk : ∀ a, P a → Q a) : m.Sat Q := by
  obtain ⟨a, e, p⟩ := h
  exact ⟨a, e, hk a p⟩
theorem sat_fold (I : σ → Prop) {f : α → σ → X σ} : ∀ {xs : List α} {st : σ}, I st → (∀ x ∈ xs, ∀ s, I s → (f x s).Sat I) → (X.fold xs st f).Sat I
  | [], st, h, _ => ⟨st, rfl, h⟩
  | x :: xs, st, h, hf => by
    obtain ⟨s1, e, h1⟩ := hf x List.mem_cons_self st h
    obtain ⟨s2, e2, h2⟩ := sat_fold I h1 fun y hy => hf y (List.mem_cons_of_mem _ hy)
    exact ⟨s2, by simp only [X.fold, e, e2], h2⟩
/-- a walk whose state is told by what is behind it -/
theorem sat_foldP (I : List α → σ → Prop) {f : α → σ → X σ} : ∀ {xs done : List α} {st : σ}, I done st → (∀ d x r s, done ++ xs = d ++ x :: r → I d s → (f x s).Sat (I (d ++ [x]))) → (X.fold xs st f).Sat (I (done ++ xs))
  | [], done, st, h, _ => ⟨st, rfl, by rw [List.append_nil]; exact h⟩
  | x :: xs, done, st, h, hf => by
    obtain ⟨s1, e, h1⟩ := hf done x xs st rfl h
    obtain ⟨s2, e2, h2⟩ := sat_foldP I (xs := xs) (done := done ++ [x]) h1 fun d y r s hd => hf d y r s (by rw [← hd, List.append_assoc]; rfl)
    exact ⟨s2, by simp only [X.fold, e, e2], by rw [List.append_assoc] at h2; exact h2⟩
theorem sat_loop (I : σ → Prop) (R : ρ → Prop) {f : α → σ → X (Fl ρ σ)} : ∀ {xs : List α} {st : σ}, I st → (∀ x ∈ xs, ∀ s, I s → (f x s).Sat fun o => match o with
      | .nx s => I s
      | .brk s => I s
      | .ret r => R r) → (X.loop xs st f).Sat fun o => match o with
      | .nx s => I s
      | .brk _ => False
      | .ret r => R r
  | [], st, h, _ => ⟨.nx st, rfl, h⟩
  | x :: xs, st, h, hf => by
    obtain ⟨o, e, h1⟩ := hf x List.mem_cons_self st h
    cases o with
    | nx s1 =>
      obtain ⟨s2, e2, h2⟩ := sat_loop I R h1 fun y hy => hf y (List.mem_cons_of_mem _ hy)
      exact ⟨s2, by simp only [X.loop, e, e2], h2⟩
    | brk s1 => exact ⟨.nx s1, by simp only [X.loop, e], h1⟩
    | ret r => exact ⟨.ret r, by simp only [X.loop, e], h1⟩
/-- a walk that only goes on -/
theorem sat_loopN (I : σ → Prop) {f : α → σ → X (Fl ρ σ)} : ∀ {xs : List α} {st : σ}, I st → (∀ x ∈ xs, ∀ s, I s → (f x s).Sat fun o => ∃ s', o = .nx s' ∧ I s') → (X.loop xs st f).Sat fun o => ∃ s', o = .nx s' ∧ I s'
  | [], st, h, _ => ⟨.nx st, rfl, st, rfl, h⟩
  | x :: xs, st, h, hf => by
    obtain ⟨o, e, s1, rfl, h1⟩ := hf x List.mem_cons_self st h
    obtain ⟨s2, e2, h2⟩ := sat_loopN I h1 fun y hy => hf y (List.mem_cons_of_mem _ hy)
    exact ⟨s2, by simp only [X.loop, e, e2], h2⟩
theorem sat_mapS (I : σ → Prop) (J : β → Prop) {f : α → σ → X (Option β × σ)} : ∀ {xs : List α} {st : σ}, I st → (∀ x ∈ xs, ∀ s, I s → (f x s).Sat fun p => ∃ y, p.1 = some y ∧ J y ∧ I p.2) → (X.mapS xs st f).Sat fun p => p.1.length = xs.length ∧ (∀ y ∈ p.1, J y) ∧ I p.2
  | [], st, h, _ => ⟨([], st), rfl, rfl, (fun _ h => by cases h), h⟩
  | x :: xs, st, h, hf => by
    obtain ⟨⟨o, s1⟩, e, y, ey, hy, h1⟩ := hf x List.mem_cons_self st h
    dsimp only at ey
    subst ey
    obtain ⟨⟨ys, s2⟩, e2, l, hj, h2⟩ := sat_mapS I J h1 fun y hy => hf y (List.mem_cons_of_mem _ hy)
    refine ⟨(y :: ys, s2), by simp only [X.mapS, e, e2], by simp [l], fun z hz => ?_, h2⟩
    rcases List.mem_cons.mp hz with hz | hz
    · subst hz; exact hy
    · exact hj z hz
theorem fold_eq (g : σ → α → σ) {f : α → σ → X σ} : ∀ {xs : List α} {st : σ}, (∀ x ∈ xs, ∀ s, f x s = .ok (g s x)) → X.fold xs st f = .ok (xs.foldl g st)
  | [], st, _ => rfl
  | x :: xs, st, h => by
    simp only [X.fold, h x List.mem_cons_self, List.foldl_cons]
    exact fold_eq g fun y hy => h y (List.mem_cons_of_mem _ hy)
theorem mapO_eq (g : α → Option β) {f : α → X (Option β)} : ∀ {xs : List α}, (∀ x ∈ xs, f x = .ok (g x)) → X.mapO xs f = .ok (xs.filterMap g)
  | [], _ => rfl
  | x :: xs, h => by
    have ih := mapO_eq g (xs := xs) fun y hy => h y (List.mem_cons_of_mem _ hy)
    simp only [X.mapO, h x List.mem_cons_self, List.filterMap_cons]
    cases g x with
    | none => exact ih
    | some y => simp only [ih]
theorem mapO_map (g : α → β) {f : α → X (Option β)} {xs : List α} (h : ∀ x ∈ xs, f x = .ok (some (g x))) : X.mapO xs f = .ok (xs.map g) := by
  rw [mapO_eq (fun x => some (g x)) h]
  congr 1
  induction xs with
  | nil => rfl
  | cons x xs ih => rw [List.filterMap_cons, ih fun y hy => h y (List.mem_cons_of_mem _ hy)]; rfl
theorem mapO_filter (p : α → Bool) (g : α → β) {f : α → X (Option β)} {xs : List α} (h : ∀ x ∈ xs, f x = .ok (if p x then some (g x) else none)) : X.mapO xs f = .ok ((xs.filter p).map g) := by
  rw [mapO_eq (fun x => if p x then some (g x) else none) h]
  congr 1
  clear h
  induction xs with
  | nil => rfl
  | cons x xs ih =>
    rw [List.filterMap_cons, ih, List.filter_cons]
    cases p x <;> rfl
/-! ### numbers -/
theorem mem_rangeI {lo hi x : Int} : x ∈ rangeI lo hi ↔ lo ≤ x ∧ x < hi := by
  unfold rangeI
  simp only [List.mem_map, List.mem_range]
  constructor
  · rintro ⟨k, hk, rfl⟩
    omega
  · intro ⟨h1, h2⟩
    exact ⟨(x - lo).toNat, by omega, by omega⟩
theorem rangeI_len {lo hi : Int} : (rangeI lo hi).length = (hi - lo).toNat := by
  unfold rangeI
  rw [List.length_map, List.length_range]
theorem rangeI_succ {n : Nat} : rangeI 0 ((n + 1 : Nat) : Int) = rangeI 0 n ++ [(n : Int)] := by
  unfold rangeI
  rw [show ((n + 1 : Nat) : Int) - 0 = ((n + 1 : Nat) : Int) by omega, show ((n : Nat) : Int) - 0 = (n : Int) by omega, Int.toNat_natCast, Int.toNat_natCast, List.range_succ, List.map_append]
  simp
theorem rangeI_nat (n : Nat) : rangeI 0 (n : Int) = (List.range n).map fun (k : Nat) => (k : Int) := by
  unfold rangeI
  rw [show ((n : Nat) : Int) - 0 = (n : Int) by omega, Int.toNat_natCast]
  congr 1
  funext k
  omega
theorem rng_ok {lo hi : Int} (h1 : -1000000 ≤ lo) (h2 : lo ≤ 1000000) (h3 : -1000000 ≤ hi) (h4 : hi ≤ 1000000) : X.rng lo hi = .ok (rangeI lo hi) := by
  unfold X.rng
  rw [rngB_eq, if_pos]
  unfold rngOk
  have e : (2 : Int) ^ 62 = 4611686018427387904 := by decide
  have s : sizeLine = 4294967295 ∨ 3000000 ≤ sizeLine := by
    right
    rw [PySem.sizeLine_eq]
    omega
  have s : 3000000 ≤ sizeLine := by
    rw [PySem.sizeLine_eq]
    omega
  rw [e]
  simp only [Bool.and_eq_true, decide_eq_true_eq]
  omega
theorem fits_small {n : Nat} (h : n ≤ 3000000) : fits n = true := fits_of (by rw [PySem.sizeLine_eq]; omega)
theorem push_ok {xs : List α} {x : α} (h : xs.length ≤ 1000000) : X.push xs x = .ok (xs ++ [x]) := by
  unfold X.push
  rw [if_pos (fits_small (by omega))]
theorem app_ok {xs ys : List α} (h : xs.length ≤ 1000000) (h2 : ys.length ≤ 1000000) : X.app xs ys = .ok (xs ++ ys) := by
  unfold X.app
  rw [if_pos (fits_small (by omega))]
theorem at_ok [Inhabited α] {xs : List α} {i : Int} (h : 0 ≤ i) (h2 : i < xs.length) : X.at xs i = .ok (xs.getD i.toNat default) := by
  unfold X.at atI ixN
  have : i.toNat < xs.length := by omega
  rw [if_pos h, if_pos h2]
  simp only [Option.bind_some, List.getD_eq_getElem?_getD, List.getElem?_eq_getElem this, Option.getD_some]
theorem at_some {xs : List α} {i : Int} {a : α} (h : 0 ≤ i) (h2 : xs[i.toNat]? = some a) : X.at xs i = .ok a := by
  unfold X.at atI ixN
  have := (List.getElem?_eq_some_iff.mp h2).1
  rw [if_pos h, if_pos (by omega)]
  simp only [Option.bind_some, h2]
theorem at_last {xs : List α} {a : α} : X.at (xs ++ [a]) (-1) = .ok a := by
  unfold X.at atI ixN
  rw [if_neg (by decide), if_pos (by simp; omega)]
  have e : (-1 + (((xs ++ [a]).length : Nat) : Int)).toNat = xs.length := by simp; omega
  rw [e]
  simp
theorem log_lt' {n k : Nat} (h : n < 2 ^ k) (hk : 0 < k) : Nat.log2 n < k := by
  by_cases hn : n = 0
  · subst hn
    exact hk
  · exact (Nat.log2_lt hn).mpr h
theorem mul_ok {a b : Int} (h1 : a.natAbs < 2 ^ 200) (h2 : b.natAbs < 2 ^ 200) : X.mul a b = .ok (a * b) := by
  unfold X.mul
  rw [mulB_eq, if_pos]
  unfold mulOk
  have a := log_lt' h1 (by omega)
  have b := log_lt' h2 (by omega)
  exact decide_eq_true (by omega)
theorem fdiv_ok {a b : Int} (h : 0 < b) (h2 : b.natAbs < 2 ^ 200) : X.fdiv a b = .ok (a / b) := by
  unfold X.fdiv
  rw [divB_eq, if_pos]
  unfold divOk
  have := log_lt' h2 (by omega)
  rw [decide_eq_true h, decide_eq_true (show b.natAbs.log2 < 9000 by omega)]
  rfl
theorem mod_ok {a b : Int} (h : 0 < b) : X.mod a b = .ok (a % b) := by
  unfold X.mod
  rw [if_pos h]
theorem join_ok {a : Str} {xs : List Str} (h : (xs.map (·.length)).sum + xs.length * a.length ≤ 16777216) : X.join a xs = .ok (Str.join a xs) := by
  unfold X.join joinB
  rw [if_pos (decide_eq_true h)]
/-! ### alike -/
mutual
def D.okA : Nat → D → Bool
  | _, .non | _, .bl _ | _, .int _ | _, .str _ => true
  | n + 1, .lst xs | n + 1, .tup xs => decide (xs.length ≤ 900000) && D.okAs n xs
  | _, _ => false
def D.okAs : Nat → List D → Bool
  | _, [] => true
  | n, x :: xs => D.okA n x && D.okAs n xs
end
theorem okAs_get {n : Nat} : ∀ {xs : List D} {i : Nat} {x : D}, D.okAs n xs = true → xs[i]? = some x → D.okA n x = true
  | [], _, _, _, h => by cases h
  | y :: ys, 0, x, h, e => by
    simp only [D.okAs, Bool.and_eq_true] at h
    cases e
    exact h.1
  | y :: ys, i + 1, x, h, e => by
    simp only [D.okAs, Bool.and_eq_true] at h
    exact okAs_get h.2 e
theorem okAs_all {n : Nat} : ∀ {xs : List D}, (∀ x ∈ xs, D.okA n x = true) → D.okAs n xs = true
  | [], _ => by simp only [D.okAs]
  | x :: xs, h => by
    simp only [D.okAs, Bool.and_eq_true]
    exact ⟨h x List.mem_cons_self, okAs_all fun y hy => h y (List.mem_cons_of_mem _ hy)⟩
mutual
theorem okA_flat : ∀ (n : Nat) (x : D), D.okA n x = true → D.flat n x = true
  | _, .non, _ | _, .bl _, _ | _, .int _, _ | _, .str _, _ => by simp only [D.flat]
  | n + 1, .lst xs, h | n + 1, .tup xs, h => by
    simp only [D.okA, Bool.and_eq_true] at h
    simp only [D.flat]
    exact okAs_flat n xs h.2
  | 0, .lst _, h | 0, .tup _, h => by simp only [D.okA] at h; cases h
  | 0, .dic _, h | 0, .ins _ _, h | 0, .scr _, h => by simp only [D.okA] at h; cases h
  | n + 1, .dic _, h | n + 1, .ins _ _, h | n + 1, .scr _, h => by simp only [D.okA] at h; cases h
theorem okAs_flat : ∀ (n : Nat) (xs : List D), D.okAs n xs = true → D.flats n xs = true
  | _, [], _ => by simp only [D.flats]
  | n, x :: xs, h => by
    simp only [D.okAs, Bool.and_eq_true] at h
    simp only [D.flats, okA_flat n x h.1, okAs_flat n xs h.2, Bool.and_self]
end
theorem flat_up : ∀ {n m : Nat}, n ≤ m → (∀ x : D, D.flat n x = true → D.flat m x = true) ∧ (∀ xs : List D, D.flats n xs = true → D.flats m xs = true) := by
  intro n
  induction n with
  | zero =>
    intro m _
    have h : ∀ x : D, D.flat 0 x = true → D.flat m x = true := by
      intro x hx
      cases x <;> first
        | (simp only [D.flat]; done)
        | (simp only [D.flat] at hx; cases hx)
    refine ⟨h, fun xs => ?_⟩
    induction xs with
    | nil => intro _; simp only [D.flats]
    | cons x xs ih =>
      intro hx
      simp only [D.flats, Bool.and_eq_true] at hx ⊢
      exact ⟨h x hx.1, ih hx.2⟩
  | succ n ih =>
    intro m hm
    obtain ⟨k, rfl⟩ : ∃ k, m = k + 1 := ⟨m - 1, by omega⟩
    have ih := ih (show n ≤ k by omega)
    have h : ∀ x : D, D.flat (n + 1) x = true → D.flat (k + 1) x = true := by
      intro x hx
      cases x with
      | lst xs => simp only [D.flat] at hx ⊢; exact ih.2 xs hx
      | tup xs => simp only [D.flat] at hx ⊢; exact ih.2 xs hx
      | dic _ => simp only [D.flat] at hx; cases hx
      | ins _ _ => simp only [D.flat] at hx; cases hx
      | scr _ => simp only [D.flat] at hx; cases hx
      | _ => simp only [D.flat]
    refine ⟨h, fun xs => ?_⟩
    induction xs with
    | nil => intro _; simp only [D.flats]
    | cons x xs ih2 =>
      intro hx
      simp only [D.flats, Bool.and_eq_true] at hx ⊢
      exact ⟨h x hx.1, ih2 hx.2⟩
theorem okA_deep {n : Nat} (h : n ≤ 40) {x : D} (k : D.okA n x = true) : D.flat D.deep x = true := (flat_up (m := 40) h).1 x (okA_flat n x k)
theorem sames_ix : ∀ {xs ys : List D}, xs.length = ys.length → D.sames xs ys = (List.range xs.length).all fun i => D.same (xs.getD i .non) (ys.getD i .non)
  | [], [], _ => by simp only [D.sames]; rfl
  | x :: xs, y :: ys, h => by
    have ih := sames_ix (xs := xs) (ys := ys) (by simpa using h)
    rw [List.length_cons, List.range_succ_eq_map, List.all_cons, List.all_map]
    simp only [D.sames, ih]
    rfl
theorem sames_len : ∀ {xs ys : List D}, xs.length ≠ ys.length → D.sames xs ys = false
  | [], [], h => absurd rfl h
  | [], y :: ys, _ => by simp only [D.sames]
  | x :: xs, [], _ => by simp only [D.sames]
  | x :: xs, y :: ys, h => by
    simp only [D.sames, sames_len (xs := xs) (ys := ys) (by simpa using h), Bool.and_false]
end
end Pd

namespace Pd
open PySem PySem.Spec L2
/-! the defs as written forms (printed by gen.py) -/
abbrev i_is_integer : Nat := 0
abbrev i_is_within : Nat := 1
abbrev i_is_row : Nat := 2
abbrev i_is_tuple_of : Nat := 3
abbrev i_is_name : Nat := 4
abbrev i_is_reward : Nat := 5
abbrev i_checked_list : Nat := 6
abbrev i_check_points : Nat := 7
abbrev i_best_rows : Nat := 8
abbrev i_best_discount : Nat := 9
abbrev i_best_basket : Nat := 10
abbrev i__law_taken : Nat := 11
abbrev i__law_pick : Nat := 12
abbrev i__law_alike : Nat := 13
abbrev i__law_name : Nat := 14
abbrev i__law_names : Nat := 15
abbrev i__law_list : Nat := 16
abbrev i__law_given : Nat := 17
abbrev i__law_best : Nat := 18
abbrev i__law_sums : Nat := 19
abbrev i_law : Nat := 20
def b_is_integer : S := (.seq (.ret (.and (.isi [.int] (.var 0)) (.not (.isi [.bool] (.var 0))))) .skip)
def f_is_integer : Fn := ⟨1, [], 1, b_is_integer⟩
def b_is_within : S := (.seq (.ret (.and (.call i_is_integer (.cons (.var 0) .nil)) (.chain .le .le (.var 1) (.var 0) (.var 2)))) .skip)
def f_is_within : Fn := ⟨3, [], 3, b_is_within⟩
def b_is_row : S := (.seq (.ret (.isi [.list, .tuple] (.var 0))) .skip)
def f_is_row : Fn := ⟨1, [], 1, b_is_row⟩
def b_is_tuple_of : S := (.seq (.ret (.and (.isi [.tuple] (.var 0)) (.op2 .eq (.bi .len (.cons (.var 0) .nil)) (.var 1)))) .skip)
def f_is_tuple_of : Fn := ⟨2, [], 2, b_is_tuple_of⟩
def b_is_name : S := (.seq (.ite (.or (.not (.isi [.str] (.var 0))) (.not (.chain .le .le (.k (.int 1)) (.bi .len (.cons (.var 0) .nil)) (.g "MOST_NAME" (.int 8))))) (.seq (.ret (.k (.bl false))) .skip) .skip) (.seq (.ret (.bi .all (.cons (.lc [1] (.n 1) (.var 0) .nil (.op2 .inn (.var 1) (.g "LETTERS" (.str "abcdefghijklmnopqrstuvwxyz")))) .nil))) .skip))
def f_is_name : Fn := ⟨1, [], 2, b_is_name⟩
def b_is_reward : S := (.seq (.ite (.or (.not (.call i_is_tuple_of (.cons (.var 0) (.cons (.k (.int 3)) .nil)))) (.not (.call i_is_name (.cons (.idx (.var 0) (.k (.int 0))) .nil)))) (.seq (.ret (.k (.bl false))) .skip) .skip) (.seq (.ret (.and (.call i_is_within (.cons (.idx (.var 0) (.k (.int 1))) (.cons (.k (.int 1)) (.cons (.g "MOST_PRICE" (.int 200)) .nil)))) (.call i_is_within (.cons (.idx (.var 0) (.k (.int 2))) (.cons (.k (.int 0)) (.cons (.g "MOST_DISCOUNT" (.int 10000)) .nil)))))) .skip))
def f_is_reward : Fn := ⟨1, [], 1, b_is_reward⟩
def b_checked_list : S := (.seq (.ite (.or (.not (.call i_is_row (.cons (.var 0) .nil))) (.not (.chain .le .le (.k (.int 1)) (.bi .len (.cons (.var 0) .nil)) (.g "MOST_REWARDS" (.int 12))))) (.seq .nev .skip) .skip) (.seq (.cell 1 (.lst .nil)) (.seq (.for (.t (.tc (.n 2) (.tc (.n 3) .t0))) (.enum (.var 0)) (.seq (.ite (.or (.not (.call i_is_reward (.cons (.var 3) .nil))) (.op2 .inn (.idx (.var 3) (.k (.int 0))) (.var 1))) (.seq .nev .skip) .skip) (.seq (.ex (.bm .append (.var 1) (.cons (.idx (.var 3) (.k (.int 0))) .nil))) .skip))) (.seq (.ret (.bi .tuple (.cons (.var 0) .nil))) .skip))))
def f_checked_list : Fn := ⟨1, [], 4, b_checked_list⟩
def b_check_points : S := (.seq (.ite (.not (.call i_is_within (.cons (.var 0) (.cons (.k (.int 0)) (.cons (.g "MOST_POINTS" (.int 500)) .nil))))) (.seq .nev .skip) .skip) .skip)
def f_check_points : Fn := ⟨1, [], 1, b_check_points⟩
def b_best_rows : S := (.seq (.cell 2 (.lst (.cons (.k (.int 0)) .nil))) (.seq (.cell 3 (.lst (.cons (.k .non) .nil))) (.seq (.for (.n 4) (.rng (.k (.int 1)) (.op2 .add (.var 1) (.k (.int 1)))) (.seq (.set (.n 5) (.idx (.var 2) (.op2 .sub (.var 4) (.k (.int 1))))) (.seq (.set (.n 6) (.k .non)) (.seq (.for (.n 7) (.var 0) (.seq (.ite (.and (.op2 .le (.idx (.var 7) (.k (.int 1))) (.var 4)) (.op2 .gt (.op2 .add (.idx (.var 2) (.op2 .sub (.var 4) (.idx (.var 7) (.k (.int 1))))) (.idx (.var 7) (.k (.int 2)))) (.var 5))) (.seq (.set (.n 5) (.op2 .add (.idx (.var 2) (.op2 .sub (.var 4) (.idx (.var 7) (.k (.int 1))))) (.idx (.var 7) (.k (.int 2))))) (.seq (.set (.n 6) (.var 7)) .skip)) .skip) .skip)) (.seq (.ex (.bm .append (.var 2) (.cons (.var 5) .nil))) (.seq (.ex (.bm .append (.var 3) (.cons (.var 6) .nil))) .skip)))))) (.seq (.ret (.tup (.cons (.var 2) (.cons (.var 3) .nil)))) .skip))))
def f_best_rows : Fn := ⟨2, [], 8, b_best_rows⟩
def b_best_discount : S := (.seq (.set (.n 2) (.call i_checked_list (.cons (.var 0) .nil))) (.seq (.ex (.call i_check_points (.cons (.var 1) .nil))) (.seq (.ret (.idx (.idx (.call i_best_rows (.cons (.var 2) (.cons (.var 1) .nil))) (.k (.int 0))) (.var 1))) .skip)))
def f_best_discount : Fn := ⟨2, [], 3, b_best_discount⟩
def b_best_basket : S := (.seq (.set (.n 2) (.call i_checked_list (.cons (.var 0) .nil))) (.seq (.ex (.call i_check_points (.cons (.var 1) .nil))) (.seq (.set (.t (.tc (.n 3) (.tc (.n 4) .t0))) (.call i_best_rows (.cons (.var 2) (.cons (.var 1) .nil)))) (.seq (.set (.n 5) (.bm .index (.var 3) (.cons (.idx (.var 3) (.var 1)) .nil))) (.seq (.cell 6 (.lst .nil)) (.seq (.whil (.op2 .gt (.var 5) (.k (.int 0))) (.seq (.set (.n 7) (.idx (.var 4) (.var 5))) (.seq (.ite (.op1 .isN (.var 7)) (.seq (.set (.n 5) (.op2 .sub (.var 5) (.k (.int 1)))) .skip) (.seq (.ex (.bm .append (.var 6) (.cons (.idx (.var 7) (.k (.int 0))) .nil))) (.seq (.set (.n 5) (.op2 .sub (.var 5) (.idx (.var 7) (.k (.int 1))))) .skip))) .skip))) (.seq (.ret (.bi .tuple (.cons (.bi .sorted (.cons (.var 6) .nil)) .nil))) .skip)))))))
def f_best_basket : Fn := ⟨2, [], 8, b_best_basket⟩
def b__law_taken : S := (.seq (.ite (.op2 .gt (.idx (.var 0) (.k (.int 3))) (.k (.int 0))) (.seq (.set (.n 2) (.op2 .mod (.bi .int (.cons (.idx (.var 0) (.k (.int 3))) .nil)) (.var 1))) (.seq (.setix (.var 0) (.k (.int 3)) (.op2 .fdiv (.idx (.var 0) (.k (.int 3))) (.var 1))) (.seq (.ret (.var 2)) .skip))) .skip) (.seq (.setix (.var 0) (.k (.int 1)) (.op2 .add (.idx (.var 0) (.k (.int 1))) (.k (.int 1)))) (.seq (.ite (.op2 .gt (.idx (.var 0) (.k (.int 1))) (.bi .len (.cons (.idx (.var 0) (.k (.int 0))) .nil))) (.seq (.setix (.var 0) (.k (.int 2)) (.op2 .mod (.bi .int (.cons (.op2 .add (.op2 .mul (.idx (.var 0) (.k (.int 2))) (.k (.int 48271))) (.k (.int 11))) .nil)) (.k (.int 2147483647)))) (.seq (.ret (.op2 .mod (.bi .int (.cons (.op2 .fdiv (.idx (.var 0) (.k (.int 2))) (.k (.int 7))) .nil)) (.var 1))) .skip)) .skip) (.seq (.set (.n 3) (.idx (.idx (.var 0) (.k (.int 0))) (.op2 .sub (.idx (.var 0) (.k (.int 1))) (.k (.int 1))))) (.seq (.setix (.var 0) (.k (.int 2)) (.op2 .mod (.bi .int (.cons (.op2 .add (.op2 .add (.op2 .mul (.idx (.var 0) (.k (.int 2))) (.k (.int 48271))) (.var 3)) (.k (.int 11))) .nil)) (.k (.int 2147483647)))) (.seq (.ite (.op2 .ge (.var 3) (.op2 .pow (.k (.int 10)) (.k (.int 18)))) (.seq (.setix (.var 0) (.k (.int 3)) (.op2 .fdiv (.var 3) (.var 1))) .skip) .skip) (.seq (.ret (.op2 .mod (.bi .int (.cons (.var 3) .nil)) (.var 1))) .skip)))))))
def f__law_taken : Fn := ⟨2, [], 4, b__law_taken⟩
def b__law_pick : S := (.seq (.ret (.idx (.var 1) (.call i__law_taken (.cons (.var 0) (.cons (.bi .len (.cons (.var 1) .nil)) .nil))))) .skip)
def f__law_pick : Fn := ⟨2, [], 2, b__law_pick⟩
def b__law_alike : S := (.seq (.ite (.isi [.tuple, .list] (.var 1)) (.seq (.ite (.or (.not (.isi [.tuple, .list] (.var 0))) (.op2 .ne (.isi [.list] (.var 0)) (.isi [.list] (.var 1)))) (.seq (.ret (.k (.bl false))) .skip) .skip) (.seq (.ite (.op2 .ne (.bi .len (.cons (.var 0) .nil)) (.bi .len (.cons (.var 1) .nil))) (.seq (.ret (.k (.bl false))) .skip) .skip) (.seq (.ret (.op2 .eq (.lc [2] (.n 2) (.rng (.k (.int 0)) (.bi .len (.cons (.var 1) .nil))) (.not (.call i__law_alike (.cons (.idx (.var 0) (.var 2)) (.cons (.idx (.var 1) (.var 2)) .nil)))) (.var 2)) (.lst .nil))) .skip))) .skip) (.seq (.ite (.isi [.dict] (.var 1)) (.seq (.ite (.or (.not (.isi [.dict] (.var 0))) (.op2 .ne (.bi .list (.cons (.var 0) .nil)) (.bi .list (.cons (.var 1) .nil)))) (.seq (.ret (.k (.bl false))) .skip) .skip) (.seq (.ret (.op2 .eq (.lc [3] (.n 3) (.var 1) (.not (.call i__law_alike (.cons (.idx (.var 0) (.var 3)) (.cons (.idx (.var 1) (.var 3)) .nil)))) (.var 3)) (.lst .nil))) .skip)) .skip) (.seq (.ite (.or (.op1 .isN (.var 1)) (.isi [.str] (.var 1))) (.seq (.ret (.and (.op2 .eq (.var 0) (.var 1)) (.op2 .eq (.isi [.str] (.var 0)) (.isi [.str] (.var 1))))) .skip) .skip) (.seq (.ret (.and (.isi [.int] (.var 0)) (.and (.op2 .eq (.isi [.bool] (.var 0)) (.isi [.bool] (.var 1))) (.op2 .eq (.var 0) (.var 1))))) .skip))))
def f__law_alike : Fn := ⟨2, [], 4, b__law_alike⟩
def b__law_name : S := (.seq (.set (.n 1) (.idx (.lst (.cons (.k (.int 1)) (.cons (.k (.int 1)) (.cons (.k (.int 2)) (.cons (.k (.int 3)) (.cons (.k (.int 5)) (.cons (.k (.int 8)) .nil))))))) (.call i__law_taken (.cons (.var 0) (.cons (.k (.int 6)) .nil))))) (.seq (.ret (.bm .join (.k (.str "")) (.cons (.lc [2] (.n 2) (.rng (.k (.int 0)) (.var 1)) .nil (.idx (.k (.str "abcdefghijklmnopqrstuvwxyz")) (.call i__law_taken (.cons (.var 0) (.cons (.k (.int 26)) .nil))))) .nil))) .skip))
def f__law_name : Fn := ⟨1, [], 3, b__law_name⟩
def b__law_names : S := (.seq (.cell 2 (.lst .nil)) (.seq (.for (.n 3) (.rng (.k (.int 0)) (.var 1)) (.seq (.set (.n 4) (.call i__law_name (.cons (.var 0) .nil))) (.seq (.ite (.op2 .inn (.var 4) (.var 2)) (.seq (.set (.n 4) (.idx (.lc [5] (.n 5) (.k (.str "abcdefghijklmnopqrstuvwxyz")) (.op2 .nin (.var 5) (.var 2)) (.var 5)) (.k (.int 0)))) .skip) .skip) (.seq (.ex (.bm .append (.var 2) (.cons (.var 4) .nil))) .skip)))) (.seq (.ret (.var 2)) .skip)))
def f__law_names : Fn := ⟨2, [], 6, b__law_names⟩
def b__law_list : S := (.seq (.par [1, 2] [true, false] (.cons (.lst .nil) (.cons (.op2 .eq (.call i__law_taken (.cons (.var 0) (.cons (.k (.int 12)) .nil))) (.k (.int 0))) .nil))) (.seq (.for (.n 3) (.call i__law_names (.cons (.var 0) (.cons (.ife (.var 2) (.k (.int 12)) (.op2 .add (.k (.int 1)) (.call i__law_taken (.cons (.var 0) (.cons (.k (.int 5)) .nil))))) .nil))) (.seq (.set (.n 4) (.call i__law_pick (.cons (.var 0) (.cons (.lst (.cons (.op2 .add (.k (.int 1)) (.call i__law_taken (.cons (.var 0) (.cons (.k (.int 6)) .nil)))) (.cons (.op2 .add (.k (.int 1)) (.call i__law_taken (.cons (.var 0) (.cons (.k (.int 20)) .nil)))) (.cons (.ife (.var 2) (.k (.int 200)) (.k (.int 7))) .nil)))) .nil)))) (.seq (.set (.n 5) (.call i__law_pick (.cons (.var 0) (.cons (.lst (.cons (.call i__law_taken (.cons (.var 0) (.cons (.k (.int 12)) .nil))) (.cons (.call i__law_taken (.cons (.var 0) (.cons (.k (.int 100)) .nil))) (.cons (.op2 .mul (.var 4) (.k (.int 5))) (.cons (.ife (.var 2) (.k (.int 10000)) (.k (.int 0))) .nil))))) .nil)))) (.seq (.ex (.bm .append (.var 1) (.cons (.tup (.cons (.var 3) (.cons (.var 4) (.cons (.var 5) .nil)))) .nil))) .skip)))) (.seq (.ret (.var 1)) .skip)))
def f__law_list : Fn := ⟨1, [], 6, b__law_list⟩
def b__law_given : S := (.seq (.ret (.ife (.op2 .eq (.call i__law_taken (.cons (.var 0) (.cons (.k (.int 2)) .nil))) (.k (.int 0))) (.bi .tuple (.cons (.var 1) .nil)) (.bi .list (.cons (.var 1) .nil)))) .skip)
def f__law_given : Fn := ⟨2, [], 2, b__law_given⟩
def b__law_best : S := (.seq (.cell 2 (.lst .nil)) (.seq (.for (.n 3) (.rng (.k (.int 0)) (.op2 .add (.var 1) (.k (.int 1)))) (.seq (.set (.n 4) (.op2 .add (.lst (.cons (.k (.int 0)) .nil)) (.lc [5] (.n 5) (.var 0) (.op2 .le (.idx (.var 5) (.k (.int 1))) (.var 3)) (.op2 .add (.idx (.var 2) (.op2 .sub (.var 3) (.idx (.var 5) (.k (.int 1))))) (.idx (.var 5) (.k (.int 2))))))) (.seq (.ex (.bm .append (.var 2) (.cons (.bi .max (.cons (.var 4) .nil)) .nil))) .skip))) (.seq (.ret (.var 2)) .skip)))
def f__law_best : Fn := ⟨2, [], 6, b__law_best⟩
def b__law_sums : S := (.seq (.par [2, 3] [false, false] (.cons (.k (.int 0)) (.cons (.k (.int 0)) .nil))) (.seq (.for (.n 4) (.var 1) (.seq (.for (.n 5) (.var 0) (.seq (.ite (.op2 .eq (.idx (.var 5) (.k (.int 0))) (.var 4)) (.seq (.par [2, 3] [false, false] (.cons (.op2 .add (.var 2) (.idx (.var 5) (.k (.int 1)))) (.cons (.op2 .add (.var 3) (.idx (.var 5) (.k (.int 2)))) .nil))) .skip) .skip) .skip)) .skip)) (.seq (.ret (.lst (.cons (.var 2) (.cons (.var 3) .nil)))) .skip)))
def f__law_sums : Fn := ⟨2, [], 6, b__law_sums⟩
def b_law : S := (.seq (.cell 1 (.lst (.cons (.var 0) (.cons (.k (.int 0)) (.cons (.k (.int 5503)) (.cons (.k (.int 0)) .nil)))))) (.seq (.for (.n 2) (.rng (.k (.int 0)) (.k (.int 3))) (.seq (.set (.n 3) (.call i__law_list (.cons (.var 1) .nil))) (.seq (.set (.n 4) (.ife (.op2 .eq (.call i__law_taken (.cons (.var 1) (.cons (.k (.int 8)) .nil))) (.k (.int 0))) (.call i__law_pick (.cons (.var 1) (.cons (.lst (.cons (.k (.int 500)) (.cons (.call i__law_taken (.cons (.var 1) (.cons (.k (.int 501)) .nil))) .nil))) .nil))) (.call i__law_taken (.cons (.var 1) (.cons (.k (.int 61)) .nil))))) (.seq (.par [5, 6] [false, false] (.cons (.call i__law_given (.cons (.var 1) (.cons (.var 3) .nil))) (.cons (.call i__law_best (.cons (.var 3) (.cons (.var 4) .nil))) .nil))) (.seq (.for (.n 7) (.lst (.cons (.var 4) (.cons (.call i__law_taken (.cons (.var 1) (.cons (.op2 .add (.var 4) (.k (.int 1))) .nil))) (.cons (.var 4) .nil)))) (.seq (.ite (.not (.call i__law_alike (.cons (.call i_best_discount (.cons (.var 5) (.cons (.var 7) .nil))) (.cons (.idx (.var 6) (.var 7)) .nil)))) (.seq (.ret (.k (.bl false))) .skip) .skip) (.seq (.set (.n 8) (.call i_best_basket (.cons (.var 5) (.cons (.var 7) .nil)))) (.seq (.set (.n 9) (.lc [11] (.n 11) (.var 3) .nil (.idx (.var 11) (.k (.int 0))))) (.seq (.ite (.or (.not (.isi [.tuple] (.var 8))) (.op2 .ne (.lc [11] (.n 11) (.var 8) (.or (.not (.isi [.str] (.var 11))) (.op2 .nin (.var 11) (.var 9))) (.var 11)) (.lst .nil))) (.seq (.ret (.k (.bl false))) .skip) .skip) (.seq (.ite (.op2 .ne (.bi .list (.cons (.var 8) .nil)) (.bi .sorted (.cons (.bi .list (.cons (.var 8) .nil)) .nil))) (.seq (.ret (.k (.bl false))) .skip) .skip) (.seq (.set (.n 10) (.idx (.lc [12] (.n 12) (.rng (.k (.int 0)) (.op2 .add (.var 7) (.k (.int 1)))) (.op2 .eq (.idx (.var 6) (.var 12)) (.idx (.var 6) (.var 7))) (.var 12)) (.k (.int 0)))) (.seq (.ite (.or (.op2 .ne (.call i__law_sums (.cons (.var 3) (.cons (.var 8) .nil))) (.lst (.cons (.var 10) (.cons (.idx (.var 6) (.var 7)) .nil)))) (.op2 .ne (.bi .list (.cons (.var 5) .nil)) (.var 3))) (.seq (.ret (.k (.bl false))) .skip) .skip) .skip)))))))) .skip))))) (.seq (.ret (.k (.bl true))) .skip)))
def f_law : Fn := ⟨1, [], 13, b_law⟩
def Pr : Pg := ⟨[f_is_integer, f_is_within, f_is_row, f_is_tuple_of, f_is_name, f_is_reward, f_checked_list, f_check_points, f_best_rows, f_best_discount, f_best_basket, f__law_taken, f__law_pick, f__law_alike, f__law_name, f__law_names, f__law_list, f__law_given, f__law_best, f__law_sums, f_law], [], 100000⟩
/-! the text -/
def top (i : Nat) : Stmt := PySem.Challenge.pw_noidlegain_k55_whole_best_baskets.main.body.getD i (.Pass ⟨0, 0, 0, 0⟩)
abbrev s_is_integer : Stmt := top 3
abbrev s_is_within : Stmt := top 4
abbrev s_is_row : Stmt := top 5
abbrev s_is_tuple_of : Stmt := top 6
abbrev s_is_name : Stmt := top 7
abbrev s_is_reward : Stmt := top 16
abbrev s_checked_list : Stmt := top 17
abbrev s_check_points : Stmt := top 20
abbrev s_best_rows : Stmt := top 21
abbrev s_best_discount : Stmt := top 22
abbrev s_best_basket : Stmt := top 23
abbrev s__law_taken : Stmt := top 25
abbrev s__law_pick : Stmt := top 26
abbrev s__law_alike : Stmt := top 27
abbrev s__law_name : Stmt := top 28
abbrev s__law_names : Stmt := top 29
abbrev s__law_list : Stmt := top 30
abbrev s__law_given : Stmt := top 31
abbrev s__law_best : Stmt := top 32
abbrev s__law_sums : Stmt := top 33
abbrev s_law : Stmt := top 34
def fes : List FE := [⟨"is_integer", 1, f_is_integer.dfl⟩, ⟨"is_within", 3, f_is_within.dfl⟩, ⟨"is_row", 1, f_is_row.dfl⟩, ⟨"is_tuple_of", 2, f_is_tuple_of.dfl⟩, ⟨"is_name", 1, f_is_name.dfl⟩, ⟨"is_reward", 1, f_is_reward.dfl⟩, ⟨"checked_list", 1, f_checked_list.dfl⟩, ⟨"check_points", 1, f_check_points.dfl⟩, ⟨"best_rows", 2, f_best_rows.dfl⟩, ⟨"best_discount", 2, f_best_discount.dfl⟩, ⟨"best_basket", 2, f_best_basket.dfl⟩, ⟨"_law_taken", 2, f__law_taken.dfl⟩, ⟨"_law_pick", 2, f__law_pick.dfl⟩, ⟨"_law_alike", 2, f__law_alike.dfl⟩, ⟨"_law_name", 1, f__law_name.dfl⟩, ⟨"_law_names", 2, f__law_names.dfl⟩, ⟨"_law_list", 1, f__law_list.dfl⟩, ⟨"_law_given", 2, f__law_given.dfl⟩, ⟨"_law_best", 2, f__law_best.dfl⟩, ⟨"_law_sums", 2, f__law_sums.dfl⟩, ⟨"law", 1, f_law.dfl⟩]
def glo : List (Str × D) := [("LETTERS", (.str "abcdefghijklmnopqrstuvwxyz")), ("MOST_DISCOUNT", (.int 10000)), ("MOST_NAME", (.int 8)), ("MOST_POINTS", (.int 500)), ("MOST_PRICE", (.int 200)), ("MOST_REWARDS", (.int 12))]
def free : List Str := ["all", "bool", "dict", "enumerate", "int", "isinstance", "len", "list", "max", "range", "sorted", "str", "tuple"]
def N_is_integer : List Str := ["thing"]
def N_is_within : List Str := ["thing", "least", "most"]
def N_is_row : List Str := ["thing"]
def N_is_tuple_of : List Str := ["thing", "many"]
def N_is_name : List Str := ["thing", "sign"]
def N_is_reward : List Str := ["thing"]
def N_checked_list : List Str := ["rewards", "names", "index", "reward"]
def N_check_points : List Str := ["points"]
def N_best_rows : List Str := ["rewards", "most", "best", "last", "points", "value", "taken", "reward"]
def N_best_discount : List Str := ["rewards", "points", "checked"]
def N_best_basket : List Str := ["rewards", "points", "checked", "best", "last", "left", "found", "reward"]
def N__law_taken : List Str := ["row", "many", "found", "cell"]
def N__law_pick : List Str := ["row", "some"]
def N__law_alike : List Str := ["found", "due", "k", "key"]
def N__law_name : List Str := ["row", "many", "k"]
def N__law_names : List Str := ["row", "many", "found", "k", "name", "one"]
def N__law_list : List Str := ["row", "found", "wide", "name", "price", "discount"]
def N__law_given : List Str := ["row", "things"]
def N__law_best : List Str := ["rewards", "most", "found", "points", "some", "one"]
def N__law_sums : List Str := ["rewards", "basket", "price", "discount", "name", "one"]
def N_law : List Str := ["script", "row", "turn", "rewards", "points", "given", "best", "most", "told", "names", "least", "one", "k"]
theorem c_is_integer : (ckS b_is_integer).ss ⟨N_is_integer, defScope s_is_integer, N_is_integer, fes, glo, free⟩ (defBody s_is_integer) = true := by decide +kernel
theorem c_is_within : (ckS b_is_within).ss ⟨N_is_within, defScope s_is_within, N_is_within, fes, glo, free⟩ (defBody s_is_within) = true := by decide +kernel
theorem c_is_row : (ckS b_is_row).ss ⟨N_is_row, defScope s_is_row, N_is_row, fes, glo, free⟩ (defBody s_is_row) = true := by decide +kernel
theorem c_is_tuple_of : (ckS b_is_tuple_of).ss ⟨N_is_tuple_of, defScope s_is_tuple_of, N_is_tuple_of, fes, glo, free⟩ (defBody s_is_tuple_of) = true := by decide +kernel
theorem c_is_name : (ckS b_is_name).ss ⟨N_is_name, defScope s_is_name, N_is_name, fes, glo, free⟩ (defBody s_is_name) = true := by decide +kernel
theorem c_is_reward : (ckS b_is_reward).ss ⟨N_is_reward, defScope s_is_reward, N_is_reward, fes, glo, free⟩ (defBody s_is_reward) = true := by decide +kernel
theorem c_checked_list : (ckS b_checked_list).ss ⟨N_checked_list, defScope s_checked_list, N_checked_list, fes, glo, free⟩ (defBody s_checked_list) = true := by decide +kernel
theorem c_check_points : (ckS b_check_points).ss ⟨N_check_points, defScope s_check_points, N_check_points, fes, glo, free⟩ (defBody s_check_points) = true := by decide +kernel
theorem c_best_rows : (ckS b_best_rows).ss ⟨N_best_rows, defScope s_best_rows, N_best_rows, fes, glo, free⟩ (defBody s_best_rows) = true := by decide +kernel
theorem c_best_discount : (ckS b_best_discount).ss ⟨N_best_discount, defScope s_best_discount, N_best_discount, fes, glo, free⟩ (defBody s_best_discount) = true := by decide +kernel
theorem c_best_basket : (ckS b_best_basket).ss ⟨N_best_basket, defScope s_best_basket, N_best_basket, fes, glo, free⟩ (defBody s_best_basket) = true := by decide +kernel
theorem c__law_taken : (ckS b__law_taken).ss ⟨N__law_taken, defScope s__law_taken, N__law_taken, fes, glo, free⟩ (defBody s__law_taken) = true := by decide +kernel
theorem c__law_pick : (ckS b__law_pick).ss ⟨N__law_pick, defScope s__law_pick, N__law_pick, fes, glo, free⟩ (defBody s__law_pick) = true := by decide +kernel
theorem c__law_alike : (ckS b__law_alike).ss ⟨N__law_alike, defScope s__law_alike, N__law_alike, fes, glo, free⟩ (defBody s__law_alike) = true := by decide +kernel
theorem c__law_name : (ckS b__law_name).ss ⟨N__law_name, defScope s__law_name, N__law_name, fes, glo, free⟩ (defBody s__law_name) = true := by decide +kernel
theorem c__law_names : (ckS b__law_names).ss ⟨N__law_names, defScope s__law_names, N__law_names, fes, glo, free⟩ (defBody s__law_names) = true := by decide +kernel
theorem c__law_list : (ckS b__law_list).ss ⟨N__law_list, defScope s__law_list, N__law_list, fes, glo, free⟩ (defBody s__law_list) = true := by decide +kernel
theorem c__law_given : (ckS b__law_given).ss ⟨N__law_given, defScope s__law_given, N__law_given, fes, glo, free⟩ (defBody s__law_given) = true := by decide +kernel
theorem c__law_best : (ckS b__law_best).ss ⟨N__law_best, defScope s__law_best, N__law_best, fes, glo, free⟩ (defBody s__law_best) = true := by decide +kernel
theorem c__law_sums : (ckS b__law_sums).ss ⟨N__law_sums, defScope s__law_sums, N__law_sums, fes, glo, free⟩ (defBody s__law_sums) = true := by decide +kernel
theorem c_law : (ckS b_law).ss ⟨N_law, defScope s_law, N_law, fes, glo, free⟩ (defBody s_law) = true := by decide +kernel
end Pd
namespace Pd
open PySem PySem.Spec PyProof.Rows L2
def m_law_alike : Nat → D → D → X Bool
  | 0, _, _ => X.no
  | n + 1, p_found, p_due => (X.isi [.tuple, .list] p_due).bind fun a1 => if a1 = true then ((X.isi [.tuple, .list] p_found).bind fun x2 => if (!x2) = true then X.ok true else (X.isi [.list] p_found).bind fun a3 => (X.isi [.list] p_due).bind fun a4 => X.ok (!(a3 == a4))).bind fun a5 => if a5 = true then X.ok false else ((X.biI .len [p_found]).bind fun a6 => (X.biI .len [p_due]).bind fun a7 => X.ok (!(a6 == a7))).bind fun a8 => if a8 = true then X.ok false else ((((X.biI .len [p_due]).bind fun a19 => (X.rng (0 : Int) a19).bind fun l => X.ok l).bind fun a20 => (X.mapO a20 fun x21 => ((X.atD p_found x21).bind fun a23 => (X.atD p_due x21).bind fun a24 => m_law_alike n (a23) (a24)).bind fun y25 => if (!y25) = true then X.ok (some x21) else X.ok none).bind fun ys => X.ok ys).bind fun a27 => X.ok ((a27).isEmpty)).bind fun a28 => X.ok a28 else (X.isi [.dict] p_due).bind fun a29 => if a29 = true then ((X.isi [.dict] p_found).bind fun x30 => if (!x30) = true then X.ok true else (X.biN .list [p_found]).bind fun a31 => (X.biN .list [p_due]).bind fun a32 => (X.eqD (.lst ((a31).map (fun x => x))) (.lst ((a32).map (fun x => x)))).bind fun b => X.ok (!b)).bind fun a33 => if a33 = true then X.ok false else X.no else (if (isNonD p_due) = true then X.ok true else X.isi [.str] p_due).bind fun a38 => if a38 = true then ((X.eqD p_found p_due).bind fun x41 => if x41 = true then (X.isi [.str] p_found).bind fun a42 => (X.isi [.str] p_due).bind fun a43 => X.ok (a42 == a43) else X.ok false).bind fun a44 => X.ok a44 else ((X.isi [.int] p_found).bind fun x47 => if x47 = true then ((X.isi [.bool] p_found).bind fun a48 => (X.isi [.bool] p_due).bind fun a49 => X.ok (a48 == a49)).bind fun x50 => if x50 = true then X.eqD p_found p_due else X.ok false else X.ok false).bind fun a51 => X.ok a51
set_option maxHeartbeats 2000000 in
theorem q_law_alike : ∀ (n : Nat) (p_found : D) (p_due : D), FS (pF Pr n i__law_alike [.d p_found, .d p_due]) (m_law_alike n p_found p_due) (fun r => (.d (.bl r))) (fun r => [.d p_found, .d p_due])
  | 0, _, _ => .no
  | n + 1, p_found, p_due => by
    unfold m_law_alike
    refine fs_of (fn := f__law_alike) (n := n) (vs := [some (.d p_found), some (.d p_due), none, none]) rfl rfl rfl ?_
    change QK _ b__law_alike _ _ _ _
    unfold b__law_alike
    refine qq_ite (vc := fun (a1 : Bool) => a1) (sc := fun (a1 : Bool) => [some (.d p_found), some (.d p_due), none, none]) (by exact (tf_v (w := fun (p : Bool) => (.d (.bl p))) (sr := fun (p : Bool) => [some (.d p_found), some (.d p_due), none, none]) (b := fun (p : Bool) => p) (d := fun (p : Bool) => (.bl p)) (fun _ => rfl) (ef_isi (ak_consP (x := (.d p_due)) (pv_var (i := 1) rfl) (ak_nil (nary_end (ds := [p_due]) rfl os_isi)))) (fun _ => rfl) (fun _ => rfl))) (fun a1 => ?_) (fun a1 => ?_)
    · refine qq_ite (vc := fun (a5 : Bool) => a5) (sc := fun (a5 : Bool) => [some (.d p_found), some (.d p_due), none, none]) (by exact (tf_or (va := fun (x2 : Bool) => (!x2)) (sa := fun (x2 : Bool) => [some (.d p_found), some (.d p_due), none, none]) (v := (fun (p : Bool) => p)) (sr := (fun (p : Bool) => [some (.d p_found), some (.d p_due), none, none])) (z := fun x2 => true) (tf_not (tf_v (w := fun (p : Bool) => (.d (.bl p))) (sr := fun (p : Bool) => [some (.d p_found), some (.d p_due), none, none]) (b := fun (p : Bool) => p) (d := fun (p : Bool) => (.bl p)) (fun _ => rfl) (ef_isi (ak_consP (x := (.d p_found)) (pv_var (i := 0) rfl) (ak_nil (nary_end (ds := [p_found]) rfl os_isi)))) (fun _ => rfl) (fun _ => rfl))) (fun x2 => (tf_v (w := fun (p : Bool) => (.d (.bl p))) (sr := fun (p : Bool) => [some (.d p_found), some (.d p_due), none, none]) (b := fun (p : Bool) => p) (d := fun (p : Bool) => (.bl p)) (fun _ => rfl) (ef_op2 (ak_cons (ve := fun (a3 : Bool) => (.d (.bl a3))) (se := fun (a3 : Bool) => [some (.d p_found), some (.d p_due), none, none]) (ef_isi (ak_consP (x := (.d p_found)) (pv_var (i := 0) rfl) (ak_nil (nary_end (ds := [p_found]) rfl os_isi)))) fun a3 => (ak_cons (ve := fun (a4 : Bool) => (.d (.bl a4))) (se := fun (a4 : Bool) => [some (.d p_found), some (.d p_due), none, none]) (ef_isi (ak_consP (x := (.d p_due)) (pv_var (i := 1) rfl) (ak_nil (nary_end (ds := [p_due]) rfl os_isi)))) fun a4 => (ak_nil (nary_ok (ds := [(.bl a3), (.bl a4)]) (r := (.d (.bl (!(a3 == a4))))) (w := fun (p : Bool) => (.d (.bl p))) (sr := fun (p : Bool) => [some (.d p_found), some (.d p_due), none, none]) rfl (op_neT eqe_bl rfl) rfl rfl))))) (fun _ => rfl) (fun _ => rfl))) (fun x2 => ⟨rfl, rfl⟩))) (fun a5 => ?_) (fun a5 => ?_)
      · refine qq_retP (x := (.d (.bl false))) (by exact (pv_k _)) ?_
        exact rfl
      · refine qq_skip ?_
        change QK _ _ _ _ _ _
        refine qq_ite (vc := fun (a8 : Bool) => a8) (sc := fun (a8 : Bool) => [some (.d p_found), some (.d p_due), none, none]) (by exact (tf_v (w := fun (p : Bool) => (.d (.bl p))) (sr := fun (p : Bool) => [some (.d p_found), some (.d p_due), none, none]) (b := fun (p : Bool) => p) (d := fun (p : Bool) => (.bl p)) (fun _ => rfl) (ef_op2 (ak_cons (ve := fun (a6 : Int) => (.d (.int a6))) (se := fun (a6 : Int) => [some (.d p_found), some (.d p_due), none, none]) (ef_bi (ak_consP (x := (.d p_found)) (pv_var (i := 0) rfl) (ak_nil (nary_end (ds := [p_found]) rfl os_biI)))) fun a6 => (ak_cons (ve := fun (a7 : Int) => (.d (.int a7))) (se := fun (a7 : Int) => [some (.d p_found), some (.d p_due), none, none]) (ef_bi (ak_consP (x := (.d p_due)) (pv_var (i := 1) rfl) (ak_nil (nary_end (ds := [p_due]) rfl os_biI)))) fun a7 => (ak_nil (nary_ok (ds := [(.int a6), (.int a7)]) (r := (.d (.bl (!(a6 == a7))))) (w := fun (p : Bool) => (.d (.bl p))) (sr := fun (p : Bool) => [some (.d p_found), some (.d p_due), none, none]) rfl rfl rfl rfl))))) (fun _ => rfl) (fun _ => rfl))) (fun a8 => ?_) (fun a8 => ?_)
        · refine qq_retP (x := (.d (.bl false))) (by exact (pv_k _)) ?_
          exact rfl
        · refine qq_skip ?_
          change QK _ _ _ _ _ _
          refine qq_ret (ve := fun (a28 : Bool) => (.d (.bl a28))) (se := fun (a28 : Bool) => [some (.d p_found), some (.d p_due), none, none]) (by exact (ef_op2 (ak_cons (ve := fun (a27 : (List Int)) => (.n (.lst ((a27).map D.int)))) (se := fun (a27 : (List Int)) => [some (.d p_found), some (.d p_due), none, none]) (ef_lcQ (si := fun (a20 : List Int) => [some (.d p_found), some (.d p_due), none, none]) (xs := fun (a20 : List Int) => a20) (en := D.int) (g := fun (a20 : List Int) => []) (er := D.int) (sw := fun (a20 : List Int) => [some (.d p_found), some (.d p_due), none, none]) (s2 := fun (a20 : List Int) => [some (.d p_found), some (.d p_due), none, none]) (k := fun (a20 : List Int) (ys : (List Int)) => ys) (w := (fun (q : (List Int)) => (.n (.lst ((q).map D.int))))) (sr := (fun (q : (List Int)) => [some (.d p_found), some (.d p_due), none, none])) (if_rngF (va := fun (a18 : Unit) => (0 : Int)) (sa := fun (a18 : Unit) => [some (.d p_found), some (.d p_due), none, none]) (vb := fun (a18 : Unit) (a19 : Int) => a19) (sb := fun (a18 : Unit) (a19 : Int) => [some (.d p_found), some (.d p_due), none, none]) (k := fun (a18 : Unit) (a19 : Int) l => l) (xs := fun (p : List Int) => p) (sr := fun (p : List Int) => [some (.d p_found), some (.d p_due), none, none]) (pv_k _).ef (fun a18 => (ef_bi (ak_consP (x := (.d p_due)) (pv_var (i := 1) rfl) (ak_nil (nary_end (ds := [p_due]) rfl os_biI))))) (fun _ _ _ => rfl) (fun _ _ _ => rfl)) rfl (fun a20 => rfl) (fun a20 => chk_nil) (fun a20 x21 => ⟨[some (.d p_found), some (.d p_due), some (.d (.int x21)), none], (bt_n rfl), (fun (c : Option Int) => [some (.d p_found), some (.d p_due), some (.d (.int x21)), none]), (turn_ifE (vc := fun (y25 : Bool) => (!y25)) (sc := fun (y25 : Bool) => [some (.d p_found), some (.d p_due), some (.d (.int x21)), none]) (k := fun y25 a26 => (some x21)) (z := fun y25 => none) (o := (fun (c : Option Int) => c)) (er := D.int) (sr := (fun (c : Option Int) => [some (.d p_found), some (.d p_due), some (.d (.int x21)), none])) (y := fun y25 a26 => x21) rfl (tf_not (tf_v (w := fun (p : Bool) => (.d (.bl p))) (sr := fun (p : Bool) => [some (.d p_found), some (.d p_due), some (.d (.int x21)), none]) (b := fun (p : Bool) => p) (d := fun (p : Bool) => (.bl p)) (fun _ => rfl) (ef_call (ak_cons (ve := fun (a23 : D) => (.d a23)) (se := fun (a23 : D) => [some (.d p_found), some (.d p_due), some (.d (.int x21)), none]) (ef_idx (ak_consP (x := (.d p_found)) (pv_var (i := 0) rfl) (ak_consP (x := (.d (.int x21))) (pv_var (i := 2) rfl) (ak_nil (nary_end (ds := [p_found, (.int x21)]) rfl os_atD))))) fun a23 => (ak_cons (ve := fun (a24 : D) => (.d a24)) (se := fun (a24 : D) => [some (.d p_found), some (.d p_due), some (.d (.int x21)), none]) (ef_idx (ak_consP (x := (.d p_due)) (pv_var (i := 1) rfl) (ak_consP (x := (.d (.int x21))) (pv_var (i := 2) rfl) (ak_nil (nary_end (ds := [p_due, (.int x21)]) rfl os_atD))))) fun a24 => (ak_nil (call_end (s := [some (.d p_found), some (.d p_due), some (.d (.int x21)), none]) (rs := [(.d a23), (.d a24)]) (args := [.d a23, .d a24]) (fin := fun (z : Bool) => [.d a23, .d a24]) (sr := fun _ => [some (.d p_found), some (.d p_due), some (.d (.int x21)), none]) rfl List.nodup_nil (by exact (q_law_alike n (a23) (a24))) (fun _ => rfl)))))) (fun _ => rfl) (fun _ => rfl))) (fun y25 => (pv_var (i := 2) rfl).ef) (fun _ _ => rfl) (fun _ _ => rfl) (fun _ => rfl) (fun _ => rfl)), fun _ => rfl⟩) (fun a20 => rfl) (fun _ _ => rfl) (fun _ _ => rfl)) fun a27 => (ak_consP (x := (.n (.lst (([]).map (fun x => x))))) (pv_lst (ds := []) pvs_nil rfl rfl) (ak_nil (nary_ok (ds := [(.lst ((a27).map D.int)), (.lst (([]).map (fun x => x)))]) (r := (.d (.bl ((a27).isEmpty)))) (w := fun (p : Bool) => (.d (.bl p))) (sr := fun (p : Bool) => [some (.d p_found), some (.d p_due), none, none]) rfl (op_emptyEq fla_int (by omega)) rfl rfl)))))) (fun a28 => ?_)
          exact rfl
    · refine qq_skip ?_
      change QK _ _ _ _ _ _
      refine qq_ite (vc := fun (a29 : Bool) => a29) (sc := fun (a29 : Bool) => [some (.d p_found), some (.d p_due), none, none]) (by exact (tf_v (w := fun (p : Bool) => (.d (.bl p))) (sr := fun (p : Bool) => [some (.d p_found), some (.d p_due), none, none]) (b := fun (p : Bool) => p) (d := fun (p : Bool) => (.bl p)) (fun _ => rfl) (ef_isi (ak_consP (x := (.d p_due)) (pv_var (i := 1) rfl) (ak_nil (nary_end (ds := [p_due]) rfl os_isi)))) (fun _ => rfl) (fun _ => rfl))) (fun a29 => ?_) (fun a29 => ?_)
      · refine qq_ite (vc := fun (a33 : Bool) => a33) (sc := fun (a33 : Bool) => [some (.d p_found), some (.d p_due), none, none]) (by exact (tf_or (va := fun (x30 : Bool) => (!x30)) (sa := fun (x30 : Bool) => [some (.d p_found), some (.d p_due), none, none]) (v := (fun (p : Bool) => p)) (sr := (fun (p : Bool) => [some (.d p_found), some (.d p_due), none, none])) (z := fun x30 => true) (tf_not (tf_v (w := fun (p : Bool) => (.d (.bl p))) (sr := fun (p : Bool) => [some (.d p_found), some (.d p_due), none, none]) (b := fun (p : Bool) => p) (d := fun (p : Bool) => (.bl p)) (fun _ => rfl) (ef_isi (ak_consP (x := (.d p_found)) (pv_var (i := 0) rfl) (ak_nil (nary_end (ds := [p_found]) rfl os_isi)))) (fun _ => rfl) (fun _ => rfl))) (fun x30 => (tf_v (w := fun (p : Bool) => (.d (.bl p))) (sr := fun (p : Bool) => [some (.d p_found), some (.d p_due), none, none]) (b := fun (p : Bool) => p) (d := fun (p : Bool) => (.bl p)) (fun _ => rfl) (ef_op2 (ak_cons (ve := fun (a31 : (List D)) => (.n (.lst ((a31).map (fun x => x))))) (se := fun (a31 : (List D)) => [some (.d p_found), some (.d p_due), none, none]) (ef_bi (ak_consP (x := (.d p_found)) (pv_var (i := 0) rfl) (ak_nil (nary_end (ds := [p_found]) rfl os_biN)))) fun a31 => (ak_cons (ve := fun (a32 : (List D)) => (.n (.lst ((a32).map (fun x => x))))) (se := fun (a32 : (List D)) => [some (.d p_found), some (.d p_due), none, none]) (ef_bi (ak_consP (x := (.d p_due)) (pv_var (i := 1) rfl) (ak_nil (nary_end (ds := [p_due]) rfl os_biN)))) fun a32 => (ak_nil (nary_end (ds := [(.lst ((a31).map (fun x => x))), (.lst ((a32).map (fun x => x)))]) rfl os_ne))))) (fun _ => rfl) (fun _ => rfl))) (fun x30 => ⟨rfl, rfl⟩))) (fun a33 => ?_) (fun a33 => ?_)
        · refine qq_retP (x := (.d (.bl false))) (by exact (pv_k _)) ?_
          exact rfl
        · refine qq_skip ?_
          change QK _ _ _ _ _ _
          exact qq_no
      · refine qq_skip ?_
        change QK _ _ _ _ _ _
        refine qq_ite (vc := fun (a38 : Bool) => a38) (sc := fun (a38 : Bool) => [some (.d p_found), some (.d p_due), none, none]) (by exact (tf_or (ma := X.ok (isNonD p_due)) (va := id) (sa := fun _ => [some (.d p_found), some (.d p_due), none, none]) (v := (fun (p : Bool) => p)) (sr := (fun (p : Bool) => [some (.d p_found), some (.d p_due), none, none])) (z := fun x37 => true) ((tv_v (d := (.bl (isNonD p_due))) (fun _ => rfl) (pv_op1 (x := (.d p_due)) (d := p_due) (r := (.d (.bl (isNonD p_due)))) (pv_var (i := 1) rfl) rfl op_isN) rfl rfl).tf) (fun x37 => (tf_v (w := fun (p : Bool) => (.d (.bl p))) (sr := fun (p : Bool) => [some (.d p_found), some (.d p_due), none, none]) (b := fun (p : Bool) => p) (d := fun (p : Bool) => (.bl p)) (fun _ => rfl) (ef_isi (ak_consP (x := (.d p_due)) (pv_var (i := 1) rfl) (ak_nil (nary_end (ds := [p_due]) rfl os_isi)))) (fun _ => rfl) (fun _ => rfl))) (fun x37 => ⟨rfl, rfl⟩))) (fun a38 => ?_) (fun a38 => ?_)
        · refine qq_ret (ve := fun (a44 : Bool) => (.d (.bl a44))) (se := fun (a44 : Bool) => [some (.d p_found), some (.d p_due), none, none]) (by exact (ef_and (va := fun (x41 : Bool) => x41) (sa := fun (x41 : Bool) => [some (.d p_found), some (.d p_due), none, none]) (w := (fun (p : Bool) => (.d (.bl p)))) (sr := (fun (p : Bool) => [some (.d p_found), some (.d p_due), none, none])) (z := fun x41 => false) (ef_op2 (ak_consP (x := (.d p_found)) (pv_var (i := 0) rfl) (ak_consP (x := (.d p_due)) (pv_var (i := 1) rfl) (ak_nil (nary_end (ds := [p_found, p_due]) rfl os_eq))))) (fun x41 => (ef_op2 (ak_cons (ve := fun (a42 : Bool) => (.d (.bl a42))) (se := fun (a42 : Bool) => [some (.d p_found), some (.d p_due), none, none]) (ef_isi (ak_consP (x := (.d p_found)) (pv_var (i := 0) rfl) (ak_nil (nary_end (ds := [p_found]) rfl os_isi)))) fun a42 => (ak_cons (ve := fun (a43 : Bool) => (.d (.bl a43))) (se := fun (a43 : Bool) => [some (.d p_found), some (.d p_due), none, none]) (ef_isi (ak_consP (x := (.d p_due)) (pv_var (i := 1) rfl) (ak_nil (nary_end (ds := [p_due]) rfl os_isi)))) fun a43 => (ak_nil (nary_ok (ds := [(.bl a42), (.bl a43)]) (r := (.d (.bl (a42 == a43)))) (w := fun (p : Bool) => (.d (.bl p))) (sr := fun (p : Bool) => [some (.d p_found), some (.d p_due), none, none]) rfl (op_eqT eqe_bl rfl) rfl rfl)))))) (fun x41 => ⟨rfl, rfl⟩))) (fun a44 => ?_)
          exact rfl
        · refine qq_skip ?_
          change QK _ _ _ _ _ _
          refine qq_ret (ve := fun (a51 : Bool) => (.d (.bl a51))) (se := fun (a51 : Bool) => [some (.d p_found), some (.d p_due), none, none]) (by exact (ef_and (va := fun (x47 : Bool) => x47) (sa := fun (x47 : Bool) => [some (.d p_found), some (.d p_due), none, none]) (w := (fun (p : Bool) => (.d (.bl p)))) (sr := (fun (p : Bool) => [some (.d p_found), some (.d p_due), none, none])) (z := fun x47 => false) (ef_isi (ak_consP (x := (.d p_found)) (pv_var (i := 0) rfl) (ak_nil (nary_end (ds := [p_found]) rfl os_isi)))) (fun x47 => (ef_and (va := fun (x50 : Bool) => x50) (sa := fun (x50 : Bool) => [some (.d p_found), some (.d p_due), none, none]) (w := (fun (p : Bool) => (.d (.bl p)))) (sr := (fun (p : Bool) => [some (.d p_found), some (.d p_due), none, none])) (z := fun x50 => false) (ef_op2 (ak_cons (ve := fun (a48 : Bool) => (.d (.bl a48))) (se := fun (a48 : Bool) => [some (.d p_found), some (.d p_due), none, none]) (ef_isi (ak_consP (x := (.d p_found)) (pv_var (i := 0) rfl) (ak_nil (nary_end (ds := [p_found]) rfl os_isi)))) fun a48 => (ak_cons (ve := fun (a49 : Bool) => (.d (.bl a49))) (se := fun (a49 : Bool) => [some (.d p_found), some (.d p_due), none, none]) (ef_isi (ak_consP (x := (.d p_due)) (pv_var (i := 1) rfl) (ak_nil (nary_end (ds := [p_due]) rfl os_isi)))) fun a49 => (ak_nil (nary_ok (ds := [(.bl a48), (.bl a49)]) (r := (.d (.bl (a48 == a49)))) (w := fun (p : Bool) => (.d (.bl p))) (sr := fun (p : Bool) => [some (.d p_found), some (.d p_due), none, none]) rfl (op_eqT eqe_bl rfl) rfl rfl))))) (fun x50 => (ef_op2 (ak_consP (x := (.d p_found)) (pv_var (i := 0) rfl) (ak_consP (x := (.d p_due)) (pv_var (i := 1) rfl) (ak_nil (nary_end (ds := [p_found, p_due]) rfl os_eq)))))) (fun x50 => ⟨rfl, rfl⟩))) (fun x47 => ⟨rfl, rfl⟩))) (fun a51 => ?_)
          exact rfl
end Pd
namespace Pd
open PySem PySem.Spec PyProof.Rows L2
/-! ### the draws -/
def m_taken (t : St) (many : Int) : X (Int × St) :=
  if h : 0 < many ∧ many ≤ 1000000 then
    if 0 < t.y then .ok (t.y % many, ⟨t.ns, t.i, t.x, t.y / many, t.hi, t.h0, t.h1⟩)
    else if (t.ns.length : Int) < t.i + 1 then .ok ((t.x * 48271 + 11) % 2147483647 / 7 % many, ⟨t.ns, t.i + 1, (t.x * 48271 + 11) % 2147483647, t.y, by have := t.hi; omega, by omega, by omega⟩)
    else if (1000000000000000000 : Int) ≤ t.ns.getD t.i.toNat 0 then .ok (t.ns.getD t.i.toNat 0 % many, ⟨t.ns, t.i + 1, (t.x * 48271 + t.ns.getD t.i.toNat 0 + 11) % 2147483647, t.ns.getD t.i.toNat 0 / many, by have := t.hi; omega, by omega, by omega⟩)
    else .ok (t.ns.getD t.i.toNat 0 % many, ⟨t.ns, t.i + 1, (t.x * 48271 + t.ns.getD t.i.toNat 0 + 11) % 2147483647, t.y, by have := t.hi; omega, by omega, by omega⟩)
  else .no
theorem taken_ok (t : St) {many : Int} (h : 0 < many) (h2 : many ≤ 1000000) : ∃ v t', m_taken t many = .ok (v, t') ∧ 0 ≤ v ∧ v < many := by
  have hm : ∀ x : Int, 0 ≤ x % many ∧ x % many < many := fun x => ⟨Int.emod_nonneg _ (by omega), Int.emod_lt_of_pos _ h⟩
  unfold m_taken
  rw [dif_pos ⟨h, h2⟩]
  split
  · exact ⟨_, _, rfl, hm _⟩
  · split
    · exact ⟨_, _, rfl, hm _⟩
    · split
      · exact ⟨_, _, rfl, hm _⟩
      · exact ⟨_, _, rfl, hm _⟩
theorem log_lt {n k : Nat} (h : n < 2 ^ k) (hk : 0 < k) : Nat.log2 n < k := by
  by_cases hn : n = 0
  · subst hn
    exact hk
  · exact (Nat.log2_lt hn).mpr h
theorem div_ok {j : Int} (h : 0 < j) (h2 : j ≤ 1000000) : divOk j = true := by
  unfold divOk
  have : j.natAbs.log2 < 9000 := Nat.lt_trans (log_lt (k := 20) (by omega) (by omega)) (by omega)
  rw [decide_eq_true h, decide_eq_true this]
  rfl
theorem mul_ok48 {s : Int} (h0 : 0 ≤ s) (h1 : s < 2147483648) : mulOk s 48271 = true := by
  unfold mulOk
  have a : s.natAbs.log2 < 31 := log_lt (by omega) (by omega)
  have b : (48271 : Int).natAbs.log2 < 16 := log_lt (by decide) (by omega)
  exact decide_eq_true (by omega)
theorem q_taken (n : Nat) (t : St) (many : Int) : FS (pF Pr (n + 1) i__law_taken [.b true (rowD t), .d (.int many)]) (m_taken t many) (fun r => .d (.int r.1)) (fun r => [.b true (rowD r.2), .d (.int many)]) := by
  obtain ⟨ns, i, x, y, hi, h0, h1⟩ := t
  unfold m_taken
  by_cases hm : 0 < many ∧ many ≤ 1000000
  · rw [dif_pos hm]
    obtain ⟨hm, hm2⟩ := hm
    have hd := div_ok hm hm2
    have hd7 : divOk 7 = true := by decide
    have hmu := mul_ok48 h0 h1
    have at0 : ∀ (i x y : Int), atI [D.scr ns, .int i, .int x, .int y] 0 = some (.scr ns) := fun _ _ _ => rfl
    have at1 : ∀ (i x y : Int), atI [D.scr ns, .int i, .int x, .int y] 1 = some (.int i) := fun _ _ _ => rfl
    have at2 : ∀ (i x y : Int), atI [D.scr ns, .int i, .int x, .int y] 2 = some (.int x) := fun _ _ _ => rfl
    have at3 : ∀ (i x y : Int), atI [D.scr ns, .int i, .int x, .int y] 3 = some (.int y) := fun _ _ _ => rfl
    have ix1 : ixN 4 1 = some 1 := rfl
    have ix2 : ixN 4 2 = some 2 := rfl
    have ix3 : ixN 4 3 = some 3 := rfl
    have hp18 : powOk 10 18 = true := by decide +kernel
    have e18 : (10 : Int) ^ (18 : Int).toNat = 1000000000000000000 := by decide +kernel
    have hl : Pr.fns[i__law_taken]? = some f__law_taken := rfl
    have h47 : (0 : Int) < 2147483647 := by decide
    dsimp only
    by_cases c1 : 0 < y
    · rw [if_pos c1]
      refine FS.mk ?_
      rw [pF_succ]
      simp only [decide_eq_true c1, hl, Fn.pfits, f__law_taken, pstart, b__law_taken, pS, pden, PDen.ofV, RP.bind, RP.thenS, RQ.andThen, RP.lift, pget, pder, List.map_cons, List.map_nil, List.length_cons, List.length_nil, List.replicate, List.cons_append, List.nil_append, List.append_nil, List.getElem?_cons_zero, List.getElem?_cons_succ, Option.join, Option.map_some, Option.bind_some, idx, ixD, at0, at1, at2, at3, poOf, Pv.dat, op2, opII, cmpI, bool2, D.truth, if_true, hm, hd, hd7, hmu, h47, bi, pders, pfrz, ptoD, psetIx, ix1, ix2, ix3, Pv.upd, List.set_cons_zero, List.set_cons_succ, pbindT, psetD, pfin, pargs, pargsGo, Option.getD_some, Nat.reduceLT, Nat.reduceLeDiff, Nat.reduceAdd, Nat.zero_add, Bool.and_self, decide_true, Nat.reduceSub, List.drop_nil, id, Bool.false_eq_true, if_false, hp18, e18]
    · rw [if_neg c1]
      by_cases c2 : (ns.length : Int) < i + 1
      · rw [if_pos c2]
        refine FS.mk ?_
        rw [pF_succ]
        simp only [decide_eq_false c1, decide_eq_true c2, hl, Fn.pfits, f__law_taken, pstart, b__law_taken, pS, pden, PDen.ofV, RP.bind, RP.thenS, RQ.andThen, RP.lift, pget, pder, List.map_cons, List.map_nil, List.length_cons, List.length_nil, List.replicate, List.cons_append, List.nil_append, List.append_nil, List.getElem?_cons_zero, List.getElem?_cons_succ, Option.join, Option.map_some, Option.bind_some, idx, ixD, at0, at1, at2, at3, poOf, Pv.dat, op2, opII, cmpI, bool2, D.truth, if_true, hm, hd, hd7, hmu, h47, bi, pders, pfrz, ptoD, psetIx, ix1, ix2, ix3, Pv.upd, List.set_cons_zero, List.set_cons_succ, pbindT, psetD, pfin, pargs, pargsGo, Option.getD_some, Nat.reduceLT, Nat.reduceLeDiff, Nat.reduceAdd, Nat.zero_add, Bool.and_self, decide_true, Nat.reduceSub, List.drop_nil, id, Bool.false_eq_true, if_false, hp18, e18]
      · rw [if_neg c2]
        have ea : atI ns (i + 1 - 1) = some (ns.getD i.toNat 0) := by
          rw [show i + 1 - 1 = i by omega]
          unfold atI ixN
          rw [if_pos hi, if_pos (by omega)]
          have : i.toNat < ns.length := by omega
          simp only [Option.bind_some, List.getD_eq_getElem?_getD, List.getElem?_eq_getElem this, Option.getD_some]
        by_cases c3 : (1000000000000000000 : Int) ≤ ns.getD i.toNat 0
        · rw [if_pos c3]
          refine FS.mk ?_
          rw [pF_succ]
          simp only [decide_eq_false c1, decide_eq_false c2, decide_eq_true c3, ea, hl, Fn.pfits, f__law_taken, pstart, b__law_taken, pS, pden, PDen.ofV, RP.bind, RP.thenS, RQ.andThen, RP.lift, pget, pder, List.map_cons, List.map_nil, List.length_cons, List.length_nil, List.replicate, List.cons_append, List.nil_append, List.append_nil, List.getElem?_cons_zero, List.getElem?_cons_succ, Option.join, Option.map_some, Option.bind_some, idx, ixD, at0, at1, at2, at3, poOf, Pv.dat, op2, opII, cmpI, bool2, D.truth, if_true, hm, hd, hd7, hmu, h47, bi, pders, pfrz, ptoD, psetIx, ix1, ix2, ix3, Pv.upd, List.set_cons_zero, List.set_cons_succ, pbindT, psetD, pfin, pargs, pargsGo, Option.getD_some, Nat.reduceLT, Nat.reduceLeDiff, Nat.reduceAdd, Nat.zero_add, Bool.and_self, decide_true, Nat.reduceSub, List.drop_nil, id, Bool.false_eq_true, if_false, hp18, e18]
        · rw [if_neg c3]
          refine FS.mk ?_
          rw [pF_succ]
          simp only [decide_eq_false c1, decide_eq_false c2, decide_eq_false c3, ea, hl, Fn.pfits, f__law_taken, pstart, b__law_taken, pS, pden, PDen.ofV, RP.bind, RP.thenS, RQ.andThen, RP.lift, pget, pder, List.map_cons, List.map_nil, List.length_cons, List.length_nil, List.replicate, List.cons_append, List.nil_append, List.append_nil, List.getElem?_cons_zero, List.getElem?_cons_succ, Option.join, Option.map_some, Option.bind_some, idx, ixD, at0, at1, at2, at3, poOf, Pv.dat, op2, opII, cmpI, bool2, D.truth, if_true, hm, hd, hd7, hmu, h47, bi, pders, pfrz, ptoD, psetIx, ix1, ix2, ix3, Pv.upd, List.set_cons_zero, List.set_cons_succ, pbindT, psetD, pfin, pargs, pargsGo, Option.getD_some, Nat.reduceLT, Nat.reduceLeDiff, Nat.reduceAdd, Nat.zero_add, Bool.and_self, decide_true, Nat.reduceSub, List.drop_nil, id, Bool.false_eq_true, if_false, hp18, e18]
  · rw [dif_neg hm]
    exact .no
/-! ### rows -/
variable {α : Type}
def m_given (t : St) (xs : List α) : X ((Bool × List α) × St) := (m_taken t 2).bind fun a => .ok ((a.1 == 0, xs), a.2)
theorem q_given (e : α → D) (n : Nat) (t : St) (xs : List α) : FS (pF Pr (n + 2) i__law_given [.b true (rowD t), .d (.lst (xs.map e))]) (m_given t xs) (fun r => poG e r.1) (fun r => [.b true (rowD r.2), .d (.lst (xs.map e))]) := by
  unfold m_given
  refine fs_of (n := n + 1) (vs := [some (.b true (rowD t)), some (.d (.lst (xs.map e)))]) rfl rfl rfl ?_
  change QK _ b__law_given _ _ _ _
  unfold b__law_given
  have hc : ∀ s : Pvs, s = [some (.b true (rowD t)), some (.d (.lst (xs.map e)))] → TF (pF Pr (n + 1)) (.op2 .eq (.call i__law_taken (.cons (.var 0) (.cons (.k (.int 2)) .nil))) (.k (.int 0))) s ((m_taken t 2).bind fun a => .ok (a.1 == 0, a.2)) (fun p => p.1) fun p => [some (.b true (rowD p.2)), some (.d (.lst (xs.map e)))] := by
    intro s hs
    subst hs
    exact (tf_v (m := (m_taken t 2).bind fun a => X.ok (a.1 == 0, a.2)) (w := fun (p : Bool × St) => .d (.bl p.1)) (sr := fun (p : Bool × St) => [some (.b true (rowD p.2)), some (.d (.lst (xs.map e)))]) (b := fun (p : Bool × St) => p.1) (d := fun (p : Bool × St) => .bl p.1) (fun _ => rfl) (ef_op2 (ak_cons (ef_call (ak_consP (pv_bor rfl) (ak_consP (pv_k _) (ak_nil (call_end (args := [.b true (rowD t), .d (.int 2)]) (sr := fun (p : Int × St) => [some (.b true (rowD p.2)), some (.d (.lst (xs.map e)))]) rfl nd1 (q_taken n _ _) (fun _ => rfl)))))) fun a => (ak_consP (pv_k _) (ak_nil (nary_ok (ds := [.int a.1, .int 0]) (r := .d (.bl (a.1 == 0))) (w := fun (p : Bool × St) => .d (.bl p.1)) (sr := fun (p : Bool × St) => [some (.b true (rowD p.2)), some (.d (.lst (xs.map e)))]) rfl rfl rfl rfl))))) (fun _ => rfl) (fun _ => rfl))
  have hr : EF (pF Pr (n + 1)) (.ife (.op2 .eq (.call i__law_taken (.cons (.var 0) (.cons (.k (.int 2)) .nil))) (.k (.int 0))) (.bi .tuple (.cons (.var 1) .nil)) (.bi .list (.cons (.var 1) .nil))) [some (.b true (rowD t)), some (.d (.lst (xs.map e)))] ((m_taken t 2).bind fun a => .ok ((a.1 == 0, xs), a.2)) (fun r => poG e r.1) fun r => [some (.b true (rowD r.2)), some (.d (.lst (xs.map e)))] := by
    have z := ef_ife (vc := fun p : Bool × St => p.1) (ma := fun p => .ok (((true, xs), p.2) : (Bool × List α) × St)) (mb := fun p => .ok (((false, xs), p.2) : (Bool × List α) × St)) (w := fun r => poG e r.1) (sr := fun r => [some (.b true (rowD r.2)), some (.d (.lst (xs.map e)))]) (a := .bi .tuple (.cons (.var 1) .nil)) (b := .bi .list (.cons (.var 1) .nil)) (hc _ rfl) (fun p => PV.to (a := ((true, xs), p.2)) (pv_bi1 (pv_var rfl) rfl rfl) rfl rfl) (fun p => PV.to (a := ((false, xs), p.2)) (pv_bi1 (pv_var rfl) rfl rfl) rfl rfl)
    have e1 : (((m_taken t 2).bind fun a => X.ok (a.1 == 0, a.2)).bind fun p => if p.1 = true then .ok (((true, xs), p.2) : (Bool × List α) × St) else .ok ((false, xs), p.2)) = (m_taken t 2).bind fun a => .ok ((a.1 == 0, xs), a.2) := by
      cases m_taken t 2 with
      | no => rfl
      | exc _ _ => rfl
      | ok a =>
        show (if (a.1 == 0) = true then X.ok (((true, xs), a.2) : (Bool × List α) × St) else .ok ((false, xs), a.2)) = X.ok ((a.1 == 0, xs), a.2)
        cases (a.1 == 0) <;> rfl
    rw [e1] at z
    exact z
  have z := qq_ret (b := .skip) (Z := ⟨pF Pr (n + 1), Pr.W, Pr.X⟩) (F := .nx) (h := fun r q => pfin [.b true (rowD t), .d (.lst (xs.map e))] q = .ok (poG e r.1) [.b true (rowD r.2), .d (.lst (xs.map e))]) (k := fun r => X.ok r) hr (fun r => by
    show pfin _ _ = _
    obtain ⟨⟨b, ys⟩, r2⟩ := r
    cases b <;> rfl)
  have e2 : ((m_taken t 2).bind fun a => X.ok ((a.1 == 0, xs), a.2)).bind (fun r => X.ok r) = (m_taken t 2).bind fun a => .ok ((a.1 == 0, xs), a.2) := by
    cases m_taken t 2 <;> rfl
  rw [e2] at z
  exact z

/-! ### alike -/
def m_alike (x y : D) : X Bool := if D.okA 0 x && D.okA 0 y then .ok (D.same x y) else .no
theorem tf_ : (true == false) = false := rfl
theorem ft_ : (false == true) = false := rfl
theorem alk_int (k : Nat) (hk : k ≤ 40) (n : Nat) (x : D) (b : Int) (hx : D.okA k x = true) : m_law_alike (n + 1) x (.int b) = .ok (D.same x (.int b)) := by
  have fx := okA_deep hk hx
  have fy : ∀ z : Int, D.flat D.deep (.int z) = true := fun z => by simp only [D.flat]
  cases x <;> first
    | (cases k <;> simp only [D.okA] at hx <;> cases hx; done)
    | skip
  all_goals simp only [m_law_alike, X.isi, D.plainTy, if_true, List.any_cons, List.any_nil, Ty.has, Bool.or_false, Bool.or_self, bind_ok_, Bool.false_eq_true, if_false, isNonD, Bool.or_true, Bool.true_or, X.eqD, fx, fy, Bool.and_self, D.eqv, D.same, D.isTrueI, beq_self_eq_true, Bool.not_true, Bool.not_false, tf_, ft_]
theorem alk_bl (k : Nat) (hk : k ≤ 40) (n : Nat) (x : D) (b : Bool) (hx : D.okA k x = true) : m_law_alike (n + 1) x (.bl b) = .ok (D.same x (.bl b)) := by
  have fx := okA_deep hk hx
  have fy : ∀ z : Bool, D.flat D.deep (.bl z) = true := fun z => by simp only [D.flat]
  cases x <;> first
    | (cases k <;> simp only [D.okA] at hx <;> cases hx; done)
    | skip
  all_goals simp only [m_law_alike, X.isi, D.plainTy, if_true, List.any_cons, List.any_nil, Ty.has, Bool.or_false, Bool.or_self, bind_ok_, Bool.false_eq_true, if_false, isNonD, Bool.or_true, Bool.true_or, X.eqD, fx, fy, Bool.and_self, D.eqv, D.same, D.isTrueI, beq_self_eq_true, Bool.not_true, Bool.not_false, tf_, ft_]
theorem alk_non (k : Nat) (hk : k ≤ 40) (n : Nat) (x : D) (hx : D.okA k x = true) : m_law_alike (n + 1) x .non = .ok (D.same x .non) := by
  have fx := okA_deep hk hx
  have fy : D.flat D.deep .non = true := by simp only [D.flat]
  cases x <;> first
    | (cases k <;> simp only [D.okA] at hx <;> cases hx; done)
    | skip
  all_goals simp only [m_law_alike, X.isi, D.plainTy, if_true, List.any_cons, List.any_nil, Ty.has, Bool.or_false, Bool.or_self, bind_ok_, Bool.false_eq_true, if_false, isNonD, Bool.or_true, Bool.true_or, X.eqD, fx, fy, Bool.and_self, D.eqv, D.same, D.isTrueI, beq_self_eq_true, Bool.not_true, Bool.not_false, tf_, ft_]
theorem alks_non (n : Nat)  (b : Str) (fx : D.flat D.deep .non = true) : m_law_alike (n + 1) .non (.str b) = .ok (D.same .non (.str b)) := by
  have fy : ∀ z : Str, D.flat D.deep (.str z) = true := fun z => by simp only [D.flat]
  simp only [m_law_alike, X.isi, D.plainTy, if_true, List.any_cons, List.any_nil, Ty.has, Bool.or_false, Bool.or_self, bind_ok_, Bool.false_eq_true, if_false, isNonD, Bool.or_true, Bool.true_or, X.eqD, fx, fy, Bool.and_self, D.eqv, D.same, D.isTrueI, beq_self_eq_true, Bool.not_true, Bool.not_false, tf_, ft_]
theorem alks_bl (n : Nat) (a : Bool) (b : Str) (fx : D.flat D.deep (.bl a) = true) : m_law_alike (n + 1) (.bl a) (.str b) = .ok (D.same (.bl a) (.str b)) := by
  have fy : ∀ z : Str, D.flat D.deep (.str z) = true := fun z => by simp only [D.flat]
  simp only [m_law_alike, X.isi, D.plainTy, if_true, List.any_cons, List.any_nil, Ty.has, Bool.or_false, Bool.or_self, bind_ok_, Bool.false_eq_true, if_false, isNonD, Bool.or_true, Bool.true_or, X.eqD, fx, fy, Bool.and_self, D.eqv, D.same, D.isTrueI, beq_self_eq_true, Bool.not_true, Bool.not_false, tf_, ft_]
theorem alks_int (n : Nat) (a : Int) (b : Str) (fx : D.flat D.deep (.int a) = true) : m_law_alike (n + 1) (.int a) (.str b) = .ok (D.same (.int a) (.str b)) := by
  have fy : ∀ z : Str, D.flat D.deep (.str z) = true := fun z => by simp only [D.flat]
  simp only [m_law_alike, X.isi, D.plainTy, if_true, List.any_cons, List.any_nil, Ty.has, Bool.or_false, Bool.or_self, bind_ok_, Bool.false_eq_true, if_false, isNonD, Bool.or_true, Bool.true_or, X.eqD, fx, fy, Bool.and_self, D.eqv, D.same, D.isTrueI, beq_self_eq_true, Bool.not_true, Bool.not_false, tf_, ft_]
theorem alks_str (n : Nat) (a : Str) (b : Str) (fx : D.flat D.deep (.str a) = true) : m_law_alike (n + 1) (.str a) (.str b) = .ok (D.same (.str a) (.str b)) := by
  have fy : ∀ z : Str, D.flat D.deep (.str z) = true := fun z => by simp only [D.flat]
  simp only [m_law_alike, X.isi, D.plainTy, if_true, List.any_cons, List.any_nil, Ty.has, Bool.or_false, Bool.or_self, bind_ok_, Bool.false_eq_true, if_false, isNonD, Bool.or_true, Bool.true_or, X.eqD, fx, fy, Bool.and_self, D.eqv, D.same, D.isTrueI, beq_self_eq_true, Bool.not_true, Bool.not_false, tf_, ft_]
  have e : ∀ q : Bool, ((if q = true then X.ok true else X.ok false).bind fun a28 => X.ok a28) = X.ok q := fun q => by cases q <;> rfl
  generalize (a == b) = q
  exact e q
theorem alks_lst (n : Nat) (a : List D) (b : Str) (fx : D.flat D.deep (.lst a) = true) : m_law_alike (n + 1) (.lst a) (.str b) = .ok (D.same (.lst a) (.str b)) := by
  have fy : ∀ z : Str, D.flat D.deep (.str z) = true := fun z => by simp only [D.flat]
  simp only [m_law_alike, X.isi, D.plainTy, if_true, List.any_cons, List.any_nil, Ty.has, Bool.or_false, Bool.or_self, bind_ok_, Bool.false_eq_true, if_false, isNonD, Bool.or_true, Bool.true_or, X.eqD, fx, fy, Bool.and_self, D.eqv, D.same, D.isTrueI, beq_self_eq_true, Bool.not_true, Bool.not_false, tf_, ft_]
theorem alks_tup (n : Nat) (a : List D) (b : Str) (fx : D.flat D.deep (.tup a) = true) : m_law_alike (n + 1) (.tup a) (.str b) = .ok (D.same (.tup a) (.str b)) := by
  have fy : ∀ z : Str, D.flat D.deep (.str z) = true := fun z => by simp only [D.flat]
  have e1 : D.eqv (.tup a) (.str b) = false := by unfold D.eqv; rfl
  have e2 : D.same (.tup a) (.str b) = false := by unfold D.same; rfl
  have h1 : X.eqD (.tup a) (.str b) = .ok false := by
    unfold X.eqD
    rw [fx, fy, e1]
    rfl
  rw [e2]
  unfold m_law_alike
  simp only [h1, X.isi, D.plainTy, if_true, List.any_cons, List.any_nil, Ty.has, Bool.or_false, Bool.or_self, bind_ok_, Bool.false_eq_true, if_false, isNonD, Bool.or_true, Bool.true_or]
theorem alk_str (k : Nat) (hk : k ≤ 40) (n : Nat) (x : D) (b : Str) (hx : D.okA k x = true) : m_law_alike (n + 1) x (.str b) = .ok (D.same x (.str b)) := by
  have fx := okA_deep hk hx
  clear hk
  cases x with
  | non => exact alks_non n b fx
  | bl a => exact alks_bl n a b fx
  | int a => exact alks_int n a b fx
  | str a => exact alks_str n a b fx
  | lst a => exact alks_lst n a b fx
  | tup a => exact alks_tup n a b fx
  | _ => cases k <;> simp only [D.okA] at hx <;> cases hx
theorem alk0 (N : Nat) (x y : D) (hx : D.okA 0 x = true) (hy : D.okA 0 y = true) : m_law_alike (N + 1) x y = .ok (D.same x y) := by
  cases y with
  | non => exact alk_non 0 (by omega) N x hx
  | bl b => exact alk_bl 0 (by omega) N x b hx
  | int b => exact alk_int 0 (by omega) N x b hx
  | str b => exact alk_str 0 (by omega) N x b hx
  | _ => simp only [D.okA] at hy; cases hy
theorem q_alike (n : Nat) (x y : D) : FS (pF Pr (n + 8) i__law_alike [.d x, .d y]) (m_alike x y) (fun r => .d (.bl r)) (fun r => [.d x, .d y]) := by
  unfold m_alike
  by_cases h : (D.okA 0 x && D.okA 0 y) = true
  · rw [if_pos h]
    rw [Bool.and_eq_true] at h
    have z := q_law_alike (n + 8) x y
    have e : m_law_alike (n + 8) x y = .ok (D.same x y) := alk0 (n + 7) x y h.1 h.2
    rw [e] at z
    exact z
  · rw [if_neg h]
    exact .no
end Pd
namespace Pd
open PySem PySem.Spec PyProof.Rows L2
def m_law_name (p_row : St) : X (Str × St) := ((m_taken p_row (6 : Int)).bind fun a13 => (X.at [(1 : Int), (1 : Int), (2 : Int), (3 : Int), (5 : Int), (8 : Int)] a13.1).bind fun z => X.ok (z, a13.2)).bind fun a14 => (((X.rng (0 : Int) a14.1).bind fun a15 => (X.mapS a15 a14.2 fun x16 r17 => ((m_taken r17 (26 : Int)).bind fun a19 => (X.at (("abcdefghijklmnopqrstuvwxyz" : Str)).cps.toList a19.1).bind fun z => X.ok ((chS z), a19.2)).bind fun a20 => X.ok (some a20.1, a20.2)).bind fun ys => X.ok ys).bind fun a21 => (X.join ("" : Str) a21.1).bind fun z => X.ok (z, a21.2)).bind fun a22 => X.ok (a22.1, a22.2)
set_option maxHeartbeats 2000000 in
theorem q_law_name (n : Nat) (p_row : St) : FS (pF Pr (n + 2) i__law_name [.b true (rowD p_row)]) (m_law_name p_row) (fun r => (.d (.str r.1))) (fun r => [.b true (rowD r.2)]) := by
  unfold m_law_name
  refine fs_of (fn := f__law_name) (n := n + 1) (vs := [some (.b true (rowD p_row)), none, none]) rfl rfl rfl ?_
  change QK _ b__law_name _ _ _ _
  unfold b__law_name
  refine qq_set (ve := fun (a14 : Int × St) => (.d (.int a14.1))) (se := fun (a14 : Int × St) => [some (.b true (rowD a14.2)), none, none]) (y := fun (a14 : Int × St) => (.int a14.1)) (s2 := fun (a14 : Int × St) => [some (.b true (rowD a14.2)), some (.d (.int a14.1)), none]) (by exact (ef_idx (ak_consP (x := (.n (.lst (([(1 : Int), (1 : Int), (2 : Int), (3 : Int), (5 : Int), (8 : Int)]).map D.int)))) (pv_lst (ds := [(.int (1 : Int)), (.int (1 : Int)), (.int (2 : Int)), (.int (3 : Int)), (.int (5 : Int)), (.int (8 : Int))]) (pvs_cons (pv_k _) (pvs_cons (pv_k _) (pvs_cons (pv_k _) (pvs_cons (pv_k _) (pvs_cons (pv_k _) (pvs_cons (pv_k _) pvs_nil)))))) rfl rfl) (ak_cons (ve := fun (a13 : Int × St) => (.d (.int a13.1))) (se := fun (a13 : Int × St) => [some (.b true (rowD a13.2)), none, none]) (ef_call (ak_consP (x := (.v 0)) (pv_bor rfl) (ak_consP (x := (.d (.int (6 : Int)))) (pv_k _) (ak_nil (call_end (s := [some (.b true (rowD p_row)), none, none]) (rs := [(.v 0), (.d (.int (6 : Int)))]) (args := [.b true (rowD p_row), .d (.int (6 : Int))]) (fin := fun (z : Int × St) => [.b true (rowD z.2), .d (.int (6 : Int))]) (sr := fun (p : Int × St) => [some (.b true (rowD p.2)), none, none]) rfl nd1 (by exact (q_taken n (p_row) ((6 : Int)))) (fun _ => rfl)))))) fun a13 => (ak_nil (nary_endF (ds := [(.lst (([(1 : Int), (1 : Int), (2 : Int), (3 : Int), (5 : Int), (8 : Int)]).map D.int)), (.int a13.1)]) (k := fun z => (z, a13.2)) (w := fun (p : Int × St) => (.d (.int p.1))) (sr := fun (p : Int × St) => [some (.b true (rowD p.2)), none, none]) rfl (os_at (e := D.int)) (fun _ => rfl) (fun _ => rfl))))))) (fun _ => rfl) (fun a14 => (by exact rfl)) (fun a14 => ?_)
  refine qq_ret (ve := fun (a22 : Str × St) => (.d (.str a22.1))) (se := fun (a22 : Str × St) => [some (.b true (rowD a22.2)), some (.d (.int a14.1)), none]) (by exact (ef_bm (pv_k _) rfl rfl (ak_cons (ve := fun (a21 : (List Str) × St) => (.n (.lst ((a21.1).map D.str)))) (se := fun (a21 : (List Str) × St) => [some (.b true (rowD a21.2)), some (.d (.int a14.1)), none]) (ef_lcS (si := fun (a15 : List Int) => [some (.b true (rowD a14.2)), some (.d (.int a14.1)), none]) (xs := fun (a15 : List Int) => a15) (en := D.int) (g := fun (a15 : List Int) => []) (er := D.str) (r := fun (a15 : List Int) => a14.2) (W := fun (a15 : List Int) (r17 : St) => [some (.b true (rowD r17)), some (.d (.int a14.1)), none]) (s2 := fun (a15 : List Int) (r17 : St) => [some (.b true (rowD r17)), some (.d (.int a14.1)), none]) (k := fun (a15 : List Int) (ys : (List Str) × St) => ys) (w := (fun (q : (List Str) × St) => (.n (.lst ((q.1).map D.str))))) (sr := (fun (q : (List Str) × St) => [some (.b true (rowD q.2)), some (.d (.int a14.1)), none])) (if_rng (pv_k _) (pv_var (i := 1) rfl)) rfl (fun a15 => rfl) (fun a15 r17 => chk_nil) (fun a15 x16 r17 => ⟨[some (.b true (rowD r17)), some (.d (.int a14.1)), some (.d (.int x16))], (bt_n rfl), (fun (c : Option Str × St) => [some (.b true (rowD c.2)), some (.d (.int a14.1)), some (.d (.int x16))]), (turn_noE (k := fun a20 => (some a20.1, a20.2)) (o := (fun (c : Option Str × St) => c.1)) (er := D.str) (sr := (fun (c : Option Str × St) => [some (.b true (rowD c.2)), some (.d (.int a14.1)), some (.d (.int x16))])) (y := fun a20 => a20.1) (ef_idx (ak_consP (x := (.d (.str ("abcdefghijklmnopqrstuvwxyz" : Str)))) (pv_k _) (ak_cons (ve := fun (a19 : Int × St) => (.d (.int a19.1))) (se := fun (a19 : Int × St) => [some (.b true (rowD a19.2)), some (.d (.int a14.1)), some (.d (.int x16))]) (ef_call (ak_consP (x := (.v 0)) (pv_bor rfl) (ak_consP (x := (.d (.int (26 : Int)))) (pv_k _) (ak_nil (call_end (s := [some (.b true (rowD r17)), some (.d (.int a14.1)), some (.d (.int x16))]) (rs := [(.v 0), (.d (.int (26 : Int)))]) (args := [.b true (rowD r17), .d (.int (26 : Int))]) (fin := fun (z : Int × St) => [.b true (rowD z.2), .d (.int (26 : Int))]) (sr := fun (p : Int × St) => [some (.b true (rowD p.2)), some (.d (.int a14.1)), some (.d (.int x16))]) rfl nd1 (by exact (q_taken n (r17) ((26 : Int)))) (fun _ => rfl)))))) fun a19 => (ak_nil (nary_endF (ds := [(.str ("abcdefghijklmnopqrstuvwxyz" : Str)), (.int a19.1)]) (k := fun z => ((chS z), a19.2)) (w := fun (p : Str × St) => (.d (.str p.1))) (sr := fun (p : Str × St) => [some (.b true (rowD p.2)), some (.d (.int a14.1)), some (.d (.int x16))]) rfl os_atS (fun _ => rfl) (fun _ => rfl)))))) (fun _ => rfl) (fun _ => rfl)), fun _ => rfl⟩) (fun a15 r17 => rfl) (fun _ _ => rfl) (fun _ _ => rfl)) fun a21 => (ak_nil (nary_endF (F := bmP .join (.str ("" : Str))) (ds := [(.lst ((a21.1).map D.str))]) (k := fun z => (z, a21.2)) (w := fun (p : Str × St) => (.d (.str p.1))) (sr := fun (p : Str × St) => [some (.b true (rowD p.2)), some (.d (.int a14.1)), none]) rfl os_join (fun _ => rfl) (fun _ => rfl)))))) (fun a22 => ?_)
  exact rfl
def m_law_names (p_row : St) (p_many : Int) : X ((List Str) × St) := (X.rng (0 : Int) p_many).bind fun a9 => (X.fold a9 ([], p_row) fun (x10 : Int) (q11 : ((List Str) × St)) => ((m_law_name (q11.2)).bind fun a23 => ((if ((q11.1).any (· == a23.1)) = true then (X.at ((((("abcdefghijklmnopqrstuvwxyz" : Str)).cps.toList).filter fun x41 => (!(q11.1).any (· == (chS x41)))).map fun x41 => (chS x41)) (0 : Int)).bind fun a44 => X.ok a44 else X.ok a23.1 : X (Str))).bind fun q34 => (X.push q11.1 q34).bind fun a45 => X.ok (a45, a23.2) : X ((List Str) × St))).bind fun q11 => X.ok (q11.1, q11.2)
set_option maxHeartbeats 2000000 in
theorem q_law_names (n : Nat) (p_row : St) (p_many : Int) : FS (pF Pr (n + 3) i__law_names [.b true (rowD p_row), .d (.int p_many)]) (m_law_names p_row p_many) (fun r => (.n (.lst ((r.1).map D.str)))) (fun r => [.b true (rowD r.2), .d (.int p_many)]) := by
  unfold m_law_names
  refine fs_of (fn := f__law_names) (n := n + 2) (vs := [some (.b true (rowD p_row)), some (.d (.int p_many)), none, none, none, none]) rfl rfl rfl ?_
  change QK _ b__law_names _ _ _ _
  unfold b__law_names
  refine qq_cellP (y := (([]).map D.str)) (s2 := [some (.b true (rowD p_row)), some (.d (.int p_many)), some (.c (.lst (([]).map D.str))), none, none, none]) (by exact (pv_lst (ds := []) pvs_nil rfl rfl)) (by exact rfl) ?_
  refine qq_fold (xs := fun (a9 : List Int) => a9) (en := D.int) (g := fun (a9 : List Int) => []) (st := fun (a9 : List Int) => ([], p_row)) (j := fun (a9 : List Int) => (⟨none, rfl⟩, ⟨none, rfl⟩)) (V := fun (a9 : List Int) => fun (q11 : ((List Str) × St)) (j12 : (Jn × Jn)) => [some (.b true (rowD q11.2)), some (.d (.int p_many)), some (.c (.lst ((q11.1).map D.str))), j12.2.1, j12.1.1, none]) (V' := fun (a9 : List Int) => fun (q11 : ((List Str) × St)) (j12 : (Jn × Jn)) => [some (.b true (rowD q11.2)), some (.d (.int p_many)), some (.c (.lst ((q11.1).map D.str))), j12.2.1, j12.1.1, none]) (si := fun (a9 : List Int) => [some (.b true (rowD p_row)), some (.d (.int p_many)), some (.c (.lst (([]).map D.str))), none, none, none]) (by exact (if_rng (pv_k _) (pv_var (i := 1) rfl))) (fun a9 => rfl) (fun a9 _ _ => (by exact chk_nil)) (fun a9 x10 q11 j12 => ⟨[some (.b true (rowD q11.2)), some (.d (.int p_many)), some (.c (.lst ((q11.1).map D.str))), some (.d (.int x10)), j12.1.1, none], (by exact (bt_n (psetJ (o := j12.2.1) rfl j12.2.2 rfl))), ?_⟩) (fun _ _ _ => rfl) (fun a9 q11 j12 => ?_)
  · refine qq_set (ve := fun (a23 : Str × St) => (.d (.str a23.1))) (se := fun (a23 : Str × St) => [some (.b true (rowD a23.2)), some (.d (.int p_many)), some (.c (.lst ((q11.1).map D.str))), some (.d (.int x10)), j12.1.1, none]) (y := fun (a23 : Str × St) => (.str a23.1)) (s2 := fun (a23 : Str × St) => [some (.b true (rowD a23.2)), some (.d (.int p_many)), some (.c (.lst ((q11.1).map D.str))), some (.d (.int x10)), some (.d (.str a23.1)), none]) (by exact (ef_call (ak_consP (x := (.v 0)) (pv_bor rfl) (ak_nil (call_end (s := [some (.b true (rowD q11.2)), some (.d (.int p_many)), some (.c (.lst ((q11.1).map D.str))), some (.d (.int x10)), j12.1.1, none]) (rs := [(.v 0)]) (args := [.b true (rowD q11.2)]) (fin := fun (z : Str × St) => [.b true (rowD z.2)]) (sr := fun (p : Str × St) => [some (.b true (rowD p.2)), some (.d (.int p_many)), some (.c (.lst ((q11.1).map D.str))), some (.d (.int x10)), j12.1.1, none]) rfl nd1 (by exact (q_law_name n (q11.2))) (fun _ => rfl)))))) (fun _ => rfl) (fun a23 => (by exact (psetJ (o := j12.1.1) rfl j12.1.2 rfl))) (fun a23 => ?_)
    refine qq_join (V := fun (q34 : (Str)) (j35 : Unit) => [some (.b true (rowD a23.2)), some (.d (.int p_many)), some (.c (.lst ((q11.1).map D.str))), some (.d (.int x10)), some (.d (.str q34)), none]) (qk_iteP (by exact (tv_v (d := (.bl ((q11.1).any (· == a23.1)))) (fun _ => rfl) (pv_op2 (x := (.d (.str a23.1))) (d := (.str a23.1)) (y := (.v 2)) (e := (.lst ((q11.1).map D.str))) (r := (.d (.bl ((q11.1).any (· == a23.1))))) (pv_var (i := 4) rfl) (pv_cell rfl) rfl rfl op_inS) rfl rfl)) ?_ ?_) (fun q34 j35 => ?_)
    · refine qq_set (ve := fun (a44 : Str) => (.d (.str a44))) (se := fun (a44 : Str) => [some (.b true (rowD a23.2)), some (.d (.int p_many)), some (.c (.lst ((q11.1).map D.str))), some (.d (.int x10)), some (.d (.str a23.1)), none]) (y := fun (a44 : Str) => (.str a44)) (s2 := fun (a44 : Str) => [some (.b true (rowD a23.2)), some (.d (.int p_many)), some (.c (.lst ((q11.1).map D.str))), some (.d (.int x10)), some (.d (.str a44)), none]) (by exact (ef_idx (ak_consP (x := (.n (.lst ((((((("abcdefghijklmnopqrstuvwxyz" : Str)).cps.toList).filter fun x41 => (!(q11.1).any (· == (chS x41)))).map fun x41 => (chS x41))).map D.str)))) (pv_lcF (xs := (("abcdefghijklmnopqrstuvwxyz" : Str)).cps.toList) (en := (fun c => .str (chS c))) (g := []) (p := fun x41 => (!(q11.1).any (· == (chS x41)))) (f := fun x41 => (chS x41)) (er := D.str) (sw := [some (.b true (rowD a23.2)), some (.d (.int p_many)), some (.c (.lst ((q11.1).map D.str))), some (.d (.int x10)), some (.d (.str a23.1)), none]) (iv_v (fun _ => rfl) (pv_k _) rfl) rfl rfl rfl chk_nil (fun x41 => ⟨[some (.b true (rowD a23.2)), some (.d (.int p_many)), some (.c (.lst ((q11.1).map D.str))), some (.d (.int x10)), some (.d (.str a23.1)), some (.d (.str (chS x41)))], (bt_n rfl), (tv_v (d := (.bl (!(q11.1).any (· == (chS x41))))) (fun _ => rfl) (pv_op2 (x := (.d (.str (chS x41)))) (d := (.str (chS x41))) (y := (.v 2)) (e := (.lst ((q11.1).map D.str))) (r := (.d (.bl (!(q11.1).any (· == (chS x41)))))) (pv_var (i := 5) rfl) (pv_cell rfl) rfl rfl op_ninS) rfl rfl), ⟨_, (pv_var (i := 5) rfl), rfl⟩, rfl⟩) rfl) (ak_consP (x := (.d (.int (0 : Int)))) (pv_k _) (ak_nil (nary_end (ds := [(.lst ((((((("abcdefghijklmnopqrstuvwxyz" : Str)).cps.toList).filter fun x41 => (!(q11.1).any (· == (chS x41)))).map fun x41 => (chS x41))).map D.str)), (.int (0 : Int))]) rfl (os_at (e := D.str)))))))) (fun _ => rfl) (fun a44 => (by exact rfl)) (fun a44 => ?_)
      refine qq_skip ?_
      exact qq_nxJ (j := ()) rfl
    · refine qq_skip ?_
      exact qq_nxJ (j := ()) rfl
    · refine qq_ex (ve := fun (a45 : (List Str)) => (.d .non)) (se := fun (a45 : (List Str)) => [some (.b true (rowD a23.2)), some (.d (.int p_many)), some (.c (.lst ((a45).map D.str))), some (.d (.int x10)), some (.d (.str q34)), none]) (by exact (ef_mutF (p := Pv.c (.lst ((q11.1).map D.str))) rfl (fun _ h => by cases h) rfl rfl (ak_consP (x := (.d (.str q34))) (pv_var (i := 4) rfl) (ak_nil (mut_end (ds := [(.str q34)]) (s' := [some (.b true (rowD a23.2)), some (.d (.int p_many)), some (.c (.lst ((q11.1).map D.str))), some (.d (.int x10)), some (.d (.str q34)), none]) rfl (mu_append (e := D.str) (k := Pv.c) (x := q34) rfl rfl (fun _ => rfl) (sr := fun (p : (List Str)) => [some (.b true (rowD a23.2)), some (.d (.int p_many)), some (.c (.lst ((p).map D.str))), some (.d (.int x10)), some (.d (.str q34)), none]) (fun _ => rfl))))))) (fun a45 => ?_)
      refine qq_skip ?_
      exact ⟨(⟨some (.d (.str q34)), rfl⟩, ⟨some (.d (.int x10)), rfl⟩), .inl rfl⟩
  · refine qq_retP (x := (.v 2)) (by exact (pv_cell rfl)) ?_
    exact rfl
def m_law_pick (p_row : St) (p_some : (List Int)) : X (Int × St) := ((m_taken p_row ((p_some).length : Int)).bind fun a57 => (X.at p_some a57.1).bind fun z => X.ok (z, a57.2)).bind fun a58 => X.ok (a58.1, a58.2)
set_option maxHeartbeats 2000000 in
theorem q_law_pick (n : Nat) (p_row : St) (p_some : (List Int)) : FS (pF Pr (n + 2) i__law_pick [.b true (rowD p_row), .d (.lst ((p_some).map D.int))]) (m_law_pick p_row p_some) (fun r => (.d (.int r.1))) (fun r => [.b true (rowD r.2), .d (.lst ((p_some).map D.int))]) := by
  unfold m_law_pick
  refine fs_of (fn := f__law_pick) (n := n + 1) (vs := [some (.b true (rowD p_row)), some (.d (.lst ((p_some).map D.int)))]) rfl rfl rfl ?_
  change QK _ b__law_pick _ _ _ _
  unfold b__law_pick
  refine qq_ret (ve := fun (a58 : Int × St) => (.d (.int a58.1))) (se := fun (a58 : Int × St) => [some (.b true (rowD a58.2)), some (.d (.lst ((p_some).map D.int)))]) (by exact (ef_idx (ak_consP (x := (.d (.lst ((p_some).map D.int)))) (pv_var (i := 1) rfl) (ak_cons (ve := fun (a57 : Int × St) => (.d (.int a57.1))) (se := fun (a57 : Int × St) => [some (.b true (rowD a57.2)), some (.d (.lst ((p_some).map D.int)))]) (ef_call (ak_consP (x := (.v 0)) (pv_bor rfl) (ak_consP (x := (.d (.int ((p_some).length : Int)))) (pv_bi1 (b := .len) (x := (.d (.lst ((p_some).map D.int)))) (d := (.lst ((p_some).map D.int))) (r := (.d (.int ((p_some).length : Int)))) (pv_var (i := 1) rfl) rfl op_len) (ak_nil (call_end (s := [some (.b true (rowD p_row)), some (.d (.lst ((p_some).map D.int)))]) (rs := [(.v 0), (.d (.int ((p_some).length : Int)))]) (args := [.b true (rowD p_row), .d (.int ((p_some).length : Int))]) (fin := fun (z : Int × St) => [.b true (rowD z.2), .d (.int ((p_some).length : Int))]) (sr := fun (p : Int × St) => [some (.b true (rowD p.2)), some (.d (.lst ((p_some).map D.int)))]) rfl nd1 (by exact (q_taken n (p_row) (((p_some).length : Int)))) (fun _ => rfl)))))) fun a57 => (ak_nil (nary_endF (ds := [(.lst ((p_some).map D.int)), (.int a57.1)]) (k := fun z => (z, a57.2)) (w := fun (p : Int × St) => (.d (.int p.1))) (sr := fun (p : Int × St) => [some (.b true (rowD p.2)), some (.d (.lst ((p_some).map D.int)))]) rfl (os_at (e := D.int)) (fun _ => rfl) (fun _ => rfl))))))) (fun a58 => ?_)
  exact rfl
def m_law_list (p_row : St) : X ((List (Str × Int × Int)) × St) := ((m_taken p_row (12 : Int)).bind fun a5 => X.ok ((a5.1 == (0 : Int)), a5.2)).bind fun a6 => ((if a6.1 = true then X.ok (((12 : Int), a6.2) : Int × St) else (m_taken a6.2 (5 : Int)).bind fun a7 => X.ok (((1 : Int) + a7.1), a7.2)).bind fun a8 => m_law_names (a8.2) (a8.1)).bind fun a46 => (X.fold a46.1 ([], a46.2) fun (x47 : Str) (q48 : ((List (Str × Int × Int)) × St)) => (((((m_taken q48.2 (6 : Int)).bind fun a52 => X.ok (((1 : Int) + a52.1), a52.2)).bind fun a53 => ((m_taken a53.2 (20 : Int)).bind fun a54 => X.ok (((1 : Int) + a54.1), a54.2)).bind fun a55 => X.ok (([a53.1, a55.1, (if a6.1 = true then (200 : Int) else (7 : Int))], a55.2) : (List Int) × St)).bind fun a56 => m_law_pick (a56.2) (a56.1)).bind fun a59 => (((m_taken a59.2 (12 : Int)).bind fun a60 => (m_taken a60.2 (100 : Int)).bind fun a61 => (X.mul a59.1 (5 : Int)).bind fun a62 => X.ok (([a60.1, a61.1, a62, (if a6.1 = true then (10000 : Int) else (0 : Int))], a61.2) : (List Int) × St)).bind fun a63 => m_law_pick (a63.2) (a63.1)).bind fun a64 => (X.push q48.1 (x47, a59.1, a64.1)).bind fun a65 => X.ok (a65, a64.2) : X ((List (Str × Int × Int)) × St))).bind fun q48 => X.ok (q48.1, q48.2)
set_option maxHeartbeats 2000000 in
theorem q_law_list (n : Nat) (p_row : St) : FS (pF Pr (n + 4) i__law_list [.b true (rowD p_row)]) (m_law_list p_row) (fun r => (.n (.lst ((r.1).map (eT3 D.str D.int D.int))))) (fun r => [.b true (rowD r.2)]) := by
  unfold m_law_list
  refine fs_of (fn := f__law_list) (n := n + 3) (vs := [some (.b true (rowD p_row)), none, none, none, none, none]) rfl rfl rfl ?_
  change QK _ b__law_list _ _ _ _
  unfold b__law_list
  refine qq_par (pk_consP (c := true) (x := (.n (.lst (([]).map (fun x => x))))) (x' := (.n (.lst (([]).map (fun x => x))))) (by exact (pv_lst (ds := []) pvs_nil rfl rfl)) rfl (pk_cons (c := false) (ve := fun (a6 : Bool × St) => (.d (.bl a6.1))) (se := fun (a6 : Bool × St) => [some (.b true (rowD a6.2)), none, none, none, none, none]) (ve' := fun (a6 : Bool × St) => (.d (.bl a6.1))) (by exact (ef_op2 (ak_cons (ve := fun (a5 : Int × St) => (.d (.int a5.1))) (se := fun (a5 : Int × St) => [some (.b true (rowD a5.2)), none, none, none, none, none]) (ef_call (ak_consP (x := (.v 0)) (pv_bor rfl) (ak_consP (x := (.d (.int (12 : Int)))) (pv_k _) (ak_nil (call_end (s := [some (.b true (rowD p_row)), none, none, none, none, none]) (rs := [(.v 0), (.d (.int (12 : Int)))]) (args := [.b true (rowD p_row), .d (.int (12 : Int))]) (fin := fun (z : Int × St) => [.b true (rowD z.2), .d (.int (12 : Int))]) (sr := fun (p : Int × St) => [some (.b true (rowD p.2)), none, none, none, none, none]) rfl nd1 (by exact (q_taken (n + 2) (p_row) ((12 : Int)))) (fun _ => rfl)))))) fun a5 => (ak_consP (x := (.d (.int (0 : Int)))) (pv_k _) (ak_nil (nary_ok (ds := [(.int a5.1), (.int (0 : Int))]) (r := (.d (.bl (a5.1 == (0 : Int))))) (w := fun (p : Bool × St) => (.d (.bl p.1))) (sr := fun (p : Bool × St) => [some (.b true (rowD p.2)), none, none, none, none, none]) rfl rfl rfl rfl)))))) (fun _ => rfl) (fun a6 => (pk_nil (par_on (s := [some (.b true (rowD a6.2)), none, none, none, none, none]) (s2 := [some (.b true (rowD a6.2)), some (.c (.lst (([]).map (eT3 D.str D.int D.int)))), some (.d (.bl a6.1)), none, none, none]) (by exact (sa_c (s := [some (.b true (rowD a6.2)), none, none, none, none, none]) (s1 := [some (.b true (rowD a6.2)), some (.c (.lst (([]).map (eT3 D.str D.int D.int)))), none, none, none, none]) (i := 1) rfl (sa_d (s := [some (.b true (rowD a6.2)), some (.c (.lst (([]).map (eT3 D.str D.int D.int)))), none, none, none, none]) (s1 := [some (.b true (rowD a6.2)), some (.c (.lst (([]).map (eT3 D.str D.int D.int)))), some (.d (.bl a6.1)), none, none, none]) (i := 2) rfl sa_nil))) ?_)))))
  refine qq_fold (xs := fun (a46 : (List Str) × St) => a46.1) (en := D.str) (g := fun (a46 : (List Str) × St) => []) (st := fun (a46 : (List Str) × St) => ([], a46.2)) (j := fun (a46 : (List Str) × St) => (⟨none, rfl⟩, ⟨none, rfl⟩, ⟨none, rfl⟩)) (V := fun (a46 : (List Str) × St) => fun (q48 : ((List (Str × Int × Int)) × St)) (j49 : (Jn × Jn × Jn)) => [some (.b true (rowD q48.2)), some (.c (.lst ((q48.1).map (eT3 D.str D.int D.int)))), some (.d (.bl a6.1)), j49.2.2.1, j49.1.1, j49.2.1.1]) (V' := fun (a46 : (List Str) × St) => fun (q48 : ((List (Str × Int × Int)) × St)) (j49 : (Jn × Jn × Jn)) => [some (.b true (rowD q48.2)), some (.c (.lst ((q48.1).map (eT3 D.str D.int D.int)))), some (.d (.bl a6.1)), j49.2.2.1, j49.1.1, j49.2.1.1]) (si := fun (a46 : (List Str) × St) => [some (.b true (rowD a46.2)), some (.c (.lst (([]).map (eT3 D.str D.int D.int)))), some (.d (.bl a6.1)), none, none, none]) (by exact (if_v (r := fun (p : (List Str) × St) => ((p.1).map D.str, [])) (fun _ => rfl) (ef_call (ak_consP (x := (.v 0)) (pv_bor rfl) (ak_cons (ve := fun (a8 : Int × St) => (.d (.int a8.1))) (se := fun (a8 : Int × St) => [some (.b true (rowD a8.2)), some (.c (.lst (([]).map (eT3 D.str D.int D.int)))), some (.d (.bl a6.1)), none, none, none]) (ef_ifeP (tv_v (d := (.bl a6.1)) (fun _ => rfl) (pv_var (i := 2) rfl) rfl rfl) (PV.to (a := ((12 : Int), a6.2)) (w := (fun (p : Int × St) => (.d (.int p.1)))) (sr := (fun (p : Int × St) => [some (.b true (rowD p.2)), some (.c (.lst (([]).map (eT3 D.str D.int D.int)))), some (.d (.bl a6.1)), none, none, none])) (pv_k _) rfl rfl) (ef_op2 (ak_consP (x := (.d (.int (1 : Int)))) (pv_k _) (ak_cons (ve := fun (a7 : Int × St) => (.d (.int a7.1))) (se := fun (a7 : Int × St) => [some (.b true (rowD a7.2)), some (.c (.lst (([]).map (eT3 D.str D.int D.int)))), some (.d (.bl a6.1)), none, none, none]) (ef_call (ak_consP (x := (.v 0)) (pv_bor rfl) (ak_consP (x := (.d (.int (5 : Int)))) (pv_k _) (ak_nil (call_end (s := [some (.b true (rowD a6.2)), some (.c (.lst (([]).map (eT3 D.str D.int D.int)))), some (.d (.bl a6.1)), none, none, none]) (rs := [(.v 0), (.d (.int (5 : Int)))]) (args := [.b true (rowD a6.2), .d (.int (5 : Int))]) (fin := fun (z : Int × St) => [.b true (rowD z.2), .d (.int (5 : Int))]) (sr := fun (p : Int × St) => [some (.b true (rowD p.2)), some (.c (.lst (([]).map (eT3 D.str D.int D.int)))), some (.d (.bl a6.1)), none, none, none]) rfl nd1 (by exact (q_taken (n + 2) (a6.2) ((5 : Int)))) (fun _ => rfl)))))) fun a7 => (ak_nil (nary_ok (ds := [(.int (1 : Int)), (.int a7.1)]) (r := (.d (.int ((1 : Int) + a7.1)))) (w := fun (p : Int × St) => (.d (.int p.1))) (sr := fun (p : Int × St) => [some (.b true (rowD p.2)), some (.c (.lst (([]).map (eT3 D.str D.int D.int)))), some (.d (.bl a6.1)), none, none, none]) rfl rfl rfl rfl)))))) fun a8 => (ak_nil (call_end (s := [some (.b true (rowD a8.2)), some (.c (.lst (([]).map (eT3 D.str D.int D.int)))), some (.d (.bl a6.1)), none, none, none]) (rs := [(.v 0), (.d (.int a8.1))]) (args := [.b true (rowD a8.2), .d (.int a8.1)]) (fin := fun (z : (List Str) × St) => [.b true (rowD z.2), .d (.int a8.1)]) (sr := fun (p : (List Str) × St) => [some (.b true (rowD p.2)), some (.c (.lst (([]).map (eT3 D.str D.int D.int)))), some (.d (.bl a6.1)), none, none, none]) rfl nd1 (by exact (q_law_names n (a8.2) (a8.1))) (fun _ => rfl)))))) (fun _ => rfl))) (fun a46 => rfl) (fun a46 _ _ => (by exact chk_nil)) (fun a46 x47 q48 j49 => ⟨[some (.b true (rowD q48.2)), some (.c (.lst ((q48.1).map (eT3 D.str D.int D.int)))), some (.d (.bl a6.1)), some (.d (.str x47)), j49.1.1, j49.2.1.1], (by exact (bt_n (psetJ (o := j49.2.2.1) rfl j49.2.2.2 rfl))), ?_⟩) (fun _ _ _ => rfl) (fun a46 q48 j49 => ?_)
  · refine qq_set (ve := fun (a59 : Int × St) => (.d (.int a59.1))) (se := fun (a59 : Int × St) => [some (.b true (rowD a59.2)), some (.c (.lst ((q48.1).map (eT3 D.str D.int D.int)))), some (.d (.bl a6.1)), some (.d (.str x47)), j49.1.1, j49.2.1.1]) (y := fun (a59 : Int × St) => (.int a59.1)) (s2 := fun (a59 : Int × St) => [some (.b true (rowD a59.2)), some (.c (.lst ((q48.1).map (eT3 D.str D.int D.int)))), some (.d (.bl a6.1)), some (.d (.str x47)), some (.d (.int a59.1)), j49.2.1.1]) (by exact (ef_call (ak_consP (x := (.v 0)) (pv_bor rfl) (ak_cons (ve := fun (a56 : (List Int) × St) => (.n (.lst ((a56.1).map D.int)))) (se := fun (a56 : (List Int) × St) => [some (.b true (rowD a56.2)), some (.c (.lst ((q48.1).map (eT3 D.str D.int D.int)))), some (.d (.bl a6.1)), some (.d (.str x47)), j49.1.1, j49.2.1.1]) (ef_lst (ak_cons (ve := fun (a53 : Int × St) => (.d (.int a53.1))) (se := fun (a53 : Int × St) => [some (.b true (rowD a53.2)), some (.c (.lst ((q48.1).map (eT3 D.str D.int D.int)))), some (.d (.bl a6.1)), some (.d (.str x47)), j49.1.1, j49.2.1.1]) (ef_op2 (ak_consP (x := (.d (.int (1 : Int)))) (pv_k _) (ak_cons (ve := fun (a52 : Int × St) => (.d (.int a52.1))) (se := fun (a52 : Int × St) => [some (.b true (rowD a52.2)), some (.c (.lst ((q48.1).map (eT3 D.str D.int D.int)))), some (.d (.bl a6.1)), some (.d (.str x47)), j49.1.1, j49.2.1.1]) (ef_call (ak_consP (x := (.v 0)) (pv_bor rfl) (ak_consP (x := (.d (.int (6 : Int)))) (pv_k _) (ak_nil (call_end (s := [some (.b true (rowD q48.2)), some (.c (.lst ((q48.1).map (eT3 D.str D.int D.int)))), some (.d (.bl a6.1)), some (.d (.str x47)), j49.1.1, j49.2.1.1]) (rs := [(.v 0), (.d (.int (6 : Int)))]) (args := [.b true (rowD q48.2), .d (.int (6 : Int))]) (fin := fun (z : Int × St) => [.b true (rowD z.2), .d (.int (6 : Int))]) (sr := fun (p : Int × St) => [some (.b true (rowD p.2)), some (.c (.lst ((q48.1).map (eT3 D.str D.int D.int)))), some (.d (.bl a6.1)), some (.d (.str x47)), j49.1.1, j49.2.1.1]) rfl nd1 (by exact (q_taken (n + 2) (q48.2) ((6 : Int)))) (fun _ => rfl)))))) fun a52 => (ak_nil (nary_ok (ds := [(.int (1 : Int)), (.int a52.1)]) (r := (.d (.int ((1 : Int) + a52.1)))) (w := fun (p : Int × St) => (.d (.int p.1))) (sr := fun (p : Int × St) => [some (.b true (rowD p.2)), some (.c (.lst ((q48.1).map (eT3 D.str D.int D.int)))), some (.d (.bl a6.1)), some (.d (.str x47)), j49.1.1, j49.2.1.1]) rfl rfl rfl rfl))))) fun a53 => (ak_cons (ve := fun (a55 : Int × St) => (.d (.int a55.1))) (se := fun (a55 : Int × St) => [some (.b true (rowD a55.2)), some (.c (.lst ((q48.1).map (eT3 D.str D.int D.int)))), some (.d (.bl a6.1)), some (.d (.str x47)), j49.1.1, j49.2.1.1]) (ef_op2 (ak_consP (x := (.d (.int (1 : Int)))) (pv_k _) (ak_cons (ve := fun (a54 : Int × St) => (.d (.int a54.1))) (se := fun (a54 : Int × St) => [some (.b true (rowD a54.2)), some (.c (.lst ((q48.1).map (eT3 D.str D.int D.int)))), some (.d (.bl a6.1)), some (.d (.str x47)), j49.1.1, j49.2.1.1]) (ef_call (ak_consP (x := (.v 0)) (pv_bor rfl) (ak_consP (x := (.d (.int (20 : Int)))) (pv_k _) (ak_nil (call_end (s := [some (.b true (rowD a53.2)), some (.c (.lst ((q48.1).map (eT3 D.str D.int D.int)))), some (.d (.bl a6.1)), some (.d (.str x47)), j49.1.1, j49.2.1.1]) (rs := [(.v 0), (.d (.int (20 : Int)))]) (args := [.b true (rowD a53.2), .d (.int (20 : Int))]) (fin := fun (z : Int × St) => [.b true (rowD z.2), .d (.int (20 : Int))]) (sr := fun (p : Int × St) => [some (.b true (rowD p.2)), some (.c (.lst ((q48.1).map (eT3 D.str D.int D.int)))), some (.d (.bl a6.1)), some (.d (.str x47)), j49.1.1, j49.2.1.1]) rfl nd1 (by exact (q_taken (n + 2) (a53.2) ((20 : Int)))) (fun _ => rfl)))))) fun a54 => (ak_nil (nary_ok (ds := [(.int (1 : Int)), (.int a54.1)]) (r := (.d (.int ((1 : Int) + a54.1)))) (w := fun (p : Int × St) => (.d (.int p.1))) (sr := fun (p : Int × St) => [some (.b true (rowD p.2)), some (.c (.lst ((q48.1).map (eT3 D.str D.int D.int)))), some (.d (.bl a6.1)), some (.d (.str x47)), j49.1.1, j49.2.1.1]) rfl rfl rfl rfl))))) fun a55 => (ak_consP (x := (.d (.int (if a6.1 = true then (200 : Int) else (7 : Int))))) (pv_ife (e := D.int) (t1 := (200 : Int)) (t2 := (7 : Int)) (tv_v (d := (.bl a6.1)) (fun _ => rfl) (pv_var (i := 2) rfl) rfl rfl) (pv_k _) (pv_k _)) (ak_nil (lst_end (c := (([a53.1, a55.1, (if a6.1 = true then (200 : Int) else (7 : Int))], a55.2) : (List Int) × St)) (ds := [(.int a53.1), (.int a55.1), (.int (if a6.1 = true then (200 : Int) else (7 : Int)))]) (s' := [some (.b true (rowD a55.2)), some (.c (.lst ((q48.1).map (eT3 D.str D.int D.int)))), some (.d (.bl a6.1)), some (.d (.str x47)), j49.1.1, j49.2.1.1]) (w := fun (p : (List Int) × St) => (.n (.lst ((p.1).map D.int)))) (sr := fun (p : (List Int) × St) => [some (.b true (rowD p.2)), some (.c (.lst ((q48.1).map (eT3 D.str D.int D.int)))), some (.d (.bl a6.1)), some (.d (.str x47)), j49.1.1, j49.2.1.1]) rfl rfl rfl rfl)))))) fun a56 => (ak_nil (call_end (s := [some (.b true (rowD a56.2)), some (.c (.lst ((q48.1).map (eT3 D.str D.int D.int)))), some (.d (.bl a6.1)), some (.d (.str x47)), j49.1.1, j49.2.1.1]) (rs := [(.v 0), (.d (.lst ((a56.1).map D.int)))]) (args := [.b true (rowD a56.2), .d (.lst ((a56.1).map D.int))]) (fin := fun (z : Int × St) => [.b true (rowD z.2), .d (.lst ((a56.1).map D.int))]) (sr := fun (p : Int × St) => [some (.b true (rowD p.2)), some (.c (.lst ((q48.1).map (eT3 D.str D.int D.int)))), some (.d (.bl a6.1)), some (.d (.str x47)), j49.1.1, j49.2.1.1]) rfl nd1 (by exact (q_law_pick (n + 1) (a56.2) (a56.1))) (fun _ => rfl))))))) (fun _ => rfl) (fun a59 => (by exact (psetJ (o := j49.1.1) rfl j49.1.2 rfl))) (fun a59 => ?_)
    refine qq_set (ve := fun (a64 : Int × St) => (.d (.int a64.1))) (se := fun (a64 : Int × St) => [some (.b true (rowD a64.2)), some (.c (.lst ((q48.1).map (eT3 D.str D.int D.int)))), some (.d (.bl a6.1)), some (.d (.str x47)), some (.d (.int a59.1)), j49.2.1.1]) (y := fun (a64 : Int × St) => (.int a64.1)) (s2 := fun (a64 : Int × St) => [some (.b true (rowD a64.2)), some (.c (.lst ((q48.1).map (eT3 D.str D.int D.int)))), some (.d (.bl a6.1)), some (.d (.str x47)), some (.d (.int a59.1)), some (.d (.int a64.1))]) (by exact (ef_call (ak_consP (x := (.v 0)) (pv_bor rfl) (ak_cons (ve := fun (a63 : (List Int) × St) => (.n (.lst ((a63.1).map D.int)))) (se := fun (a63 : (List Int) × St) => [some (.b true (rowD a63.2)), some (.c (.lst ((q48.1).map (eT3 D.str D.int D.int)))), some (.d (.bl a6.1)), some (.d (.str x47)), some (.d (.int a59.1)), j49.2.1.1]) (ef_lst (ak_cons (ve := fun (a60 : Int × St) => (.d (.int a60.1))) (se := fun (a60 : Int × St) => [some (.b true (rowD a60.2)), some (.c (.lst ((q48.1).map (eT3 D.str D.int D.int)))), some (.d (.bl a6.1)), some (.d (.str x47)), some (.d (.int a59.1)), j49.2.1.1]) (ef_call (ak_consP (x := (.v 0)) (pv_bor rfl) (ak_consP (x := (.d (.int (12 : Int)))) (pv_k _) (ak_nil (call_end (s := [some (.b true (rowD a59.2)), some (.c (.lst ((q48.1).map (eT3 D.str D.int D.int)))), some (.d (.bl a6.1)), some (.d (.str x47)), some (.d (.int a59.1)), j49.2.1.1]) (rs := [(.v 0), (.d (.int (12 : Int)))]) (args := [.b true (rowD a59.2), .d (.int (12 : Int))]) (fin := fun (z : Int × St) => [.b true (rowD z.2), .d (.int (12 : Int))]) (sr := fun (p : Int × St) => [some (.b true (rowD p.2)), some (.c (.lst ((q48.1).map (eT3 D.str D.int D.int)))), some (.d (.bl a6.1)), some (.d (.str x47)), some (.d (.int a59.1)), j49.2.1.1]) rfl nd1 (by exact (q_taken (n + 2) (a59.2) ((12 : Int)))) (fun _ => rfl)))))) fun a60 => (ak_cons (ve := fun (a61 : Int × St) => (.d (.int a61.1))) (se := fun (a61 : Int × St) => [some (.b true (rowD a61.2)), some (.c (.lst ((q48.1).map (eT3 D.str D.int D.int)))), some (.d (.bl a6.1)), some (.d (.str x47)), some (.d (.int a59.1)), j49.2.1.1]) (ef_call (ak_consP (x := (.v 0)) (pv_bor rfl) (ak_consP (x := (.d (.int (100 : Int)))) (pv_k _) (ak_nil (call_end (s := [some (.b true (rowD a60.2)), some (.c (.lst ((q48.1).map (eT3 D.str D.int D.int)))), some (.d (.bl a6.1)), some (.d (.str x47)), some (.d (.int a59.1)), j49.2.1.1]) (rs := [(.v 0), (.d (.int (100 : Int)))]) (args := [.b true (rowD a60.2), .d (.int (100 : Int))]) (fin := fun (z : Int × St) => [.b true (rowD z.2), .d (.int (100 : Int))]) (sr := fun (p : Int × St) => [some (.b true (rowD p.2)), some (.c (.lst ((q48.1).map (eT3 D.str D.int D.int)))), some (.d (.bl a6.1)), some (.d (.str x47)), some (.d (.int a59.1)), j49.2.1.1]) rfl nd1 (by exact (q_taken (n + 2) (a60.2) ((100 : Int)))) (fun _ => rfl)))))) fun a61 => (ak_cons (ve := fun (a62 : Int) => (.d (.int a62))) (se := fun (a62 : Int) => [some (.b true (rowD a61.2)), some (.c (.lst ((q48.1).map (eT3 D.str D.int D.int)))), some (.d (.bl a6.1)), some (.d (.str x47)), some (.d (.int a59.1)), j49.2.1.1]) (ef_op2 (ak_consP (x := (.d (.int a59.1))) (pv_var (i := 4) rfl) (ak_consP (x := (.d (.int (5 : Int)))) (pv_k _) (ak_nil (nary_end (ds := [(.int a59.1), (.int (5 : Int))]) rfl os_mul))))) fun a62 => (ak_consP (x := (.d (.int (if a6.1 = true then (10000 : Int) else (0 : Int))))) (pv_ife (e := D.int) (t1 := (10000 : Int)) (t2 := (0 : Int)) (tv_v (d := (.bl a6.1)) (fun _ => rfl) (pv_var (i := 2) rfl) rfl rfl) (pv_k _) (pv_k _)) (ak_nil (lst_end (c := (([a60.1, a61.1, a62, (if a6.1 = true then (10000 : Int) else (0 : Int))], a61.2) : (List Int) × St)) (ds := [(.int a60.1), (.int a61.1), (.int a62), (.int (if a6.1 = true then (10000 : Int) else (0 : Int)))]) (s' := [some (.b true (rowD a61.2)), some (.c (.lst ((q48.1).map (eT3 D.str D.int D.int)))), some (.d (.bl a6.1)), some (.d (.str x47)), some (.d (.int a59.1)), j49.2.1.1]) (w := fun (p : (List Int) × St) => (.n (.lst ((p.1).map D.int)))) (sr := fun (p : (List Int) × St) => [some (.b true (rowD p.2)), some (.c (.lst ((q48.1).map (eT3 D.str D.int D.int)))), some (.d (.bl a6.1)), some (.d (.str x47)), some (.d (.int a59.1)), j49.2.1.1]) rfl rfl rfl rfl))))))) fun a63 => (ak_nil (call_end (s := [some (.b true (rowD a63.2)), some (.c (.lst ((q48.1).map (eT3 D.str D.int D.int)))), some (.d (.bl a6.1)), some (.d (.str x47)), some (.d (.int a59.1)), j49.2.1.1]) (rs := [(.v 0), (.d (.lst ((a63.1).map D.int)))]) (args := [.b true (rowD a63.2), .d (.lst ((a63.1).map D.int))]) (fin := fun (z : Int × St) => [.b true (rowD z.2), .d (.lst ((a63.1).map D.int))]) (sr := fun (p : Int × St) => [some (.b true (rowD p.2)), some (.c (.lst ((q48.1).map (eT3 D.str D.int D.int)))), some (.d (.bl a6.1)), some (.d (.str x47)), some (.d (.int a59.1)), j49.2.1.1]) rfl nd1 (by exact (q_law_pick (n + 1) (a63.2) (a63.1))) (fun _ => rfl))))))) (fun _ => rfl) (fun a64 => (by exact (psetJ (o := j49.2.1.1) rfl j49.2.1.2 rfl))) (fun a64 => ?_)
    refine qq_ex (ve := fun (a65 : (List (Str × Int × Int))) => (.d .non)) (se := fun (a65 : (List (Str × Int × Int))) => [some (.b true (rowD a64.2)), some (.c (.lst ((a65).map (eT3 D.str D.int D.int)))), some (.d (.bl a6.1)), some (.d (.str x47)), some (.d (.int a59.1)), some (.d (.int a64.1))]) (by exact (ef_mutF (p := Pv.c (.lst ((q48.1).map (eT3 D.str D.int D.int)))) rfl (fun _ h => by cases h) rfl rfl (ak_consP (x := (.d (.tup [(.str x47), (.int a59.1), (.int a64.1)]))) (pv_tup (ds := [(.str x47), (.int a59.1), (.int a64.1)]) (pvs_cons (pv_var (i := 3) rfl) (pvs_cons (pv_var (i := 4) rfl) (pvs_cons (pv_var (i := 5) rfl) pvs_nil))) rfl rfl) (ak_nil (mut_end (ds := [(.tup [(.str x47), (.int a59.1), (.int a64.1)])]) (s' := [some (.b true (rowD a64.2)), some (.c (.lst ((q48.1).map (eT3 D.str D.int D.int)))), some (.d (.bl a6.1)), some (.d (.str x47)), some (.d (.int a59.1)), some (.d (.int a64.1))]) rfl (mu_append (e := (eT3 D.str D.int D.int)) (k := Pv.c) (x := (x47, a59.1, a64.1)) rfl rfl (fun _ => rfl) (sr := fun (p : (List (Str × Int × Int))) => [some (.b true (rowD a64.2)), some (.c (.lst ((p).map (eT3 D.str D.int D.int)))), some (.d (.bl a6.1)), some (.d (.str x47)), some (.d (.int a59.1)), some (.d (.int a64.1))]) (fun _ => rfl))))))) (fun a65 => ?_)
    refine qq_skip ?_
    exact ⟨(⟨some (.d (.int a59.1)), rfl⟩, ⟨some (.d (.int a64.1)), rfl⟩, ⟨some (.d (.str x47)), rfl⟩), .inl rfl⟩
  · refine qq_retP (x := (.v 1)) (by exact (pv_cell rfl)) ?_
    exact rfl
def m_law_best (p_rewards : (List (Str × Int × Int))) (p_most : Int) : X (List Int) := (X.rng (0 : Int) (p_most + (1 : Int))).bind fun a73 => (X.fold a73 [] fun (x74 : Int) (q75 : ((List Int))) => (((X.mapO p_rewards fun x84 => if (decide (x84.2.1 ≤ x74)) = true then ((X.at q75 (x74 - x84.2.1)).bind fun a87 => X.ok (a87 + x84.2.2)).bind fun a88 => X.ok (some a88) else X.ok none).bind fun a89 => X.app [(0 : Int)] a89).bind fun a90 => ((X.maxL a90).bind fun a91 => X.push q75 a91).bind fun a92 => X.ok a92 : X ((List Int)))).bind fun q75 => X.ok q75
set_option maxHeartbeats 2000000 in
theorem q_law_best (n : Nat) (p_rewards : (List (Str × Int × Int))) (p_most : Int) : FS (pF Pr (n + 1) i__law_best [.d (.lst ((p_rewards).map (eT3 D.str D.int D.int))), .d (.int p_most)]) (m_law_best p_rewards p_most) (fun r => (.n (.lst ((r).map D.int)))) (fun r => [.d (.lst ((p_rewards).map (eT3 D.str D.int D.int))), .d (.int p_most)]) := by
  unfold m_law_best
  refine fs_of (fn := f__law_best) (n := n) (vs := [some (.d (.lst ((p_rewards).map (eT3 D.str D.int D.int)))), some (.d (.int p_most)), none, none, none, none]) rfl rfl rfl ?_
  change QK _ b__law_best _ _ _ _
  unfold b__law_best
  refine qq_cellP (y := (([]).map D.int)) (s2 := [some (.d (.lst ((p_rewards).map (eT3 D.str D.int D.int)))), some (.d (.int p_most)), some (.c (.lst (([]).map D.int))), none, none, none]) (by exact (pv_lst (ds := []) pvs_nil rfl rfl)) (by exact rfl) ?_
  refine qq_fold (xs := fun (a73 : List Int) => a73) (en := D.int) (g := fun (a73 : List Int) => []) (st := fun (a73 : List Int) => []) (j := fun (a73 : List Int) => (⟨none, rfl⟩, ⟨none, rfl⟩)) (V := fun (a73 : List Int) => fun (q75 : ((List Int))) (j76 : (Jn × Jn)) => [some (.d (.lst ((p_rewards).map (eT3 D.str D.int D.int)))), some (.d (.int p_most)), some (.c (.lst ((q75).map D.int))), j76.2.1, j76.1.1, none]) (V' := fun (a73 : List Int) => fun (q75 : ((List Int))) (j76 : (Jn × Jn)) => [some (.d (.lst ((p_rewards).map (eT3 D.str D.int D.int)))), some (.d (.int p_most)), some (.c (.lst ((q75).map D.int))), j76.2.1, j76.1.1, none]) (si := fun (a73 : List Int) => [some (.d (.lst ((p_rewards).map (eT3 D.str D.int D.int)))), some (.d (.int p_most)), some (.c (.lst (([]).map D.int))), none, none, none]) (by exact (if_rng (pv_k _) (pv_op2 (x := (.d (.int p_most))) (d := (.int p_most)) (y := (.d (.int (1 : Int)))) (e := (.int (1 : Int))) (r := (.d (.int (p_most + (1 : Int))))) (pv_var (i := 1) rfl) (pv_k _) rfl rfl rfl))) (fun a73 => rfl) (fun a73 _ _ => (by exact chk_nil)) (fun a73 x74 q75 j76 => ⟨[some (.d (.lst ((p_rewards).map (eT3 D.str D.int D.int)))), some (.d (.int p_most)), some (.c (.lst ((q75).map D.int))), some (.d (.int x74)), j76.1.1, none], (by exact (bt_n (psetJ (o := j76.2.1) rfl j76.2.2 rfl))), ?_⟩) (fun _ _ _ => rfl) (fun a73 q75 j76 => ?_)
  · refine qq_set (ve := fun (a90 : (List Int)) => (.n (.lst ((a90).map D.int)))) (se := fun (a90 : (List Int)) => [some (.d (.lst ((p_rewards).map (eT3 D.str D.int D.int)))), some (.d (.int p_most)), some (.c (.lst ((q75).map D.int))), some (.d (.int x74)), j76.1.1, none]) (y := fun (a90 : (List Int)) => (.lst ((a90).map D.int))) (s2 := fun (a90 : (List Int)) => [some (.d (.lst ((p_rewards).map (eT3 D.str D.int D.int)))), some (.d (.int p_most)), some (.c (.lst ((q75).map D.int))), some (.d (.int x74)), some (.d (.lst ((a90).map D.int))), none]) (by exact (ef_op2 (ak_consP (x := (.n (.lst (([(0 : Int)]).map D.int)))) (pv_lst (ds := [(.int (0 : Int))]) (pvs_cons (pv_k _) pvs_nil) rfl rfl) (ak_cons (ve := fun (a89 : (List Int)) => (.n (.lst ((a89).map D.int)))) (se := fun (a89 : (List Int)) => [some (.d (.lst ((p_rewards).map (eT3 D.str D.int D.int)))), some (.d (.int p_most)), some (.c (.lst ((q75).map D.int))), some (.d (.int x74)), j76.1.1, none]) (ef_lcQ0 (xs := p_rewards) (en := (eT3 D.str D.int D.int)) (g := []) (er := D.int) (sw := [some (.d (.lst ((p_rewards).map (eT3 D.str D.int D.int)))), some (.d (.int p_most)), some (.c (.lst ((q75).map D.int))), some (.d (.int x74)), j76.1.1, none]) (iv_v (fun _ => rfl) (pv_var (i := 0) rfl) rfl) rfl rfl chk_nil (fun x84 => ⟨[some (.d (.lst ((p_rewards).map (eT3 D.str D.int D.int)))), some (.d (.int p_most)), some (.c (.lst ((q75).map D.int))), some (.d (.int x74)), j76.1.1, some (.d (.tup [(.str x84.1), (.int x84.2.1), (.int x84.2.2)]))], (bt_n rfl), (fun (c : Option Int) => [some (.d (.lst ((p_rewards).map (eT3 D.str D.int D.int)))), some (.d (.int p_most)), some (.c (.lst ((q75).map D.int))), some (.d (.int x74)), j76.1.1, some (.d (.tup [(.str x84.1), (.int x84.2.1), (.int x84.2.2)]))]), (turn_ifE (mc := X.ok (decide (x84.2.1 ≤ x74))) (vc := id) (sc := fun _ => [some (.d (.lst ((p_rewards).map (eT3 D.str D.int D.int)))), some (.d (.int p_most)), some (.c (.lst ((q75).map D.int))), some (.d (.int x74)), j76.1.1, some (.d (.tup [(.str x84.1), (.int x84.2.1), (.int x84.2.2)]))]) (k := fun y86 a88 => (some a88)) (z := fun y86 => none) (o := (fun (c : Option Int) => c)) (er := D.int) (sr := (fun (c : Option Int) => [some (.d (.lst ((p_rewards).map (eT3 D.str D.int D.int)))), some (.d (.int p_most)), some (.c (.lst ((q75).map D.int))), some (.d (.int x74)), j76.1.1, some (.d (.tup [(.str x84.1), (.int x84.2.1), (.int x84.2.2)]))])) (y := fun y86 a88 => a88) rfl (tv_v (d := (.bl (decide (x84.2.1 ≤ x74)))) (fun _ => rfl) (pv_op2 (x := (.d (.int x84.2.1))) (d := (.int x84.2.1)) (y := (.d (.int x74))) (e := (.int x74)) (r := (.d (.bl (decide (x84.2.1 ≤ x74))))) (pv_idx (x := (.d (.tup [(.str x84.1), (.int x84.2.1), (.int x84.2.2)]))) (d := (.tup [(.str x84.1), (.int x84.2.1), (.int x84.2.2)])) (y := (.d (.int (1 : Int)))) (e := (.int (1 : Int))) (r := (.d (.int x84.2.1))) (pv_var (i := 5) rfl) (pv_k _) rfl rfl rfl) (pv_var (i := 3) rfl) rfl rfl rfl) rfl rfl).tf (fun y86 => (ef_op2 (ak_cons (ve := fun (a87 : Int) => (.d (.int a87))) (se := fun (a87 : Int) => [some (.d (.lst ((p_rewards).map (eT3 D.str D.int D.int)))), some (.d (.int p_most)), some (.c (.lst ((q75).map D.int))), some (.d (.int x74)), j76.1.1, some (.d (.tup [(.str x84.1), (.int x84.2.1), (.int x84.2.2)]))]) (ef_idx (ak_consP (x := (.v 2)) (pv_cell rfl) (ak_consP (x := (.d (.int (x74 - x84.2.1)))) (pv_op2 (x := (.d (.int x74))) (d := (.int x74)) (y := (.d (.int x84.2.1))) (e := (.int x84.2.1)) (r := (.d (.int (x74 - x84.2.1)))) (pv_var (i := 3) rfl) (pv_idx (x := (.d (.tup [(.str x84.1), (.int x84.2.1), (.int x84.2.2)]))) (d := (.tup [(.str x84.1), (.int x84.2.1), (.int x84.2.2)])) (y := (.d (.int (1 : Int)))) (e := (.int (1 : Int))) (r := (.d (.int x84.2.1))) (pv_var (i := 5) rfl) (pv_k _) rfl rfl rfl) rfl rfl rfl) (ak_nil (nary_end (ds := [(.lst ((q75).map D.int)), (.int (x74 - x84.2.1))]) rfl (os_at (e := D.int))))))) fun a87 => (ak_consP (x := (.d (.int x84.2.2))) (pv_idx (x := (.d (.tup [(.str x84.1), (.int x84.2.1), (.int x84.2.2)]))) (d := (.tup [(.str x84.1), (.int x84.2.1), (.int x84.2.2)])) (y := (.d (.int (2 : Int)))) (e := (.int (2 : Int))) (r := (.d (.int x84.2.2))) (pv_var (i := 5) rfl) (pv_k _) rfl rfl rfl) (ak_nil (nary_ok (ds := [(.int a87), (.int x84.2.2)]) (r := (.d (.int (a87 + x84.2.2)))) (w := fun (p : Int) => (.d (.int p))) (sr := fun (p : Int) => [some (.d (.lst ((p_rewards).map (eT3 D.str D.int D.int)))), some (.d (.int p_most)), some (.c (.lst ((q75).map D.int))), some (.d (.int x74)), j76.1.1, some (.d (.tup [(.str x84.1), (.int x84.2.1), (.int x84.2.2)]))]) rfl rfl rfl rfl)))))) (fun _ _ => rfl) (fun _ _ => rfl) (fun _ => rfl) (fun _ => rfl)), fun _ => rfl⟩) rfl) fun a89 => (ak_nil (nary_end (ds := [(.lst (([(0 : Int)]).map D.int)), (.lst ((a89).map D.int))]) rfl (os_app (e := D.int)))))))) (fun _ => rfl) (fun a90 => (by exact (psetJ (o := j76.1.1) rfl j76.1.2 rfl))) (fun a90 => ?_)
    refine qq_ex (ve := fun (a92 : (List Int)) => (.d .non)) (se := fun (a92 : (List Int)) => [some (.d (.lst ((p_rewards).map (eT3 D.str D.int D.int)))), some (.d (.int p_most)), some (.c (.lst ((a92).map D.int))), some (.d (.int x74)), some (.d (.lst ((a90).map D.int))), none]) (by exact (ef_mutF (p := Pv.c (.lst ((q75).map D.int))) rfl (fun _ h => by cases h) rfl rfl (ak_cons (ve := fun (a91 : Int) => (.d (.int a91))) (se := fun (a91 : Int) => [some (.d (.lst ((p_rewards).map (eT3 D.str D.int D.int)))), some (.d (.int p_most)), some (.c (.lst ((q75).map D.int))), some (.d (.int x74)), some (.d (.lst ((a90).map D.int))), none]) (ef_bi (ak_consP (x := (.d (.lst ((a90).map D.int)))) (pv_var (i := 4) rfl) (ak_nil (nary_end (ds := [(.lst ((a90).map D.int))]) rfl os_maxL)))) fun a91 => (ak_nil (mut_end (ds := [(.int a91)]) (s' := [some (.d (.lst ((p_rewards).map (eT3 D.str D.int D.int)))), some (.d (.int p_most)), some (.c (.lst ((q75).map D.int))), some (.d (.int x74)), some (.d (.lst ((a90).map D.int))), none]) rfl (mu_append (e := D.int) (k := Pv.c) (x := a91) rfl rfl (fun _ => rfl) (sr := fun (p : (List Int)) => [some (.d (.lst ((p_rewards).map (eT3 D.str D.int D.int)))), some (.d (.int p_most)), some (.c (.lst ((p).map D.int))), some (.d (.int x74)), some (.d (.lst ((a90).map D.int))), none]) (fun _ => rfl))))))) (fun a92 => ?_)
    refine qq_skip ?_
    exact ⟨(⟨some (.d (.lst ((a90).map D.int))), rfl⟩, ⟨some (.d (.int x74)), rfl⟩), .inl rfl⟩
  · refine qq_retP (x := (.v 2)) (by exact (pv_cell rfl)) ?_
    exact rfl
def m_is_row (p_thing : (Bool × List (Str × Int × Int))) : X Bool := X.ok true
set_option maxHeartbeats 2000000 in
theorem q_is_row (n : Nat) (p_thing : (Bool × List (Str × Int × Int))) : FS (pF Pr (n + 1) i_is_row [.d ((eG (eT3 D.str D.int D.int)) p_thing)]) (m_is_row p_thing) (fun r => (.d (.bl r))) (fun r => [.d ((eG (eT3 D.str D.int D.int)) p_thing)]) := by
  unfold m_is_row
  refine fs_of (fn := f_is_row) (n := n) (vs := [some (.d ((eG (eT3 D.str D.int D.int)) p_thing))]) rfl rfl rfl ?_
  change QK _ b_is_row _ _ _ _
  unfold b_is_row
  refine qq_retP (x := (.d (.bl true))) (by exact (pv_isi (x := (.d ((eG (eT3 D.str D.int D.int)) p_thing))) (d := ((eG (eT3 D.str D.int D.int)) p_thing)) (r := (.d (.bl true))) (pv_var (i := 0) rfl) rfl op_rowG)) ?_
  exact rfl
def m_is_tuple_of (p_thing : (Str × Int × Int)) (p_many : Int) : X Bool := X.ok (true && ((3 : Int) == p_many))
set_option maxHeartbeats 2000000 in
theorem q_is_tuple_of (n : Nat) (p_thing : (Str × Int × Int)) (p_many : Int) : FS (pF Pr (n + 1) i_is_tuple_of [.d (.tup [(.str p_thing.1), (.int p_thing.2.1), (.int p_thing.2.2)]), .d (.int p_many)]) (m_is_tuple_of p_thing p_many) (fun r => (.d (.bl r))) (fun r => [.d (.tup [(.str p_thing.1), (.int p_thing.2.1), (.int p_thing.2.2)]), .d (.int p_many)]) := by
  unfold m_is_tuple_of
  refine fs_of (fn := f_is_tuple_of) (n := n) (vs := [some (.d (.tup [(.str p_thing.1), (.int p_thing.2.1), (.int p_thing.2.2)])), some (.d (.int p_many))]) rfl rfl rfl ?_
  change QK _ b_is_tuple_of _ _ _ _
  unfold b_is_tuple_of
  refine qq_retP (x := (.d (.bl (true && ((3 : Int) == p_many))))) (by exact (pv_and (pv_isi (x := (.d (.tup [(.str p_thing.1), (.int p_thing.2.1), (.int p_thing.2.2)]))) (d := (.tup [(.str p_thing.1), (.int p_thing.2.1), (.int p_thing.2.2)])) (r := (.d (.bl true))) (pv_var (i := 0) rfl) rfl rfl) (pv_op2 (x := (.d (.int (3 : Int)))) (d := (.int (3 : Int))) (y := (.d (.int p_many))) (e := (.int p_many)) (r := (.d (.bl ((3 : Int) == p_many)))) (pv_bi1 (b := .len) (x := (.d (.tup [(.str p_thing.1), (.int p_thing.2.1), (.int p_thing.2.2)]))) (d := (.tup [(.str p_thing.1), (.int p_thing.2.1), (.int p_thing.2.2)])) (r := (.d (.int (3 : Int)))) (pv_var (i := 0) rfl) rfl rfl) (pv_var (i := 1) rfl) rfl rfl rfl))) ?_
  exact rfl
def m_is_name (p_thing : Str) : X Bool := if ((!true) || (!((decide ((1 : Int) ≤ ((p_thing).length : Int))) && (decide (((p_thing).length : Int) ≤ (8 : Int)))))) = true then X.ok false else X.ok (((((p_thing).cps.toList).map fun x109 => (inStr (chS x109) ("abcdefghijklmnopqrstuvwxyz" : Str)))).all id)
set_option maxHeartbeats 2000000 in
theorem q_is_name (n : Nat) (p_thing : Str) : FS (pF Pr (n + 1) i_is_name [.d (.str p_thing)]) (m_is_name p_thing) (fun r => (.d (.bl r))) (fun r => [.d (.str p_thing)]) := by
  unfold m_is_name
  refine fs_of (fn := f_is_name) (n := n) (vs := [some (.d (.str p_thing)), none]) rfl rfl rfl ?_
  change QK _ b_is_name _ _ _ _
  unfold b_is_name
  refine qq_iteP (by exact (tv_or (tv_not (tv_v (d := (.bl true)) (fun _ => rfl) (pv_isi (x := (.d (.str p_thing))) (d := (.str p_thing)) (r := (.d (.bl true))) (pv_var (i := 0) rfl) rfl rfl) rfl rfl)) (tv_not (tv_v (d := (.bl ((decide ((1 : Int) ≤ ((p_thing).length : Int))) && (decide (((p_thing).length : Int) ≤ (8 : Int)))))) (fun _ => rfl) (pv_chain (pv_k _) (pv_bi1 (b := .len) (x := (.d (.str p_thing))) (d := (.str p_thing)) (r := (.d (.int ((p_thing).length : Int)))) (pv_var (i := 0) rfl) rfl rfl) (pv_g _ _) rfl rfl rfl rfl rfl) rfl rfl)))) ?_ ?_
  · refine qq_retP (x := (.d (.bl false))) (by exact (pv_k _)) ?_
    exact rfl
  · refine qq_skip ?_
    change QK _ _ _ _ _ _
    refine qq_retP (x := (.d (.bl (((((p_thing).cps.toList).map fun x109 => (inStr (chS x109) ("abcdefghijklmnopqrstuvwxyz" : Str)))).all id)))) (by exact (pv_bi1 (b := .all) (x := (.n (.lst (((((p_thing).cps.toList).map fun x109 => (inStr (chS x109) ("abcdefghijklmnopqrstuvwxyz" : Str)))).map D.bl)))) (d := (.lst (((((p_thing).cps.toList).map fun x109 => (inStr (chS x109) ("abcdefghijklmnopqrstuvwxyz" : Str)))).map D.bl))) (r := (.d (.bl (((((p_thing).cps.toList).map fun x109 => (inStr (chS x109) ("abcdefghijklmnopqrstuvwxyz" : Str)))).all id)))) (pv_lcM (xs := (p_thing).cps.toList) (en := (fun c => .str (chS c))) (g := []) (f := fun x109 => (inStr (chS x109) ("abcdefghijklmnopqrstuvwxyz" : Str))) (er := D.bl) (sw := [some (.d (.str p_thing)), none]) (iv_v (fun _ => rfl) (pv_var (i := 0) rfl) rfl) rfl rfl chk_nil (fun x109 => ⟨[some (.d (.str p_thing)), some (.d (.str (chS x109)))], (bt_n rfl), ⟨_, (pv_op2 (x := (.d (.str (chS x109)))) (d := (.str (chS x109))) (y := (.d (.str ("abcdefghijklmnopqrstuvwxyz" : Str)))) (e := (.str ("abcdefghijklmnopqrstuvwxyz" : Str))) (r := (.d (.bl (inStr (chS x109) ("abcdefghijklmnopqrstuvwxyz" : Str))))) (pv_var (i := 1) rfl) (pv_g _ _) rfl rfl rfl), rfl⟩, rfl⟩) rfl) rfl op_all)) ?_
    exact rfl
def m_is_integer (p_thing : Int) : X Bool := X.ok (true && (!false))
set_option maxHeartbeats 2000000 in
theorem q_is_integer (n : Nat) (p_thing : Int) : FS (pF Pr (n + 1) i_is_integer [.d (.int p_thing)]) (m_is_integer p_thing) (fun r => (.d (.bl r))) (fun r => [.d (.int p_thing)]) := by
  unfold m_is_integer
  refine fs_of (fn := f_is_integer) (n := n) (vs := [some (.d (.int p_thing))]) rfl rfl rfl ?_
  change QK _ b_is_integer _ _ _ _
  unfold b_is_integer
  refine qq_retP (x := (.d (.bl (true && (!false))))) (by exact (pv_and (pv_isi (x := (.d (.int p_thing))) (d := (.int p_thing)) (r := (.d (.bl true))) (pv_var (i := 0) rfl) rfl rfl) (pv_not (pv_isi (x := (.d (.int p_thing))) (d := (.int p_thing)) (r := (.d (.bl false))) (pv_var (i := 0) rfl) rfl rfl) rfl rfl))) ?_
  exact rfl
def m_is_within (p_thing : Int) (p_least : Int) (p_most : Int) : X Bool := ((m_is_integer (p_thing)).bind fun x113 => if x113 = true then X.ok ((decide (p_least ≤ p_thing)) && (decide (p_thing ≤ p_most))) else X.ok false).bind fun a114 => X.ok a114
set_option maxHeartbeats 2000000 in
theorem q_is_within (n : Nat) (p_thing : Int) (p_least : Int) (p_most : Int) : FS (pF Pr (n + 2) i_is_within [.d (.int p_thing), .d (.int p_least), .d (.int p_most)]) (m_is_within p_thing p_least p_most) (fun r => (.d (.bl r))) (fun r => [.d (.int p_thing), .d (.int p_least), .d (.int p_most)]) := by
  unfold m_is_within
  refine fs_of (fn := f_is_within) (n := n + 1) (vs := [some (.d (.int p_thing)), some (.d (.int p_least)), some (.d (.int p_most))]) rfl rfl rfl ?_
  change QK _ b_is_within _ _ _ _
  unfold b_is_within
  refine qq_ret (ve := fun (a114 : Bool) => (.d (.bl a114))) (se := fun (a114 : Bool) => [some (.d (.int p_thing)), some (.d (.int p_least)), some (.d (.int p_most))]) (by exact (ef_and (va := fun (x113 : Bool) => x113) (sa := fun (x113 : Bool) => [some (.d (.int p_thing)), some (.d (.int p_least)), some (.d (.int p_most))]) (w := (fun (p : Bool) => (.d (.bl p)))) (sr := (fun (p : Bool) => [some (.d (.int p_thing)), some (.d (.int p_least)), some (.d (.int p_most))])) (z := fun x113 => false) (ef_call (ak_consP (x := (.d (.int p_thing))) (pv_var (i := 0) rfl) (ak_nil (call_end (s := [some (.d (.int p_thing)), some (.d (.int p_least)), some (.d (.int p_most))]) (rs := [(.d (.int p_thing))]) (args := [.d (.int p_thing)]) (fin := fun (z : Bool) => [.d (.int p_thing)]) (sr := fun _ => [some (.d (.int p_thing)), some (.d (.int p_least)), some (.d (.int p_most))]) rfl List.nodup_nil (by exact (q_is_integer n (p_thing))) (fun _ => rfl))))) (fun x113 => (PV.to (a := ((decide (p_least ≤ p_thing)) && (decide (p_thing ≤ p_most)))) (w := (fun (p : Bool) => (.d (.bl p)))) (sr := (fun (p : Bool) => [some (.d (.int p_thing)), some (.d (.int p_least)), some (.d (.int p_most))])) (pv_chain (pv_var (i := 1) rfl) (pv_var (i := 0) rfl) (pv_var (i := 2) rfl) rfl rfl rfl rfl rfl) rfl rfl)) (fun x113 => ⟨rfl, rfl⟩))) (fun a114 => ?_)
  exact rfl
def m_is_reward (p_thing : (Str × Int × Int)) : X Bool := ((m_is_tuple_of (p_thing) ((3 : Int))).bind fun x105 => if (!x105) = true then X.ok true else (m_is_name (p_thing.1)).bind fun p => X.ok (!p)).bind fun a112 => if a112 = true then X.ok false else ((m_is_within (p_thing.2.1) ((1 : Int)) ((200 : Int))).bind fun x115 => if x115 = true then m_is_within (p_thing.2.2) ((0 : Int)) ((10000 : Int)) else X.ok false).bind fun a116 => X.ok a116
set_option maxHeartbeats 2000000 in
theorem q_is_reward (n : Nat) (p_thing : (Str × Int × Int)) : FS (pF Pr (n + 3) i_is_reward [.d (.tup [(.str p_thing.1), (.int p_thing.2.1), (.int p_thing.2.2)])]) (m_is_reward p_thing) (fun r => (.d (.bl r))) (fun r => [.d (.tup [(.str p_thing.1), (.int p_thing.2.1), (.int p_thing.2.2)])]) := by
  unfold m_is_reward
  refine fs_of (fn := f_is_reward) (n := n + 2) (vs := [some (.d (.tup [(.str p_thing.1), (.int p_thing.2.1), (.int p_thing.2.2)]))]) rfl rfl rfl ?_
  change QK _ b_is_reward _ _ _ _
  unfold b_is_reward
  refine qq_ite (vc := fun (a112 : Bool) => a112) (sc := fun (a112 : Bool) => [some (.d (.tup [(.str p_thing.1), (.int p_thing.2.1), (.int p_thing.2.2)]))]) (by exact (tf_or (va := fun (x105 : Bool) => (!x105)) (sa := fun (x105 : Bool) => [some (.d (.tup [(.str p_thing.1), (.int p_thing.2.1), (.int p_thing.2.2)]))]) (v := (fun (p : Bool) => p)) (sr := (fun (p : Bool) => [some (.d (.tup [(.str p_thing.1), (.int p_thing.2.1), (.int p_thing.2.2)]))])) (z := fun x105 => true) (tf_not (tf_v (w := fun (p : Bool) => (.d (.bl p))) (sr := fun (p : Bool) => [some (.d (.tup [(.str p_thing.1), (.int p_thing.2.1), (.int p_thing.2.2)]))]) (b := fun (p : Bool) => p) (d := fun (p : Bool) => (.bl p)) (fun _ => rfl) (ef_call (ak_consP (x := (.d (.tup [(.str p_thing.1), (.int p_thing.2.1), (.int p_thing.2.2)]))) (pv_var (i := 0) rfl) (ak_consP (x := (.d (.int (3 : Int)))) (pv_k _) (ak_nil (call_end (s := [some (.d (.tup [(.str p_thing.1), (.int p_thing.2.1), (.int p_thing.2.2)]))]) (rs := [(.d (.tup [(.str p_thing.1), (.int p_thing.2.1), (.int p_thing.2.2)])), (.d (.int (3 : Int)))]) (args := [.d (.tup [(.str p_thing.1), (.int p_thing.2.1), (.int p_thing.2.2)]), .d (.int (3 : Int))]) (fin := fun (z : Bool) => [.d (.tup [(.str p_thing.1), (.int p_thing.2.1), (.int p_thing.2.2)]), .d (.int (3 : Int))]) (sr := fun _ => [some (.d (.tup [(.str p_thing.1), (.int p_thing.2.1), (.int p_thing.2.2)]))]) rfl List.nodup_nil (by exact (q_is_tuple_of (n + 1) (p_thing) ((3 : Int)))) (fun _ => rfl)))))) (fun _ => rfl) (fun _ => rfl))) (fun x105 => (tf_then (k := fun (p : Bool) => (!p)) (w' := (fun (p : Bool) => p)) (sr' := (fun (p : Bool) => [some (.d (.tup [(.str p_thing.1), (.int p_thing.2.1), (.int p_thing.2.2)]))])) (tf_not (tf_v (w := fun (p : Bool) => (.d (.bl p))) (sr := fun (p : Bool) => [some (.d (.tup [(.str p_thing.1), (.int p_thing.2.1), (.int p_thing.2.2)]))]) (b := fun (p : Bool) => p) (d := fun (p : Bool) => (.bl p)) (fun _ => rfl) (ef_call (ak_consP (x := (.d (.str p_thing.1))) (pv_idx (x := (.d (.tup [(.str p_thing.1), (.int p_thing.2.1), (.int p_thing.2.2)]))) (d := (.tup [(.str p_thing.1), (.int p_thing.2.1), (.int p_thing.2.2)])) (y := (.d (.int (0 : Int)))) (e := (.int (0 : Int))) (r := (.d (.str p_thing.1))) (pv_var (i := 0) rfl) (pv_k _) rfl rfl rfl) (ak_nil (call_end (s := [some (.d (.tup [(.str p_thing.1), (.int p_thing.2.1), (.int p_thing.2.2)]))]) (rs := [(.d (.str p_thing.1))]) (args := [.d (.str p_thing.1)]) (fin := fun (z : Bool) => [.d (.str p_thing.1)]) (sr := fun _ => [some (.d (.tup [(.str p_thing.1), (.int p_thing.2.1), (.int p_thing.2.2)]))]) rfl List.nodup_nil (by exact (q_is_name (n + 1) (p_thing.1))) (fun _ => rfl))))) (fun _ => rfl) (fun _ => rfl))) (fun _ => rfl) (fun _ => rfl))) (fun x105 => ⟨rfl, rfl⟩))) (fun a112 => ?_) (fun a112 => ?_)
  · refine qq_retP (x := (.d (.bl false))) (by exact (pv_k _)) ?_
    exact rfl
  · refine qq_skip ?_
    change QK _ _ _ _ _ _
    refine qq_ret (ve := fun (a116 : Bool) => (.d (.bl a116))) (se := fun (a116 : Bool) => [some (.d (.tup [(.str p_thing.1), (.int p_thing.2.1), (.int p_thing.2.2)]))]) (by exact (ef_and (va := fun (x115 : Bool) => x115) (sa := fun (x115 : Bool) => [some (.d (.tup [(.str p_thing.1), (.int p_thing.2.1), (.int p_thing.2.2)]))]) (w := (fun (p : Bool) => (.d (.bl p)))) (sr := (fun (p : Bool) => [some (.d (.tup [(.str p_thing.1), (.int p_thing.2.1), (.int p_thing.2.2)]))])) (z := fun x115 => false) (ef_call (ak_consP (x := (.d (.int p_thing.2.1))) (pv_idx (x := (.d (.tup [(.str p_thing.1), (.int p_thing.2.1), (.int p_thing.2.2)]))) (d := (.tup [(.str p_thing.1), (.int p_thing.2.1), (.int p_thing.2.2)])) (y := (.d (.int (1 : Int)))) (e := (.int (1 : Int))) (r := (.d (.int p_thing.2.1))) (pv_var (i := 0) rfl) (pv_k _) rfl rfl rfl) (ak_consP (x := (.d (.int (1 : Int)))) (pv_k _) (ak_consP (x := (.d (.int (200 : Int)))) (pv_g _ _) (ak_nil (call_end (s := [some (.d (.tup [(.str p_thing.1), (.int p_thing.2.1), (.int p_thing.2.2)]))]) (rs := [(.d (.int p_thing.2.1)), (.d (.int (1 : Int))), (.d (.int (200 : Int)))]) (args := [.d (.int p_thing.2.1), .d (.int (1 : Int)), .d (.int (200 : Int))]) (fin := fun (z : Bool) => [.d (.int p_thing.2.1), .d (.int (1 : Int)), .d (.int (200 : Int))]) (sr := fun _ => [some (.d (.tup [(.str p_thing.1), (.int p_thing.2.1), (.int p_thing.2.2)]))]) rfl List.nodup_nil (by exact (q_is_within n (p_thing.2.1) ((1 : Int)) ((200 : Int)))) (fun _ => rfl))))))) (fun x115 => (ef_call (ak_consP (x := (.d (.int p_thing.2.2))) (pv_idx (x := (.d (.tup [(.str p_thing.1), (.int p_thing.2.1), (.int p_thing.2.2)]))) (d := (.tup [(.str p_thing.1), (.int p_thing.2.1), (.int p_thing.2.2)])) (y := (.d (.int (2 : Int)))) (e := (.int (2 : Int))) (r := (.d (.int p_thing.2.2))) (pv_var (i := 0) rfl) (pv_k _) rfl rfl rfl) (ak_consP (x := (.d (.int (0 : Int)))) (pv_k _) (ak_consP (x := (.d (.int (10000 : Int)))) (pv_g _ _) (ak_nil (call_end (s := [some (.d (.tup [(.str p_thing.1), (.int p_thing.2.1), (.int p_thing.2.2)]))]) (rs := [(.d (.int p_thing.2.2)), (.d (.int (0 : Int))), (.d (.int (10000 : Int)))]) (args := [.d (.int p_thing.2.2), .d (.int (0 : Int)), .d (.int (10000 : Int))]) (fin := fun (z : Bool) => [.d (.int p_thing.2.2), .d (.int (0 : Int)), .d (.int (10000 : Int))]) (sr := fun _ => [some (.d (.tup [(.str p_thing.1), (.int p_thing.2.1), (.int p_thing.2.2)]))]) rfl List.nodup_nil (by exact (q_is_within n (p_thing.2.2) ((0 : Int)) ((10000 : Int)))) (fun _ => rfl)))))))) (fun x115 => ⟨rfl, rfl⟩))) (fun a116 => ?_)
    exact rfl
def m_checked_list (p_rewards : (Bool × List (Str × Int × Int))) : X (List (Str × Int × Int)) := ((m_is_row (p_rewards)).bind fun x99 => if (!x99) = true then X.ok true else X.ok (!((decide ((1 : Int) ≤ ((p_rewards).2.length : Int))) && (decide (((p_rewards).2.length : Int) ≤ (12 : Int)))))).bind fun a100 => if a100 = true then X.no else (X.fold (enumI 0 (p_rewards).2) [] fun (x102 : (Int × (Str × Int × Int))) (q103 : ((List Str))) => (((m_is_reward (x102.2)).bind fun x117 => if (!x117) = true then X.ok true else X.ok ((q103).any (· == x102.2.1))).bind fun a118 => if a118 = true then X.no else (X.push q103 x102.2.1).bind fun a119 => X.ok a119 : X ((List Str)))).bind fun q103 => X.ok (p_rewards).2
set_option maxHeartbeats 2000000 in
theorem q_checked_list (n : Nat) (p_rewards : (Bool × List (Str × Int × Int))) : FS (pF Pr (n + 4) i_checked_list [.d ((eG (eT3 D.str D.int D.int)) p_rewards)]) (m_checked_list p_rewards) (fun r => (.d (.tup ((r).map (eT3 D.str D.int D.int))))) (fun r => [.d ((eG (eT3 D.str D.int D.int)) p_rewards)]) := by
  unfold m_checked_list
  refine fs_of (fn := f_checked_list) (n := n + 3) (vs := [some (.d ((eG (eT3 D.str D.int D.int)) p_rewards)), none, none, none]) rfl rfl rfl ?_
  change QK _ b_checked_list _ _ _ _
  unfold b_checked_list
  refine qq_ite (vc := fun (a100 : Bool) => a100) (sc := fun (a100 : Bool) => [some (.d ((eG (eT3 D.str D.int D.int)) p_rewards)), none, none, none]) (by exact (tf_or (va := fun (x99 : Bool) => (!x99)) (sa := fun (x99 : Bool) => [some (.d ((eG (eT3 D.str D.int D.int)) p_rewards)), none, none, none]) (v := (fun (p : Bool) => p)) (sr := (fun (p : Bool) => [some (.d ((eG (eT3 D.str D.int D.int)) p_rewards)), none, none, none])) (z := fun x99 => true) (tf_not (tf_v (w := fun (p : Bool) => (.d (.bl p))) (sr := fun (p : Bool) => [some (.d ((eG (eT3 D.str D.int D.int)) p_rewards)), none, none, none]) (b := fun (p : Bool) => p) (d := fun (p : Bool) => (.bl p)) (fun _ => rfl) (ef_call (ak_consP (x := (.d ((eG (eT3 D.str D.int D.int)) p_rewards))) (pv_var (i := 0) rfl) (ak_nil (call_end (s := [some (.d ((eG (eT3 D.str D.int D.int)) p_rewards)), none, none, none]) (rs := [(.d ((eG (eT3 D.str D.int D.int)) p_rewards))]) (args := [.d ((eG (eT3 D.str D.int D.int)) p_rewards)]) (fin := fun (z : Bool) => [.d ((eG (eT3 D.str D.int D.int)) p_rewards)]) (sr := fun _ => [some (.d ((eG (eT3 D.str D.int D.int)) p_rewards)), none, none, none]) rfl List.nodup_nil (by exact (q_is_row (n + 2) (p_rewards))) (fun _ => rfl))))) (fun _ => rfl) (fun _ => rfl))) (fun x99 => (TV.to (a := (!((decide ((1 : Int) ≤ ((p_rewards).2.length : Int))) && (decide (((p_rewards).2.length : Int) ≤ (12 : Int)))))) (w := (fun (p : Bool) => p)) (sr := (fun (p : Bool) => [some (.d ((eG (eT3 D.str D.int D.int)) p_rewards)), none, none, none])) (tv_not (tv_v (d := (.bl ((decide ((1 : Int) ≤ ((p_rewards).2.length : Int))) && (decide (((p_rewards).2.length : Int) ≤ (12 : Int)))))) (fun _ => rfl) (pv_chain (pv_k _) (pv_bi1 (b := .len) (x := (.d ((eG (eT3 D.str D.int D.int)) p_rewards))) (d := ((eG (eT3 D.str D.int D.int)) p_rewards)) (r := (.d (.int ((p_rewards).2.length : Int)))) (pv_var (i := 0) rfl) rfl op_lenG) (pv_g _ _) rfl rfl rfl rfl rfl) rfl rfl)) rfl rfl)) (fun x99 => ⟨rfl, rfl⟩))) (fun a100 => ?_) (fun a100 => ?_)
  · exact qq_no
  · refine qq_skip ?_
    change QK _ _ _ _ _ _
    refine qq_cellP (y := (([]).map D.str)) (s2 := [some (.d ((eG (eT3 D.str D.int D.int)) p_rewards)), some (.c (.lst (([]).map D.str))), none, none]) (by exact (pv_lst (ds := []) pvs_nil rfl rfl)) (by exact rfl) ?_
    refine qq_foldP (xs := (enumI 0 (p_rewards).2)) (en := (fun (p : Int × (Str × Int × Int)) => .tup [.int p.1, (eT3 D.str D.int D.int) p.2])) (g := []) (st := []) (j := (⟨none, rfl⟩, ⟨none, rfl⟩)) (V := fun (q103 : ((List Str))) (j104 : (Jn × Jn)) => [some (.d ((eG (eT3 D.str D.int D.int)) p_rewards)), some (.c (.lst ((q103).map D.str))), j104.1.1, j104.2.1]) (V' := fun (q103 : ((List Str))) (j104 : (Jn × Jn)) => [some (.d ((eG (eT3 D.str D.int D.int)) p_rewards)), some (.c (.lst ((q103).map D.str))), j104.1.1, j104.2.1]) (by exact (if_enum (e := (eT3 D.str D.int D.int)) (xs := (p_rewards).2) (g := []) (pv_var (i := 0) rfl) sq_G)) rfl (fun _ _ => (by exact chk_nil)) (fun x102 q103 j104 => ⟨[some (.d ((eG (eT3 D.str D.int D.int)) p_rewards)), some (.c (.lst ((q103).map D.str))), some (.d (.int x102.1)), some (.d (.tup [(.str x102.2.1), (.int x102.2.2.1), (.int x102.2.2.2)]))], (by exact (bt_t (bt_cons (bt_n (psetJ (o := j104.1.1) rfl j104.1.2 rfl)) (bt_cons (bt_n (psetJ (o := j104.2.1) rfl j104.2.2 rfl)) bt_nil)))), ?_⟩) (fun _ _ => rfl) (fun q103 j104 => ?_)
    · refine qq_ite (vc := fun (a118 : Bool) => a118) (sc := fun (a118 : Bool) => [some (.d ((eG (eT3 D.str D.int D.int)) p_rewards)), some (.c (.lst ((q103).map D.str))), some (.d (.int x102.1)), some (.d (.tup [(.str x102.2.1), (.int x102.2.2.1), (.int x102.2.2.2)]))]) (by exact (tf_or (va := fun (x117 : Bool) => (!x117)) (sa := fun (x117 : Bool) => [some (.d ((eG (eT3 D.str D.int D.int)) p_rewards)), some (.c (.lst ((q103).map D.str))), some (.d (.int x102.1)), some (.d (.tup [(.str x102.2.1), (.int x102.2.2.1), (.int x102.2.2.2)]))]) (v := (fun (p : Bool) => p)) (sr := (fun (p : Bool) => [some (.d ((eG (eT3 D.str D.int D.int)) p_rewards)), some (.c (.lst ((q103).map D.str))), some (.d (.int x102.1)), some (.d (.tup [(.str x102.2.1), (.int x102.2.2.1), (.int x102.2.2.2)]))])) (z := fun x117 => true) (tf_not (tf_v (w := fun (p : Bool) => (.d (.bl p))) (sr := fun (p : Bool) => [some (.d ((eG (eT3 D.str D.int D.int)) p_rewards)), some (.c (.lst ((q103).map D.str))), some (.d (.int x102.1)), some (.d (.tup [(.str x102.2.1), (.int x102.2.2.1), (.int x102.2.2.2)]))]) (b := fun (p : Bool) => p) (d := fun (p : Bool) => (.bl p)) (fun _ => rfl) (ef_call (ak_consP (x := (.d (.tup [(.str x102.2.1), (.int x102.2.2.1), (.int x102.2.2.2)]))) (pv_var (i := 3) rfl) (ak_nil (call_end (s := [some (.d ((eG (eT3 D.str D.int D.int)) p_rewards)), some (.c (.lst ((q103).map D.str))), some (.d (.int x102.1)), some (.d (.tup [(.str x102.2.1), (.int x102.2.2.1), (.int x102.2.2.2)]))]) (rs := [(.d (.tup [(.str x102.2.1), (.int x102.2.2.1), (.int x102.2.2.2)]))]) (args := [.d (.tup [(.str x102.2.1), (.int x102.2.2.1), (.int x102.2.2.2)])]) (fin := fun (z : Bool) => [.d (.tup [(.str x102.2.1), (.int x102.2.2.1), (.int x102.2.2.2)])]) (sr := fun _ => [some (.d ((eG (eT3 D.str D.int D.int)) p_rewards)), some (.c (.lst ((q103).map D.str))), some (.d (.int x102.1)), some (.d (.tup [(.str x102.2.1), (.int x102.2.2.1), (.int x102.2.2.2)]))]) rfl List.nodup_nil (by exact (q_is_reward n (x102.2))) (fun _ => rfl))))) (fun _ => rfl) (fun _ => rfl))) (fun x117 => (TV.to (a := ((q103).any (· == x102.2.1))) (w := (fun (p : Bool) => p)) (sr := (fun (p : Bool) => [some (.d ((eG (eT3 D.str D.int D.int)) p_rewards)), some (.c (.lst ((q103).map D.str))), some (.d (.int x102.1)), some (.d (.tup [(.str x102.2.1), (.int x102.2.2.1), (.int x102.2.2.2)]))])) (tv_v (d := (.bl ((q103).any (· == x102.2.1)))) (fun _ => rfl) (pv_op2 (x := (.d (.str x102.2.1))) (d := (.str x102.2.1)) (y := (.v 1)) (e := (.lst ((q103).map D.str))) (r := (.d (.bl ((q103).any (· == x102.2.1))))) (pv_idx (x := (.d (.tup [(.str x102.2.1), (.int x102.2.2.1), (.int x102.2.2.2)]))) (d := (.tup [(.str x102.2.1), (.int x102.2.2.1), (.int x102.2.2.2)])) (y := (.d (.int (0 : Int)))) (e := (.int (0 : Int))) (r := (.d (.str x102.2.1))) (pv_var (i := 3) rfl) (pv_k _) rfl rfl rfl) (pv_cell rfl) rfl rfl op_inS) rfl rfl) rfl rfl)) (fun x117 => ⟨rfl, rfl⟩))) (fun a118 => ?_) (fun a118 => ?_)
      · exact qq_no
      · refine qq_skip ?_
        change QK _ _ _ _ _ _
        refine qq_ex (ve := fun (a119 : (List Str)) => (.d .non)) (se := fun (a119 : (List Str)) => [some (.d ((eG (eT3 D.str D.int D.int)) p_rewards)), some (.c (.lst ((a119).map D.str))), some (.d (.int x102.1)), some (.d (.tup [(.str x102.2.1), (.int x102.2.2.1), (.int x102.2.2.2)]))]) (by exact (ef_mutF (p := Pv.c (.lst ((q103).map D.str))) rfl (fun _ h => by cases h) rfl rfl (ak_consP (x := (.d (.str x102.2.1))) (pv_idx (x := (.d (.tup [(.str x102.2.1), (.int x102.2.2.1), (.int x102.2.2.2)]))) (d := (.tup [(.str x102.2.1), (.int x102.2.2.1), (.int x102.2.2.2)])) (y := (.d (.int (0 : Int)))) (e := (.int (0 : Int))) (r := (.d (.str x102.2.1))) (pv_var (i := 3) rfl) (pv_k _) rfl rfl rfl) (ak_nil (mut_end (ds := [(.str x102.2.1)]) (s' := [some (.d ((eG (eT3 D.str D.int D.int)) p_rewards)), some (.c (.lst ((q103).map D.str))), some (.d (.int x102.1)), some (.d (.tup [(.str x102.2.1), (.int x102.2.2.1), (.int x102.2.2.2)]))]) rfl (mu_append (e := D.str) (k := Pv.c) (x := x102.2.1) rfl rfl (fun _ => rfl) (sr := fun (p : (List Str)) => [some (.d ((eG (eT3 D.str D.int D.int)) p_rewards)), some (.c (.lst ((p).map D.str))), some (.d (.int x102.1)), some (.d (.tup [(.str x102.2.1), (.int x102.2.2.1), (.int x102.2.2.2)]))]) (fun _ => rfl))))))) (fun a119 => ?_)
        refine qq_skip ?_
        exact ⟨(⟨some (.d (.int x102.1)), rfl⟩, ⟨some (.d (.tup [(.str x102.2.1), (.int x102.2.2.1), (.int x102.2.2.2)])), rfl⟩), .inl rfl⟩
    · refine qq_retP (x := (.d (.tup (((p_rewards).2).map (eT3 D.str D.int D.int))))) (by exact (pv_bi1 (b := .tuple) (x := (.d ((eG (eT3 D.str D.int D.int)) p_rewards))) (d := ((eG (eT3 D.str D.int D.int)) p_rewards)) (r := (.d (.tup (((p_rewards).2).map (eT3 D.str D.int D.int))))) (pv_var (i := 0) rfl) rfl op_tupG)) ?_
      exact rfl
def m_check_points (p_points : Int) : X Unit := (m_is_within (p_points) ((0 : Int)) ((500 : Int))).bind fun a121 => if (!a121) = true then X.no else X.ok ()
set_option maxHeartbeats 2000000 in
theorem q_check_points (n : Nat) (p_points : Int) : FS (pF Pr (n + 3) i_check_points [.d (.int p_points)]) (m_check_points p_points) (fun r => (.d .non)) (fun r => [.d (.int p_points)]) := by
  unfold m_check_points
  refine fs_of (fn := f_check_points) (n := n + 2) (vs := [some (.d (.int p_points))]) rfl rfl rfl ?_
  change QK _ b_check_points _ _ _ _
  unfold b_check_points
  refine qq_ite (vc := fun (a121 : Bool) => (!a121)) (sc := fun (a121 : Bool) => [some (.d (.int p_points))]) (by exact (tf_not (tf_v (w := fun (p : Bool) => (.d (.bl p))) (sr := fun (p : Bool) => [some (.d (.int p_points))]) (b := fun (p : Bool) => p) (d := fun (p : Bool) => (.bl p)) (fun _ => rfl) (ef_call (ak_consP (x := (.d (.int p_points))) (pv_var (i := 0) rfl) (ak_consP (x := (.d (.int (0 : Int)))) (pv_k _) (ak_consP (x := (.d (.int (500 : Int)))) (pv_g _ _) (ak_nil (call_end (s := [some (.d (.int p_points))]) (rs := [(.d (.int p_points)), (.d (.int (0 : Int))), (.d (.int (500 : Int)))]) (args := [.d (.int p_points), .d (.int (0 : Int)), .d (.int (500 : Int))]) (fin := fun (z : Bool) => [.d (.int p_points), .d (.int (0 : Int)), .d (.int (500 : Int))]) (sr := fun _ => [some (.d (.int p_points))]) rfl List.nodup_nil (by exact (q_is_within n (p_points) ((0 : Int)) ((500 : Int)))) (fun _ => rfl))))))) (fun _ => rfl) (fun _ => rfl)))) (fun a121 => ?_) (fun a121 => ?_)
  · exact qq_no
  · refine qq_skip ?_
    change QK _ _ _ _ _ _
    refine qq_skip ?_
    exact rfl
def m_best_rows (p_rewards : (List (Str × Int × Int))) (p_most : Int) : X ((List Int) × (List (Option (Str × Int × Int)))) := (X.rng (1 : Int) (p_most + (1 : Int))).bind fun a123 => (X.fold a123 ([(0 : Int)], [none]) fun (x124 : Int) (q125 : ((List Int) × (List (Option (Str × Int × Int))))) => ((X.at q125.1 (x124 - (1 : Int))).bind fun a127 => (X.fold p_rewards (a127, none) fun (x129 : (Str × Int × Int)) (q130 : (Int × (Option (Str × Int × Int)))) => ((((if (decide (x129.2.1 ≤ x124)) = true then ((X.at q125.1 (x124 - x129.2.1)).bind fun a134 => X.ok (a134 + x129.2.2)).bind fun a135 => X.ok (decide (q130.1 < a135)) else X.ok false).bind fun a136 => if a136 = true then ((X.at q125.1 (x124 - x129.2.1)).bind fun a141 => X.ok (a141 + x129.2.2)).bind fun a142 => X.ok (a142, (some x129)) else X.ok (q130.1, q130.2) : X (Int × (Option (Str × Int × Int))))).bind fun q139 => X.ok (q139.1, q139.2) : X (Int × (Option (Str × Int × Int))))).bind fun q130 => (X.push q125.1 q130.1).bind fun a143 => (X.push q125.2 q130.2).bind fun a144 => X.ok (a143, a144) : X ((List Int) × (List (Option (Str × Int × Int)))))).bind fun q125 => (X.ok ((q125.1, q125.2) : ((List Int) × (List (Option (Str × Int × Int)))))).bind fun a145 => X.ok a145
set_option maxHeartbeats 2000000 in
theorem q_best_rows (n : Nat) (p_rewards : (List (Str × Int × Int))) (p_most : Int) : FS (pF Pr (n + 1) i_best_rows [.d (.tup ((p_rewards).map (eT3 D.str D.int D.int))), .d (.int p_most)]) (m_best_rows p_rewards p_most) (fun r => (.d (.tup [(.lst ((r.1).map D.int)), (.lst ((r.2).map (eO (eT3 D.str D.int D.int))))]))) (fun r => [.d (.tup ((p_rewards).map (eT3 D.str D.int D.int))), .d (.int p_most)]) := by
  unfold m_best_rows
  refine fs_of (fn := f_best_rows) (n := n) (vs := [some (.d (.tup ((p_rewards).map (eT3 D.str D.int D.int)))), some (.d (.int p_most)), none, none, none, none, none, none]) rfl rfl rfl ?_
  change QK _ b_best_rows _ _ _ _
  unfold b_best_rows
  refine qq_cellP (y := (([(0 : Int)]).map D.int)) (s2 := [some (.d (.tup ((p_rewards).map (eT3 D.str D.int D.int)))), some (.d (.int p_most)), some (.c (.lst (([(0 : Int)]).map D.int))), none, none, none, none, none]) (by exact (pv_lst (ds := [(.int (0 : Int))]) (pvs_cons (pv_k _) pvs_nil) rfl rfl)) (by exact rfl) ?_
  refine qq_cellP (y := (([none]).map (eO (eT3 D.str D.int D.int)))) (s2 := [some (.d (.tup ((p_rewards).map (eT3 D.str D.int D.int)))), some (.d (.int p_most)), some (.c (.lst (([(0 : Int)]).map D.int))), some (.c (.lst (([none]).map (eO (eT3 D.str D.int D.int))))), none, none, none, none]) (by exact (pv_lst (ds := [.non]) (pvs_cons (pv_k _) pvs_nil) rfl rfl)) (by exact rfl) ?_
  refine qq_fold (xs := fun (a123 : List Int) => a123) (en := D.int) (g := fun (a123 : List Int) => []) (st := fun (a123 : List Int) => ([(0 : Int)], [none])) (j := fun (a123 : List Int) => (⟨none, rfl⟩, ⟨none, rfl⟩, ⟨none, rfl⟩, ⟨none, rfl⟩)) (V := fun (a123 : List Int) => fun (q125 : ((List Int) × (List (Option (Str × Int × Int))))) (j126 : (Jn × Jn × Jn × Jn)) => [some (.d (.tup ((p_rewards).map (eT3 D.str D.int D.int)))), some (.d (.int p_most)), some (.c (.lst ((q125.1).map D.int))), some (.c (.lst ((q125.2).map (eO (eT3 D.str D.int D.int))))), j126.2.2.2.1, j126.1.1, j126.2.1.1, j126.2.2.1.1]) (V' := fun (a123 : List Int) => fun (q125 : ((List Int) × (List (Option (Str × Int × Int))))) (j126 : (Jn × Jn × Jn × Jn)) => [some (.d (.tup ((p_rewards).map (eT3 D.str D.int D.int)))), some (.d (.int p_most)), some (.c (.lst ((q125.1).map D.int))), some (.c (.lst ((q125.2).map (eO (eT3 D.str D.int D.int))))), j126.2.2.2.1, j126.1.1, j126.2.1.1, j126.2.2.1.1]) (si := fun (a123 : List Int) => [some (.d (.tup ((p_rewards).map (eT3 D.str D.int D.int)))), some (.d (.int p_most)), some (.c (.lst (([(0 : Int)]).map D.int))), some (.c (.lst (([none]).map (eO (eT3 D.str D.int D.int))))), none, none, none, none]) (by exact (if_rng (pv_k _) (pv_op2 (x := (.d (.int p_most))) (d := (.int p_most)) (y := (.d (.int (1 : Int)))) (e := (.int (1 : Int))) (r := (.d (.int (p_most + (1 : Int))))) (pv_var (i := 1) rfl) (pv_k _) rfl rfl rfl))) (fun a123 => rfl) (fun a123 _ _ => (by exact chk_nil)) (fun a123 x124 q125 j126 => ⟨[some (.d (.tup ((p_rewards).map (eT3 D.str D.int D.int)))), some (.d (.int p_most)), some (.c (.lst ((q125.1).map D.int))), some (.c (.lst ((q125.2).map (eO (eT3 D.str D.int D.int))))), some (.d (.int x124)), j126.1.1, j126.2.1.1, j126.2.2.1.1], (by exact (bt_n (psetJ (o := j126.2.2.2.1) rfl j126.2.2.2.2 rfl))), ?_⟩) (fun _ _ _ => rfl) (fun a123 q125 j126 => ?_)
  · refine qq_set (ve := fun (a127 : Int) => (.d (.int a127))) (se := fun (a127 : Int) => [some (.d (.tup ((p_rewards).map (eT3 D.str D.int D.int)))), some (.d (.int p_most)), some (.c (.lst ((q125.1).map D.int))), some (.c (.lst ((q125.2).map (eO (eT3 D.str D.int D.int))))), some (.d (.int x124)), j126.1.1, j126.2.1.1, j126.2.2.1.1]) (y := fun (a127 : Int) => (.int a127)) (s2 := fun (a127 : Int) => [some (.d (.tup ((p_rewards).map (eT3 D.str D.int D.int)))), some (.d (.int p_most)), some (.c (.lst ((q125.1).map D.int))), some (.c (.lst ((q125.2).map (eO (eT3 D.str D.int D.int))))), some (.d (.int x124)), some (.d (.int a127)), j126.2.1.1, j126.2.2.1.1]) (by exact (ef_idx (ak_consP (x := (.v 2)) (pv_cell rfl) (ak_consP (x := (.d (.int (x124 - (1 : Int))))) (pv_op2 (x := (.d (.int x124))) (d := (.int x124)) (y := (.d (.int (1 : Int)))) (e := (.int (1 : Int))) (r := (.d (.int (x124 - (1 : Int))))) (pv_var (i := 4) rfl) (pv_k _) rfl rfl rfl) (ak_nil (nary_end (ds := [(.lst ((q125.1).map D.int)), (.int (x124 - (1 : Int)))]) rfl (os_at (e := D.int)))))))) (fun _ => rfl) (fun a127 => (by exact (psetJ (o := j126.1.1) rfl j126.1.2 rfl))) (fun a127 => ?_)
    refine qq_setP (x := (.d .non)) (y := ((eO (eT3 D.str D.int D.int)) none)) (s2 := [some (.d (.tup ((p_rewards).map (eT3 D.str D.int D.int)))), some (.d (.int p_most)), some (.c (.lst ((q125.1).map D.int))), some (.c (.lst ((q125.2).map (eO (eT3 D.str D.int D.int))))), some (.d (.int x124)), some (.d (.int a127)), some (.d ((eO (eT3 D.str D.int D.int)) none)), j126.2.2.1.1]) (by exact (pv_k _)) rfl (by exact (psetJ (o := j126.2.1.1) rfl j126.2.1.2 rfl)) ?_
    refine qq_foldP (xs := p_rewards) (en := (eT3 D.str D.int D.int)) (g := []) (st := (a127, none)) (j := j126.2.2.1) (V := fun (q130 : (Int × (Option (Str × Int × Int)))) (j131 : (Jn)) => [some (.d (.tup ((p_rewards).map (eT3 D.str D.int D.int)))), some (.d (.int p_most)), some (.c (.lst ((q125.1).map D.int))), some (.c (.lst ((q125.2).map (eO (eT3 D.str D.int D.int))))), some (.d (.int x124)), some (.d (.int q130.1)), some (.d ((eO (eT3 D.str D.int D.int)) q130.2)), j131.1]) (V' := fun (q130 : (Int × (Option (Str × Int × Int)))) (j131 : (Jn)) => [some (.d (.tup ((p_rewards).map (eT3 D.str D.int D.int)))), some (.d (.int p_most)), some (.c (.lst ((q125.1).map D.int))), some (.c (.lst ((q125.2).map (eO (eT3 D.str D.int D.int))))), some (.d (.int x124)), some (.d (.int q130.1)), some (.d ((eO (eT3 D.str D.int D.int)) q130.2)), j131.1]) (by exact (iv_v (fun _ => rfl) (pv_var (i := 0) rfl) rfl)) rfl (fun _ _ => (by exact chk_nil)) (fun x129 q130 j131 => ⟨[some (.d (.tup ((p_rewards).map (eT3 D.str D.int D.int)))), some (.d (.int p_most)), some (.c (.lst ((q125.1).map D.int))), some (.c (.lst ((q125.2).map (eO (eT3 D.str D.int D.int))))), some (.d (.int x124)), some (.d (.int q130.1)), some (.d ((eO (eT3 D.str D.int D.int)) q130.2)), some (.d (.tup [(.str x129.1), (.int x129.2.1), (.int x129.2.2)]))], (by exact (bt_n (psetJ (o := j131.1) rfl j131.2 rfl))), ?_⟩) (fun _ _ => rfl) (fun q130 j131 => ?_)
    · refine qq_join (V := fun (q139 : (Int × (Option (Str × Int × Int)))) (j140 : Unit) => [some (.d (.tup ((p_rewards).map (eT3 D.str D.int D.int)))), some (.d (.int p_most)), some (.c (.lst ((q125.1).map D.int))), some (.c (.lst ((q125.2).map (eO (eT3 D.str D.int D.int))))), some (.d (.int x124)), some (.d (.int q139.1)), some (.d ((eO (eT3 D.str D.int D.int)) q139.2)), some (.d (.tup [(.str x129.1), (.int x129.2.1), (.int x129.2.2)]))]) (qk_ite (vc := fun (a136 : Bool) => a136) (sc := fun (a136 : Bool) => [some (.d (.tup ((p_rewards).map (eT3 D.str D.int D.int)))), some (.d (.int p_most)), some (.c (.lst ((q125.1).map D.int))), some (.c (.lst ((q125.2).map (eO (eT3 D.str D.int D.int))))), some (.d (.int x124)), some (.d (.int q130.1)), some (.d ((eO (eT3 D.str D.int D.int)) q130.2)), some (.d (.tup [(.str x129.1), (.int x129.2.1), (.int x129.2.2)]))]) (by exact (tf_and (ma := X.ok (decide (x129.2.1 ≤ x124))) (va := id) (sa := fun _ => [some (.d (.tup ((p_rewards).map (eT3 D.str D.int D.int)))), some (.d (.int p_most)), some (.c (.lst ((q125.1).map D.int))), some (.c (.lst ((q125.2).map (eO (eT3 D.str D.int D.int))))), some (.d (.int x124)), some (.d (.int q130.1)), some (.d ((eO (eT3 D.str D.int D.int)) q130.2)), some (.d (.tup [(.str x129.1), (.int x129.2.1), (.int x129.2.2)]))]) (v := (fun (p : Bool) => p)) (sr := (fun (p : Bool) => [some (.d (.tup ((p_rewards).map (eT3 D.str D.int D.int)))), some (.d (.int p_most)), some (.c (.lst ((q125.1).map D.int))), some (.c (.lst ((q125.2).map (eO (eT3 D.str D.int D.int))))), some (.d (.int x124)), some (.d (.int q130.1)), some (.d ((eO (eT3 D.str D.int D.int)) q130.2)), some (.d (.tup [(.str x129.1), (.int x129.2.1), (.int x129.2.2)]))])) (z := fun x132 => false) ((tv_v (d := (.bl (decide (x129.2.1 ≤ x124)))) (fun _ => rfl) (pv_op2 (x := (.d (.int x129.2.1))) (d := (.int x129.2.1)) (y := (.d (.int x124))) (e := (.int x124)) (r := (.d (.bl (decide (x129.2.1 ≤ x124))))) (pv_idx (x := (.d (.tup [(.str x129.1), (.int x129.2.1), (.int x129.2.2)]))) (d := (.tup [(.str x129.1), (.int x129.2.1), (.int x129.2.2)])) (y := (.d (.int (1 : Int)))) (e := (.int (1 : Int))) (r := (.d (.int x129.2.1))) (pv_var (i := 7) rfl) (pv_k _) rfl rfl rfl) (pv_var (i := 4) rfl) rfl rfl rfl) rfl rfl).tf) (fun x132 => (tf_v (w := fun (p : Bool) => (.d (.bl p))) (sr := fun (p : Bool) => [some (.d (.tup ((p_rewards).map (eT3 D.str D.int D.int)))), some (.d (.int p_most)), some (.c (.lst ((q125.1).map D.int))), some (.c (.lst ((q125.2).map (eO (eT3 D.str D.int D.int))))), some (.d (.int x124)), some (.d (.int q130.1)), some (.d ((eO (eT3 D.str D.int D.int)) q130.2)), some (.d (.tup [(.str x129.1), (.int x129.2.1), (.int x129.2.2)]))]) (b := fun (p : Bool) => p) (d := fun (p : Bool) => (.bl p)) (fun _ => rfl) (ef_op2 (ak_cons (ve := fun (a135 : Int) => (.d (.int a135))) (se := fun (a135 : Int) => [some (.d (.tup ((p_rewards).map (eT3 D.str D.int D.int)))), some (.d (.int p_most)), some (.c (.lst ((q125.1).map D.int))), some (.c (.lst ((q125.2).map (eO (eT3 D.str D.int D.int))))), some (.d (.int x124)), some (.d (.int q130.1)), some (.d ((eO (eT3 D.str D.int D.int)) q130.2)), some (.d (.tup [(.str x129.1), (.int x129.2.1), (.int x129.2.2)]))]) (ef_op2 (ak_cons (ve := fun (a134 : Int) => (.d (.int a134))) (se := fun (a134 : Int) => [some (.d (.tup ((p_rewards).map (eT3 D.str D.int D.int)))), some (.d (.int p_most)), some (.c (.lst ((q125.1).map D.int))), some (.c (.lst ((q125.2).map (eO (eT3 D.str D.int D.int))))), some (.d (.int x124)), some (.d (.int q130.1)), some (.d ((eO (eT3 D.str D.int D.int)) q130.2)), some (.d (.tup [(.str x129.1), (.int x129.2.1), (.int x129.2.2)]))]) (ef_idx (ak_consP (x := (.v 2)) (pv_cell rfl) (ak_consP (x := (.d (.int (x124 - x129.2.1)))) (pv_op2 (x := (.d (.int x124))) (d := (.int x124)) (y := (.d (.int x129.2.1))) (e := (.int x129.2.1)) (r := (.d (.int (x124 - x129.2.1)))) (pv_var (i := 4) rfl) (pv_idx (x := (.d (.tup [(.str x129.1), (.int x129.2.1), (.int x129.2.2)]))) (d := (.tup [(.str x129.1), (.int x129.2.1), (.int x129.2.2)])) (y := (.d (.int (1 : Int)))) (e := (.int (1 : Int))) (r := (.d (.int x129.2.1))) (pv_var (i := 7) rfl) (pv_k _) rfl rfl rfl) rfl rfl rfl) (ak_nil (nary_end (ds := [(.lst ((q125.1).map D.int)), (.int (x124 - x129.2.1))]) rfl (os_at (e := D.int))))))) fun a134 => (ak_consP (x := (.d (.int x129.2.2))) (pv_idx (x := (.d (.tup [(.str x129.1), (.int x129.2.1), (.int x129.2.2)]))) (d := (.tup [(.str x129.1), (.int x129.2.1), (.int x129.2.2)])) (y := (.d (.int (2 : Int)))) (e := (.int (2 : Int))) (r := (.d (.int x129.2.2))) (pv_var (i := 7) rfl) (pv_k _) rfl rfl rfl) (ak_nil (nary_ok (ds := [(.int a134), (.int x129.2.2)]) (r := (.d (.int (a134 + x129.2.2)))) (w := fun (p : Int) => (.d (.int p))) (sr := fun (p : Int) => [some (.d (.tup ((p_rewards).map (eT3 D.str D.int D.int)))), some (.d (.int p_most)), some (.c (.lst ((q125.1).map D.int))), some (.c (.lst ((q125.2).map (eO (eT3 D.str D.int D.int))))), some (.d (.int x124)), some (.d (.int q130.1)), some (.d ((eO (eT3 D.str D.int D.int)) q130.2)), some (.d (.tup [(.str x129.1), (.int x129.2.1), (.int x129.2.2)]))]) rfl rfl rfl rfl))))) fun a135 => (ak_consP (x := (.d (.int q130.1))) (pv_var (i := 5) rfl) (ak_nil (nary_ok (ds := [(.int a135), (.int q130.1)]) (r := (.d (.bl (decide (q130.1 < a135))))) (w := fun (p : Bool) => (.d (.bl p))) (sr := fun (p : Bool) => [some (.d (.tup ((p_rewards).map (eT3 D.str D.int D.int)))), some (.d (.int p_most)), some (.c (.lst ((q125.1).map D.int))), some (.c (.lst ((q125.2).map (eO (eT3 D.str D.int D.int))))), some (.d (.int x124)), some (.d (.int q130.1)), some (.d ((eO (eT3 D.str D.int D.int)) q130.2)), some (.d (.tup [(.str x129.1), (.int x129.2.1), (.int x129.2.2)]))]) rfl rfl rfl rfl))))) (fun _ => rfl) (fun _ => rfl))) (fun x132 => ⟨rfl, rfl⟩))) (fun a136 => ?_) (fun a136 => ?_)) (fun q139 j140 => ?_)
      · refine qq_set (ve := fun (a142 : Int) => (.d (.int a142))) (se := fun (a142 : Int) => [some (.d (.tup ((p_rewards).map (eT3 D.str D.int D.int)))), some (.d (.int p_most)), some (.c (.lst ((q125.1).map D.int))), some (.c (.lst ((q125.2).map (eO (eT3 D.str D.int D.int))))), some (.d (.int x124)), some (.d (.int q130.1)), some (.d ((eO (eT3 D.str D.int D.int)) q130.2)), some (.d (.tup [(.str x129.1), (.int x129.2.1), (.int x129.2.2)]))]) (y := fun (a142 : Int) => (.int a142)) (s2 := fun (a142 : Int) => [some (.d (.tup ((p_rewards).map (eT3 D.str D.int D.int)))), some (.d (.int p_most)), some (.c (.lst ((q125.1).map D.int))), some (.c (.lst ((q125.2).map (eO (eT3 D.str D.int D.int))))), some (.d (.int x124)), some (.d (.int a142)), some (.d ((eO (eT3 D.str D.int D.int)) q130.2)), some (.d (.tup [(.str x129.1), (.int x129.2.1), (.int x129.2.2)]))]) (by exact (ef_op2 (ak_cons (ve := fun (a141 : Int) => (.d (.int a141))) (se := fun (a141 : Int) => [some (.d (.tup ((p_rewards).map (eT3 D.str D.int D.int)))), some (.d (.int p_most)), some (.c (.lst ((q125.1).map D.int))), some (.c (.lst ((q125.2).map (eO (eT3 D.str D.int D.int))))), some (.d (.int x124)), some (.d (.int q130.1)), some (.d ((eO (eT3 D.str D.int D.int)) q130.2)), some (.d (.tup [(.str x129.1), (.int x129.2.1), (.int x129.2.2)]))]) (ef_idx (ak_consP (x := (.v 2)) (pv_cell rfl) (ak_consP (x := (.d (.int (x124 - x129.2.1)))) (pv_op2 (x := (.d (.int x124))) (d := (.int x124)) (y := (.d (.int x129.2.1))) (e := (.int x129.2.1)) (r := (.d (.int (x124 - x129.2.1)))) (pv_var (i := 4) rfl) (pv_idx (x := (.d (.tup [(.str x129.1), (.int x129.2.1), (.int x129.2.2)]))) (d := (.tup [(.str x129.1), (.int x129.2.1), (.int x129.2.2)])) (y := (.d (.int (1 : Int)))) (e := (.int (1 : Int))) (r := (.d (.int x129.2.1))) (pv_var (i := 7) rfl) (pv_k _) rfl rfl rfl) rfl rfl rfl) (ak_nil (nary_end (ds := [(.lst ((q125.1).map D.int)), (.int (x124 - x129.2.1))]) rfl (os_at (e := D.int))))))) fun a141 => (ak_consP (x := (.d (.int x129.2.2))) (pv_idx (x := (.d (.tup [(.str x129.1), (.int x129.2.1), (.int x129.2.2)]))) (d := (.tup [(.str x129.1), (.int x129.2.1), (.int x129.2.2)])) (y := (.d (.int (2 : Int)))) (e := (.int (2 : Int))) (r := (.d (.int x129.2.2))) (pv_var (i := 7) rfl) (pv_k _) rfl rfl rfl) (ak_nil (nary_ok (ds := [(.int a141), (.int x129.2.2)]) (r := (.d (.int (a141 + x129.2.2)))) (w := fun (p : Int) => (.d (.int p))) (sr := fun (p : Int) => [some (.d (.tup ((p_rewards).map (eT3 D.str D.int D.int)))), some (.d (.int p_most)), some (.c (.lst ((q125.1).map D.int))), some (.c (.lst ((q125.2).map (eO (eT3 D.str D.int D.int))))), some (.d (.int x124)), some (.d (.int q130.1)), some (.d ((eO (eT3 D.str D.int D.int)) q130.2)), some (.d (.tup [(.str x129.1), (.int x129.2.1), (.int x129.2.2)]))]) rfl rfl rfl rfl)))))) (fun _ => rfl) (fun a142 => (by exact rfl)) (fun a142 => ?_)
        refine qq_setP (x := (.d (.tup [(.str x129.1), (.int x129.2.1), (.int x129.2.2)]))) (y := ((eO (eT3 D.str D.int D.int)) (some x129))) (s2 := [some (.d (.tup ((p_rewards).map (eT3 D.str D.int D.int)))), some (.d (.int p_most)), some (.c (.lst ((q125.1).map D.int))), some (.c (.lst ((q125.2).map (eO (eT3 D.str D.int D.int))))), some (.d (.int x124)), some (.d (.int a142)), some (.d ((eO (eT3 D.str D.int D.int)) (some x129))), some (.d (.tup [(.str x129.1), (.int x129.2.1), (.int x129.2.2)]))]) (by exact (pv_var (i := 7) rfl)) rfl (by exact rfl) ?_
        refine qq_skip ?_
        exact qq_nxJ (j := ()) rfl
      · refine qq_skip ?_
        exact qq_nxJ (j := ()) rfl
      · refine qq_skip ?_
        exact ⟨⟨some (.d (.tup [(.str x129.1), (.int x129.2.1), (.int x129.2.2)])), rfl⟩, .inl rfl⟩
    · refine qq_ex (ve := fun (a143 : (List Int)) => (.d .non)) (se := fun (a143 : (List Int)) => [some (.d (.tup ((p_rewards).map (eT3 D.str D.int D.int)))), some (.d (.int p_most)), some (.c (.lst ((a143).map D.int))), some (.c (.lst ((q125.2).map (eO (eT3 D.str D.int D.int))))), some (.d (.int x124)), some (.d (.int q130.1)), some (.d ((eO (eT3 D.str D.int D.int)) q130.2)), j131.1]) (by exact (ef_mutF (p := Pv.c (.lst ((q125.1).map D.int))) rfl (fun _ h => by cases h) rfl rfl (ak_consP (x := (.d (.int q130.1))) (pv_var (i := 5) rfl) (ak_nil (mut_end (ds := [(.int q130.1)]) (s' := [some (.d (.tup ((p_rewards).map (eT3 D.str D.int D.int)))), some (.d (.int p_most)), some (.c (.lst ((q125.1).map D.int))), some (.c (.lst ((q125.2).map (eO (eT3 D.str D.int D.int))))), some (.d (.int x124)), some (.d (.int q130.1)), some (.d ((eO (eT3 D.str D.int D.int)) q130.2)), j131.1]) rfl (mu_append (e := D.int) (k := Pv.c) (x := q130.1) rfl rfl (fun _ => rfl) (sr := fun (p : (List Int)) => [some (.d (.tup ((p_rewards).map (eT3 D.str D.int D.int)))), some (.d (.int p_most)), some (.c (.lst ((p).map D.int))), some (.c (.lst ((q125.2).map (eO (eT3 D.str D.int D.int))))), some (.d (.int x124)), some (.d (.int q130.1)), some (.d ((eO (eT3 D.str D.int D.int)) q130.2)), j131.1]) (fun _ => rfl))))))) (fun a143 => ?_)
      refine qq_ex (ve := fun (a144 : (List (Option (Str × Int × Int)))) => (.d .non)) (se := fun (a144 : (List (Option (Str × Int × Int)))) => [some (.d (.tup ((p_rewards).map (eT3 D.str D.int D.int)))), some (.d (.int p_most)), some (.c (.lst ((a143).map D.int))), some (.c (.lst ((a144).map (eO (eT3 D.str D.int D.int))))), some (.d (.int x124)), some (.d (.int q130.1)), some (.d ((eO (eT3 D.str D.int D.int)) q130.2)), j131.1]) (by exact (ef_mutF (p := Pv.c (.lst ((q125.2).map (eO (eT3 D.str D.int D.int))))) rfl (fun _ h => by cases h) rfl rfl (ak_consP (x := (.d ((eO (eT3 D.str D.int D.int)) q130.2))) (pv_var (i := 6) rfl) (ak_nil (mut_end (ds := [((eO (eT3 D.str D.int D.int)) q130.2)]) (s' := [some (.d (.tup ((p_rewards).map (eT3 D.str D.int D.int)))), some (.d (.int p_most)), some (.c (.lst ((a143).map D.int))), some (.c (.lst ((q125.2).map (eO (eT3 D.str D.int D.int))))), some (.d (.int x124)), some (.d (.int q130.1)), some (.d ((eO (eT3 D.str D.int D.int)) q130.2)), j131.1]) rfl (mu_append (e := (eO (eT3 D.str D.int D.int))) (k := Pv.c) (x := q130.2) rfl rfl (fun _ => rfl) (sr := fun (p : (List (Option (Str × Int × Int)))) => [some (.d (.tup ((p_rewards).map (eT3 D.str D.int D.int)))), some (.d (.int p_most)), some (.c (.lst ((a143).map D.int))), some (.c (.lst ((p).map (eO (eT3 D.str D.int D.int))))), some (.d (.int x124)), some (.d (.int q130.1)), some (.d ((eO (eT3 D.str D.int D.int)) q130.2)), j131.1]) (fun _ => rfl))))))) (fun a144 => ?_)
      refine qq_skip ?_
      exact ⟨(⟨some (.d (.int q130.1)), rfl⟩, ⟨some (.d ((eO (eT3 D.str D.int D.int)) q130.2)), rfl⟩, j131, ⟨some (.d (.int x124)), rfl⟩), .inl rfl⟩
  · refine qq_ret (ve := fun (a145 : ((List Int) × (List (Option (Str × Int × Int))))) => (.d (.tup [(.lst ((a145.1).map D.int)), (.lst ((a145.2).map (eO (eT3 D.str D.int D.int))))]))) (se := fun (a145 : ((List Int) × (List (Option (Str × Int × Int))))) => [some (.d (.tup ((p_rewards).map (eT3 D.str D.int D.int)))), some (.d (.int p_most)), some (.d (.lst ((q125.1).map D.int))), some (.d (.lst ((q125.2).map (eO (eT3 D.str D.int D.int))))), j126.2.2.2.1, j126.1.1, j126.2.1.1, j126.2.2.1.1]) (by exact (ef_tup (ak_consP (x := (.v 2)) (pv_cell rfl) (ak_consP (x := (.v 3)) (pv_cell rfl) (ak_nil (tup_end (c := ((q125.1, q125.2) : ((List Int) × (List (Option (Str × Int × Int)))))) (ds := [(.lst ((q125.1).map D.int)), (.lst ((q125.2).map (eO (eT3 D.str D.int D.int))))]) (s' := [some (.d (.tup ((p_rewards).map (eT3 D.str D.int D.int)))), some (.d (.int p_most)), some (.d (.lst ((q125.1).map D.int))), some (.d (.lst ((q125.2).map (eO (eT3 D.str D.int D.int))))), j126.2.2.2.1, j126.1.1, j126.2.1.1, j126.2.2.1.1]) (w := fun (p : ((List Int) × (List (Option (Str × Int × Int))))) => (.d (.tup [(.lst ((p.1).map D.int)), (.lst ((p.2).map (eO (eT3 D.str D.int D.int))))]))) (sr := fun (p : ((List Int) × (List (Option (Str × Int × Int))))) => [some (.d (.tup ((p_rewards).map (eT3 D.str D.int D.int)))), some (.d (.int p_most)), some (.d (.lst ((q125.1).map D.int))), some (.d (.lst ((q125.2).map (eO (eT3 D.str D.int D.int))))), j126.2.2.2.1, j126.1.1, j126.2.1.1, j126.2.2.1.1]) rfl rfl rfl rfl)))))) (fun a145 => ?_)
    exact rfl
def m_best_discount (p_rewards : (Bool × List (Str × Int × Int))) (p_points : Int) : X Int := (m_checked_list (p_rewards)).bind fun a120 => (m_check_points (p_points)).bind fun a122 => (((m_best_rows (a120) (p_points)).bind fun a147 => X.ok a147.1).bind fun a148 => X.at a148 p_points).bind fun a149 => X.ok a149
set_option maxHeartbeats 2000000 in
theorem q_best_discount (n : Nat) (p_rewards : (Bool × List (Str × Int × Int))) (p_points : Int) : FS (pF Pr (n + 5) i_best_discount [.d ((eG (eT3 D.str D.int D.int)) p_rewards), .d (.int p_points)]) (m_best_discount p_rewards p_points) (fun r => (.d (.int r))) (fun r => [.d ((eG (eT3 D.str D.int D.int)) p_rewards), .d (.int p_points)]) := by
  unfold m_best_discount
  refine fs_of (fn := f_best_discount) (n := n + 4) (vs := [some (.d ((eG (eT3 D.str D.int D.int)) p_rewards)), some (.d (.int p_points)), none]) rfl rfl rfl ?_
  change QK _ b_best_discount _ _ _ _
  unfold b_best_discount
  refine qq_set (ve := fun (a120 : (List (Str × Int × Int))) => (.d (.tup ((a120).map (eT3 D.str D.int D.int))))) (se := fun (a120 : (List (Str × Int × Int))) => [some (.d ((eG (eT3 D.str D.int D.int)) p_rewards)), some (.d (.int p_points)), none]) (y := fun (a120 : (List (Str × Int × Int))) => (.tup ((a120).map (eT3 D.str D.int D.int)))) (s2 := fun (a120 : (List (Str × Int × Int))) => [some (.d ((eG (eT3 D.str D.int D.int)) p_rewards)), some (.d (.int p_points)), some (.d (.tup ((a120).map (eT3 D.str D.int D.int))))]) (by exact (ef_call (ak_consP (x := (.d ((eG (eT3 D.str D.int D.int)) p_rewards))) (pv_var (i := 0) rfl) (ak_nil (call_end (s := [some (.d ((eG (eT3 D.str D.int D.int)) p_rewards)), some (.d (.int p_points)), none]) (rs := [(.d ((eG (eT3 D.str D.int D.int)) p_rewards))]) (args := [.d ((eG (eT3 D.str D.int D.int)) p_rewards)]) (fin := fun (z : (List (Str × Int × Int))) => [.d ((eG (eT3 D.str D.int D.int)) p_rewards)]) (sr := fun _ => [some (.d ((eG (eT3 D.str D.int D.int)) p_rewards)), some (.d (.int p_points)), none]) rfl List.nodup_nil (by exact (q_checked_list n (p_rewards))) (fun _ => rfl)))))) (fun _ => rfl) (fun a120 => (by exact rfl)) (fun a120 => ?_)
  refine qq_ex (ve := fun (a122 : Unit) => (.d .non)) (se := fun (a122 : Unit) => [some (.d ((eG (eT3 D.str D.int D.int)) p_rewards)), some (.d (.int p_points)), some (.d (.tup ((a120).map (eT3 D.str D.int D.int))))]) (by exact (ef_call (ak_consP (x := (.d (.int p_points))) (pv_var (i := 1) rfl) (ak_nil (call_end (s := [some (.d ((eG (eT3 D.str D.int D.int)) p_rewards)), some (.d (.int p_points)), some (.d (.tup ((a120).map (eT3 D.str D.int D.int))))]) (rs := [(.d (.int p_points))]) (args := [.d (.int p_points)]) (fin := fun (z : Unit) => [.d (.int p_points)]) (sr := fun _ => [some (.d ((eG (eT3 D.str D.int D.int)) p_rewards)), some (.d (.int p_points)), some (.d (.tup ((a120).map (eT3 D.str D.int D.int))))]) rfl List.nodup_nil (by exact (q_check_points (n + 1) (p_points))) (fun _ => rfl)))))) (fun a122 => ?_)
  refine qq_ret (ve := fun (a149 : Int) => (.d (.int a149))) (se := fun (a149 : Int) => [some (.d ((eG (eT3 D.str D.int D.int)) p_rewards)), some (.d (.int p_points)), some (.d (.tup ((a120).map (eT3 D.str D.int D.int))))]) (by exact (ef_idx (ak_cons (ve := fun (a148 : (List Int)) => (.d (.lst ((a148).map D.int)))) (se := fun (a148 : (List Int)) => [some (.d ((eG (eT3 D.str D.int D.int)) p_rewards)), some (.d (.int p_points)), some (.d (.tup ((a120).map (eT3 D.str D.int D.int))))]) (ef_idx (ak_cons (ve := fun (a147 : ((List Int) × (List (Option (Str × Int × Int))))) => (.d (.tup [(.lst ((a147.1).map D.int)), (.lst ((a147.2).map (eO (eT3 D.str D.int D.int))))]))) (se := fun (a147 : ((List Int) × (List (Option (Str × Int × Int))))) => [some (.d ((eG (eT3 D.str D.int D.int)) p_rewards)), some (.d (.int p_points)), some (.d (.tup ((a120).map (eT3 D.str D.int D.int))))]) (ef_call (ak_consP (x := (.d (.tup ((a120).map (eT3 D.str D.int D.int))))) (pv_var (i := 2) rfl) (ak_consP (x := (.d (.int p_points))) (pv_var (i := 1) rfl) (ak_nil (call_end (s := [some (.d ((eG (eT3 D.str D.int D.int)) p_rewards)), some (.d (.int p_points)), some (.d (.tup ((a120).map (eT3 D.str D.int D.int))))]) (rs := [(.d (.tup ((a120).map (eT3 D.str D.int D.int)))), (.d (.int p_points))]) (args := [.d (.tup ((a120).map (eT3 D.str D.int D.int))), .d (.int p_points)]) (fin := fun (z : ((List Int) × (List (Option (Str × Int × Int))))) => [.d (.tup ((a120).map (eT3 D.str D.int D.int))), .d (.int p_points)]) (sr := fun _ => [some (.d ((eG (eT3 D.str D.int D.int)) p_rewards)), some (.d (.int p_points)), some (.d (.tup ((a120).map (eT3 D.str D.int D.int))))]) rfl List.nodup_nil (by exact (q_best_rows (n + 3) (a120) (p_points))) (fun _ => rfl)))))) fun a147 => (ak_consP (x := (.d (.int (0 : Int)))) (pv_k _) (ak_nil (nary_ok (ds := [(.tup [(.lst ((a147.1).map D.int)), (.lst ((a147.2).map (eO (eT3 D.str D.int D.int))))]), (.int (0 : Int))]) (r := (.d (.lst ((a147.1).map D.int)))) (w := fun (p : (List Int)) => (.d (.lst ((p).map D.int)))) (sr := fun (p : (List Int)) => [some (.d ((eG (eT3 D.str D.int D.int)) p_rewards)), some (.d (.int p_points)), some (.d (.tup ((a120).map (eT3 D.str D.int D.int))))]) rfl rfl rfl rfl))))) fun a148 => (ak_consP (x := (.d (.int p_points))) (pv_var (i := 1) rfl) (ak_nil (nary_end (ds := [(.lst ((a148).map D.int)), (.int p_points)]) rfl (os_at (e := D.int)))))))) (fun a149 => ?_)
  exact rfl
def m_best_basket (p_rewards : (Bool × List (Str × Int × Int))) (p_points : Int) : X (List Str) := (m_checked_list (p_rewards)).bind fun a153 => (m_check_points (p_points)).bind fun a154 => (m_best_rows (a153) (p_points)).bind fun a155 => ((X.at a155.1 p_points).bind fun a156 => X.bmI .index (.lst ((a155.1).map D.int)) [(.int a156)]).bind fun a157 => (X.whl Pr.W (a157, []) (fun (q158 : (Int × (List Str))) => (X.ok ((decide ((0 : Int) < q158.1)), q158) : X (Bool × (Int × (List Str))))) (fun (q158 : (Int × (List Str))) => ((X.at a155.2 q158.1).bind fun a160 => ((if (a160).isNone = true then X.ok ((q158.1 - (1 : Int)), q158.2) else (((X.unO a160).bind fun v => X.ok v.1).bind fun a168 => X.push q158.2 a168).bind fun a169 => (((X.unO a160).bind fun v => X.ok v.2.1).bind fun a170 => X.ok (q158.1 - a170)).bind fun a171 => X.ok (a171, a169) : X (Int × (List Str)))).bind fun q166 => X.ok (.nx (q166.1, q166.2)) : X (Fl (List Str) (Int × (List Str)))))).bind fun w178 => match w178 with | .nx q158 => ((X.sortS q158.2).bind fun a172 => X.ok a172).bind fun a173 => X.ok a173 | .ret r174 => X.ok r174 | .brk _ => X.no
set_option maxHeartbeats 2000000 in
theorem q_best_basket (n : Nat) (p_rewards : (Bool × List (Str × Int × Int))) (p_points : Int) : FS (pF Pr (n + 5) i_best_basket [.d ((eG (eT3 D.str D.int D.int)) p_rewards), .d (.int p_points)]) (m_best_basket p_rewards p_points) (fun r => (.d (.tup ((r).map D.str)))) (fun r => [.d ((eG (eT3 D.str D.int D.int)) p_rewards), .d (.int p_points)]) := by
  unfold m_best_basket
  refine fs_of (fn := f_best_basket) (n := n + 4) (vs := [some (.d ((eG (eT3 D.str D.int D.int)) p_rewards)), some (.d (.int p_points)), none, none, none, none, none, none]) rfl rfl rfl ?_
  change QK _ b_best_basket _ _ _ _
  unfold b_best_basket
  refine qq_set (ve := fun (a153 : (List (Str × Int × Int))) => (.d (.tup ((a153).map (eT3 D.str D.int D.int))))) (se := fun (a153 : (List (Str × Int × Int))) => [some (.d ((eG (eT3 D.str D.int D.int)) p_rewards)), some (.d (.int p_points)), none, none, none, none, none, none]) (y := fun (a153 : (List (Str × Int × Int))) => (.tup ((a153).map (eT3 D.str D.int D.int)))) (s2 := fun (a153 : (List (Str × Int × Int))) => [some (.d ((eG (eT3 D.str D.int D.int)) p_rewards)), some (.d (.int p_points)), some (.d (.tup ((a153).map (eT3 D.str D.int D.int)))), none, none, none, none, none]) (by exact (ef_call (ak_consP (x := (.d ((eG (eT3 D.str D.int D.int)) p_rewards))) (pv_var (i := 0) rfl) (ak_nil (call_end (s := [some (.d ((eG (eT3 D.str D.int D.int)) p_rewards)), some (.d (.int p_points)), none, none, none, none, none, none]) (rs := [(.d ((eG (eT3 D.str D.int D.int)) p_rewards))]) (args := [.d ((eG (eT3 D.str D.int D.int)) p_rewards)]) (fin := fun (z : (List (Str × Int × Int))) => [.d ((eG (eT3 D.str D.int D.int)) p_rewards)]) (sr := fun _ => [some (.d ((eG (eT3 D.str D.int D.int)) p_rewards)), some (.d (.int p_points)), none, none, none, none, none, none]) rfl List.nodup_nil (by exact (q_checked_list n (p_rewards))) (fun _ => rfl)))))) (fun _ => rfl) (fun a153 => (by exact rfl)) (fun a153 => ?_)
  refine qq_ex (ve := fun (a154 : Unit) => (.d .non)) (se := fun (a154 : Unit) => [some (.d ((eG (eT3 D.str D.int D.int)) p_rewards)), some (.d (.int p_points)), some (.d (.tup ((a153).map (eT3 D.str D.int D.int)))), none, none, none, none, none]) (by exact (ef_call (ak_consP (x := (.d (.int p_points))) (pv_var (i := 1) rfl) (ak_nil (call_end (s := [some (.d ((eG (eT3 D.str D.int D.int)) p_rewards)), some (.d (.int p_points)), some (.d (.tup ((a153).map (eT3 D.str D.int D.int)))), none, none, none, none, none]) (rs := [(.d (.int p_points))]) (args := [.d (.int p_points)]) (fin := fun (z : Unit) => [.d (.int p_points)]) (sr := fun _ => [some (.d ((eG (eT3 D.str D.int D.int)) p_rewards)), some (.d (.int p_points)), some (.d (.tup ((a153).map (eT3 D.str D.int D.int)))), none, none, none, none, none]) rfl List.nodup_nil (by exact (q_check_points (n + 1) (p_points))) (fun _ => rfl)))))) (fun a154 => ?_)
  refine qq_setT (ve := fun (a155 : ((List Int) × (List (Option (Str × Int × Int))))) => (.d (.tup [(.lst ((a155.1).map D.int)), (.lst ((a155.2).map (eO (eT3 D.str D.int D.int))))]))) (se := fun (a155 : ((List Int) × (List (Option (Str × Int × Int))))) => [some (.d ((eG (eT3 D.str D.int D.int)) p_rewards)), some (.d (.int p_points)), some (.d (.tup ((a153).map (eT3 D.str D.int D.int)))), none, none, none, none, none]) (y := fun (a155 : ((List Int) × (List (Option (Str × Int × Int))))) => (.tup [(.lst ((a155.1).map D.int)), (.lst ((a155.2).map (eO (eT3 D.str D.int D.int))))])) (s2 := fun (a155 : ((List Int) × (List (Option (Str × Int × Int))))) => [some (.d ((eG (eT3 D.str D.int D.int)) p_rewards)), some (.d (.int p_points)), some (.d (.tup ((a153).map (eT3 D.str D.int D.int)))), some (.d (.lst ((a155.1).map D.int))), some (.d (.lst ((a155.2).map (eO (eT3 D.str D.int D.int))))), none, none, none]) (by exact (ef_call (ak_consP (x := (.d (.tup ((a153).map (eT3 D.str D.int D.int))))) (pv_var (i := 2) rfl) (ak_consP (x := (.d (.int p_points))) (pv_var (i := 1) rfl) (ak_nil (call_end (s := [some (.d ((eG (eT3 D.str D.int D.int)) p_rewards)), some (.d (.int p_points)), some (.d (.tup ((a153).map (eT3 D.str D.int D.int)))), none, none, none, none, none]) (rs := [(.d (.tup ((a153).map (eT3 D.str D.int D.int)))), (.d (.int p_points))]) (args := [.d (.tup ((a153).map (eT3 D.str D.int D.int))), .d (.int p_points)]) (fin := fun (z : ((List Int) × (List (Option (Str × Int × Int))))) => [.d (.tup ((a153).map (eT3 D.str D.int D.int))), .d (.int p_points)]) (sr := fun _ => [some (.d ((eG (eT3 D.str D.int D.int)) p_rewards)), some (.d (.int p_points)), some (.d (.tup ((a153).map (eT3 D.str D.int D.int)))), none, none, none, none, none]) rfl List.nodup_nil (by exact (q_best_rows (n + 3) (a153) (p_points))) (fun _ => rfl))))))) (fun _ => rfl) (fun a155 => (by exact (bt_t (bt_cons (bt_n rfl) (bt_cons (bt_n rfl) bt_nil))))) (fun a155 => ?_)
  refine qq_set (ve := fun (a157 : Int) => (.d (.int a157))) (se := fun (a157 : Int) => [some (.d ((eG (eT3 D.str D.int D.int)) p_rewards)), some (.d (.int p_points)), some (.d (.tup ((a153).map (eT3 D.str D.int D.int)))), some (.d (.lst ((a155.1).map D.int))), some (.d (.lst ((a155.2).map (eO (eT3 D.str D.int D.int))))), none, none, none]) (y := fun (a157 : Int) => (.int a157)) (s2 := fun (a157 : Int) => [some (.d ((eG (eT3 D.str D.int D.int)) p_rewards)), some (.d (.int p_points)), some (.d (.tup ((a153).map (eT3 D.str D.int D.int)))), some (.d (.lst ((a155.1).map D.int))), some (.d (.lst ((a155.2).map (eO (eT3 D.str D.int D.int))))), some (.d (.int a157)), none, none]) (by exact (ef_bm (pv_var (i := 3) rfl) rfl rfl (ak_cons (ve := fun (a156 : Int) => (.d (.int a156))) (se := fun (a156 : Int) => [some (.d ((eG (eT3 D.str D.int D.int)) p_rewards)), some (.d (.int p_points)), some (.d (.tup ((a153).map (eT3 D.str D.int D.int)))), some (.d (.lst ((a155.1).map D.int))), some (.d (.lst ((a155.2).map (eO (eT3 D.str D.int D.int))))), none, none, none]) (ef_idx (ak_consP (x := (.d (.lst ((a155.1).map D.int)))) (pv_var (i := 3) rfl) (ak_consP (x := (.d (.int p_points))) (pv_var (i := 1) rfl) (ak_nil (nary_end (ds := [(.lst ((a155.1).map D.int)), (.int p_points)]) rfl (os_at (e := D.int))))))) fun a156 => (ak_nil (nary_end (F := bmP .index (.lst ((a155.1).map D.int))) (ds := [(.int a156)]) rfl os_bmI))))) (fun _ => rfl) (fun a157 => (by exact rfl)) (fun a157 => ?_)
  refine qq_cellP (y := (([]).map D.str)) (s2 := [some (.d ((eG (eT3 D.str D.int D.int)) p_rewards)), some (.d (.int p_points)), some (.d (.tup ((a153).map (eT3 D.str D.int D.int)))), some (.d (.lst ((a155.1).map D.int))), some (.d (.lst ((a155.2).map (eO (eT3 D.str D.int D.int))))), some (.d (.int a157)), some (.c (.lst (([]).map D.str))), none]) (by exact (pv_lst (ds := []) pvs_nil rfl rfl)) (by exact rfl) ?_
  refine qq_whl (st := (a157, [])) (j := ⟨none, rfl⟩) (V := fun (q158 : (Int × (List Str))) (j159 : (Jn)) => [some (.d ((eG (eT3 D.str D.int D.int)) p_rewards)), some (.d (.int p_points)), some (.d (.tup ((a153).map (eT3 D.str D.int D.int)))), some (.d (.lst ((a155.1).map D.int))), some (.d (.lst ((a155.2).map (eO (eT3 D.str D.int D.int))))), some (.d (.int q158.1)), some (.c (.lst ((q158.2).map D.str))), j159.1]) (hr := (fun r q => pfin [.d ((eG (eT3 D.str D.int D.int)) p_rewards), .d (.int p_points)] q = .ok (.d (.tup ((r).map D.str))) [.d ((eG (eT3 D.str D.int D.int)) p_rewards), .d (.int p_points)])) rfl (fun q158 j159 => (by exact (TV.to (a := ((decide ((0 : Int) < q158.1)), q158)) (w := fun (p : Bool × (Int × (List Str))) => p.1) (sr := fun (p : Bool × (Int × (List Str))) => [some (.d ((eG (eT3 D.str D.int D.int)) p_rewards)), some (.d (.int p_points)), some (.d (.tup ((a153).map (eT3 D.str D.int D.int)))), some (.d (.lst ((a155.1).map D.int))), some (.d (.lst ((a155.2).map (eO (eT3 D.str D.int D.int))))), some (.d (.int p.2.1)), some (.c (.lst ((p.2.2).map D.str))), j159.1]) (tv_v (d := (.bl (decide ((0 : Int) < q158.1)))) (fun _ => rfl) (pv_op2 (x := (.d (.int q158.1))) (d := (.int q158.1)) (y := (.d (.int (0 : Int)))) (e := (.int (0 : Int))) (r := (.d (.bl (decide ((0 : Int) < q158.1))))) (pv_var (i := 5) rfl) (pv_k _) rfl rfl rfl) rfl rfl) rfl rfl))) (fun q158 j159 => ?_) (fun q158 j159 => ?_) (by exact (fun r174 a175 a176 h177 => h177))
  · refine qq_set (ve := fun (a160 : (Option (Str × Int × Int))) => (.d ((eO (eT3 D.str D.int D.int)) a160))) (se := fun (a160 : (Option (Str × Int × Int))) => [some (.d ((eG (eT3 D.str D.int D.int)) p_rewards)), some (.d (.int p_points)), some (.d (.tup ((a153).map (eT3 D.str D.int D.int)))), some (.d (.lst ((a155.1).map D.int))), some (.d (.lst ((a155.2).map (eO (eT3 D.str D.int D.int))))), some (.d (.int q158.1)), some (.c (.lst ((q158.2).map D.str))), j159.1]) (y := fun (a160 : (Option (Str × Int × Int))) => ((eO (eT3 D.str D.int D.int)) a160)) (s2 := fun (a160 : (Option (Str × Int × Int))) => [some (.d ((eG (eT3 D.str D.int D.int)) p_rewards)), some (.d (.int p_points)), some (.d (.tup ((a153).map (eT3 D.str D.int D.int)))), some (.d (.lst ((a155.1).map D.int))), some (.d (.lst ((a155.2).map (eO (eT3 D.str D.int D.int))))), some (.d (.int q158.1)), some (.c (.lst ((q158.2).map D.str))), some (.d ((eO (eT3 D.str D.int D.int)) a160))]) (by exact (ef_idx (ak_consP (x := (.d (.lst ((a155.2).map (eO (eT3 D.str D.int D.int)))))) (pv_var (i := 4) rfl) (ak_consP (x := (.d (.int q158.1))) (pv_var (i := 5) rfl) (ak_nil (nary_end (ds := [(.lst ((a155.2).map (eO (eT3 D.str D.int D.int)))), (.int q158.1)]) rfl (os_at (e := (eO (eT3 D.str D.int D.int)))))))))) (fun _ => rfl) (fun a160 => (by exact (psetJ (o := j159.1) rfl j159.2 rfl))) (fun a160 => ?_)
    refine qq_join (V := fun (q166 : (Int × (List Str))) (j167 : Unit) => [some (.d ((eG (eT3 D.str D.int D.int)) p_rewards)), some (.d (.int p_points)), some (.d (.tup ((a153).map (eT3 D.str D.int D.int)))), some (.d (.lst ((a155.1).map D.int))), some (.d (.lst ((a155.2).map (eO (eT3 D.str D.int D.int))))), some (.d (.int q166.1)), some (.c (.lst ((q166.2).map D.str))), some (.d ((eO (eT3 D.str D.int D.int)) a160))]) (qk_iteP (by exact (tv_v (d := (.bl (a160).isNone)) (fun _ => rfl) (pv_op1 (x := (.d ((eO (eT3 D.str D.int D.int)) a160))) (d := ((eO (eT3 D.str D.int D.int)) a160)) (r := (.d (.bl (a160).isNone))) (pv_var (i := 7) rfl) rfl (op_isNO (fun _ => rfl))) rfl rfl)) ?_ ?_) (fun q166 j167 => ?_)
    · refine qq_setP (x := (.d (.int (q158.1 - (1 : Int))))) (y := (.int (q158.1 - (1 : Int)))) (s2 := [some (.d ((eG (eT3 D.str D.int D.int)) p_rewards)), some (.d (.int p_points)), some (.d (.tup ((a153).map (eT3 D.str D.int D.int)))), some (.d (.lst ((a155.1).map D.int))), some (.d (.lst ((a155.2).map (eO (eT3 D.str D.int D.int))))), some (.d (.int (q158.1 - (1 : Int)))), some (.c (.lst ((q158.2).map D.str))), some (.d ((eO (eT3 D.str D.int D.int)) a160))]) (by exact (pv_op2 (x := (.d (.int q158.1))) (d := (.int q158.1)) (y := (.d (.int (1 : Int)))) (e := (.int (1 : Int))) (r := (.d (.int (q158.1 - (1 : Int))))) (pv_var (i := 5) rfl) (pv_k _) rfl rfl rfl)) rfl (by exact rfl) ?_
      refine qq_skip ?_
      exact qq_nxJ (j := ()) rfl
    · refine qq_ex (ve := fun (a169 : (List Str)) => (.d .non)) (se := fun (a169 : (List Str)) => [some (.d ((eG (eT3 D.str D.int D.int)) p_rewards)), some (.d (.int p_points)), some (.d (.tup ((a153).map (eT3 D.str D.int D.int)))), some (.d (.lst ((a155.1).map D.int))), some (.d (.lst ((a155.2).map (eO (eT3 D.str D.int D.int))))), some (.d (.int q158.1)), some (.c (.lst ((a169).map D.str))), some (.d ((eO (eT3 D.str D.int D.int)) a160))]) (by exact (ef_mutF (p := Pv.c (.lst ((q158.2).map D.str))) rfl (fun _ h => by cases h) rfl rfl (ak_cons (ve := fun (a168 : Str) => (.d (.str a168))) (se := fun (a168 : Str) => [some (.d ((eG (eT3 D.str D.int D.int)) p_rewards)), some (.d (.int p_points)), some (.d (.tup ((a153).map (eT3 D.str D.int D.int)))), some (.d (.lst ((a155.1).map D.int))), some (.d (.lst ((a155.2).map (eO (eT3 D.str D.int D.int))))), some (.d (.int q158.1)), some (.c (.lst ((q158.2).map D.str))), some (.d ((eO (eT3 D.str D.int D.int)) a160))]) (ef_idx (ak_consP (x := (.d ((eO (eT3 D.str D.int D.int)) a160))) (pv_var (i := 7) rfl) (ak_consP (x := (.d (.int (0 : Int)))) (pv_k _) (ak_nil (nary_end (ds := [((eO (eT3 D.str D.int D.int)) a160), (.int (0 : Int))]) rfl (os_unO (F := fun x => oplx [x, .int (0 : Int)]) (e := (eT3 D.str D.int D.int)) (pr := fun v => v.1) (er := D.str) (fun _ => rfl))))))) fun a168 => (ak_nil (mut_end (ds := [(.str a168)]) (s' := [some (.d ((eG (eT3 D.str D.int D.int)) p_rewards)), some (.d (.int p_points)), some (.d (.tup ((a153).map (eT3 D.str D.int D.int)))), some (.d (.lst ((a155.1).map D.int))), some (.d (.lst ((a155.2).map (eO (eT3 D.str D.int D.int))))), some (.d (.int q158.1)), some (.c (.lst ((q158.2).map D.str))), some (.d ((eO (eT3 D.str D.int D.int)) a160))]) rfl (mu_append (e := D.str) (k := Pv.c) (x := a168) rfl rfl (fun _ => rfl) (sr := fun (p : (List Str)) => [some (.d ((eG (eT3 D.str D.int D.int)) p_rewards)), some (.d (.int p_points)), some (.d (.tup ((a153).map (eT3 D.str D.int D.int)))), some (.d (.lst ((a155.1).map D.int))), some (.d (.lst ((a155.2).map (eO (eT3 D.str D.int D.int))))), some (.d (.int q158.1)), some (.c (.lst ((p).map D.str))), some (.d ((eO (eT3 D.str D.int D.int)) a160))]) (fun _ => rfl))))))) (fun a169 => ?_)
      refine qq_set (ve := fun (a171 : Int) => (.d (.int a171))) (se := fun (a171 : Int) => [some (.d ((eG (eT3 D.str D.int D.int)) p_rewards)), some (.d (.int p_points)), some (.d (.tup ((a153).map (eT3 D.str D.int D.int)))), some (.d (.lst ((a155.1).map D.int))), some (.d (.lst ((a155.2).map (eO (eT3 D.str D.int D.int))))), some (.d (.int q158.1)), some (.c (.lst ((a169).map D.str))), some (.d ((eO (eT3 D.str D.int D.int)) a160))]) (y := fun (a171 : Int) => (.int a171)) (s2 := fun (a171 : Int) => [some (.d ((eG (eT3 D.str D.int D.int)) p_rewards)), some (.d (.int p_points)), some (.d (.tup ((a153).map (eT3 D.str D.int D.int)))), some (.d (.lst ((a155.1).map D.int))), some (.d (.lst ((a155.2).map (eO (eT3 D.str D.int D.int))))), some (.d (.int a171)), some (.c (.lst ((a169).map D.str))), some (.d ((eO (eT3 D.str D.int D.int)) a160))]) (by exact (ef_op2 (ak_consP (x := (.d (.int q158.1))) (pv_var (i := 5) rfl) (ak_cons (ve := fun (a170 : Int) => (.d (.int a170))) (se := fun (a170 : Int) => [some (.d ((eG (eT3 D.str D.int D.int)) p_rewards)), some (.d (.int p_points)), some (.d (.tup ((a153).map (eT3 D.str D.int D.int)))), some (.d (.lst ((a155.1).map D.int))), some (.d (.lst ((a155.2).map (eO (eT3 D.str D.int D.int))))), some (.d (.int q158.1)), some (.c (.lst ((a169).map D.str))), some (.d ((eO (eT3 D.str D.int D.int)) a160))]) (ef_idx (ak_consP (x := (.d ((eO (eT3 D.str D.int D.int)) a160))) (pv_var (i := 7) rfl) (ak_consP (x := (.d (.int (1 : Int)))) (pv_k _) (ak_nil (nary_end (ds := [((eO (eT3 D.str D.int D.int)) a160), (.int (1 : Int))]) rfl (os_unO (F := fun x => oplx [x, .int (1 : Int)]) (e := (eT3 D.str D.int D.int)) (pr := fun v => v.2.1) (er := D.int) (fun _ => rfl))))))) fun a170 => (ak_nil (nary_ok (ds := [(.int q158.1), (.int a170)]) (r := (.d (.int (q158.1 - a170)))) (w := fun (p : Int) => (.d (.int p))) (sr := fun (p : Int) => [some (.d ((eG (eT3 D.str D.int D.int)) p_rewards)), some (.d (.int p_points)), some (.d (.tup ((a153).map (eT3 D.str D.int D.int)))), some (.d (.lst ((a155.1).map D.int))), some (.d (.lst ((a155.2).map (eO (eT3 D.str D.int D.int))))), some (.d (.int q158.1)), some (.c (.lst ((a169).map D.str))), some (.d ((eO (eT3 D.str D.int D.int)) a160))]) rfl rfl rfl rfl)))))) (fun _ => rfl) (fun a171 => (by exact rfl)) (fun a171 => ?_)
      refine qq_skip ?_
      exact qq_nxJ (j := ()) rfl
    · refine qq_skip ?_
      exact ⟨⟨some (.d ((eO (eT3 D.str D.int D.int)) a160)), rfl⟩, .inl rfl⟩
  · refine qq_ret (ve := fun (a173 : (List Str)) => (.d (.tup ((a173).map D.str)))) (se := fun (a173 : (List Str)) => [some (.d ((eG (eT3 D.str D.int D.int)) p_rewards)), some (.d (.int p_points)), some (.d (.tup ((a153).map (eT3 D.str D.int D.int)))), some (.d (.lst ((a155.1).map D.int))), some (.d (.lst ((a155.2).map (eO (eT3 D.str D.int D.int))))), some (.d (.int q158.1)), some (.c (.lst ((q158.2).map D.str))), j159.1]) (by exact (ef_bi (ak_cons (ve := fun (a172 : (List Str)) => (.n (.lst ((a172).map D.str)))) (se := fun (a172 : (List Str)) => [some (.d ((eG (eT3 D.str D.int D.int)) p_rewards)), some (.d (.int p_points)), some (.d (.tup ((a153).map (eT3 D.str D.int D.int)))), some (.d (.lst ((a155.1).map D.int))), some (.d (.lst ((a155.2).map (eO (eT3 D.str D.int D.int))))), some (.d (.int q158.1)), some (.c (.lst ((q158.2).map D.str))), j159.1]) (ef_bi (ak_consP (x := (.v 6)) (pv_cell rfl) (ak_nil (nary_end (ds := [(.lst ((q158.2).map D.str))]) rfl os_sortS)))) fun a172 => (ak_nil (nary_ok (ds := [(.lst ((a172).map D.str))]) (r := (.d (.tup ((a172).map D.str)))) (w := fun (p : (List Str)) => (.d (.tup ((p).map D.str)))) (sr := fun (p : (List Str)) => [some (.d ((eG (eT3 D.str D.int D.int)) p_rewards)), some (.d (.int p_points)), some (.d (.tup ((a153).map (eT3 D.str D.int D.int)))), some (.d (.lst ((a155.1).map D.int))), some (.d (.lst ((a155.2).map (eO (eT3 D.str D.int D.int))))), some (.d (.int q158.1)), some (.c (.lst ((q158.2).map D.str))), j159.1]) rfl rfl rfl rfl))))) (fun a173 => ?_)
    exact rfl
def m_law_sums (p_rewards : (List (Str × Int × Int))) (p_basket : (List Str)) : X (List Int) := (X.fold p_basket ((0 : Int), (0 : Int)) fun (x210 : Str) (q211 : (Int × Int)) => ((X.fold p_rewards (q211.1, q211.2) fun (x214 : (Str × Int × Int)) (q215 : (Int × Int)) => (((if (x214.1 == x210) = true then X.ok ((q215.1 + x214.2.1), (q215.2 + x214.2.2)) else X.ok (q215.1, q215.2) : X (Int × Int))).bind fun q218 => X.ok (q218.1, q218.2) : X (Int × Int))).bind fun q215 => X.ok (q215.1, q215.2) : X (Int × Int))).bind fun q211 => X.ok [q211.1, q211.2]
set_option maxHeartbeats 2000000 in
theorem q_law_sums (n : Nat) (p_rewards : (List (Str × Int × Int))) (p_basket : (List Str)) : FS (pF Pr (n + 1) i__law_sums [.d (.lst ((p_rewards).map (eT3 D.str D.int D.int))), .d (.tup ((p_basket).map D.str))]) (m_law_sums p_rewards p_basket) (fun r => (.n (.lst ((r).map D.int)))) (fun r => [.d (.lst ((p_rewards).map (eT3 D.str D.int D.int))), .d (.tup ((p_basket).map D.str))]) := by
  unfold m_law_sums
  refine fs_of (fn := f__law_sums) (n := n) (vs := [some (.d (.lst ((p_rewards).map (eT3 D.str D.int D.int)))), some (.d (.tup ((p_basket).map D.str))), none, none, none, none]) rfl rfl rfl ?_
  change QK _ b__law_sums _ _ _ _
  unfold b__law_sums
  refine qq_par (pk_consP (c := false) (x := (.d (.int (0 : Int)))) (x' := (.d (.int (0 : Int)))) (by exact (pv_k _)) rfl (pk_consP (c := false) (x := (.d (.int (0 : Int)))) (x' := (.d (.int (0 : Int)))) (by exact (pv_k _)) rfl (pk_nil (par_on (s := [some (.d (.lst ((p_rewards).map (eT3 D.str D.int D.int)))), some (.d (.tup ((p_basket).map D.str))), none, none, none, none]) (s2 := [some (.d (.lst ((p_rewards).map (eT3 D.str D.int D.int)))), some (.d (.tup ((p_basket).map D.str))), some (.d (.int (0 : Int))), some (.d (.int (0 : Int))), none, none]) (by exact (sa_d (s := [some (.d (.lst ((p_rewards).map (eT3 D.str D.int D.int)))), some (.d (.tup ((p_basket).map D.str))), none, none, none, none]) (s1 := [some (.d (.lst ((p_rewards).map (eT3 D.str D.int D.int)))), some (.d (.tup ((p_basket).map D.str))), some (.d (.int (0 : Int))), none, none, none]) (i := 2) rfl (sa_d (s := [some (.d (.lst ((p_rewards).map (eT3 D.str D.int D.int)))), some (.d (.tup ((p_basket).map D.str))), some (.d (.int (0 : Int))), none, none, none]) (s1 := [some (.d (.lst ((p_rewards).map (eT3 D.str D.int D.int)))), some (.d (.tup ((p_basket).map D.str))), some (.d (.int (0 : Int))), some (.d (.int (0 : Int))), none, none]) (i := 3) rfl sa_nil))) ?_))))
  refine qq_foldP (xs := p_basket) (en := D.str) (g := []) (st := ((0 : Int), (0 : Int))) (j := (⟨none, rfl⟩, ⟨none, rfl⟩)) (V := fun (q211 : (Int × Int)) (j212 : (Jn × Jn)) => [some (.d (.lst ((p_rewards).map (eT3 D.str D.int D.int)))), some (.d (.tup ((p_basket).map D.str))), some (.d (.int q211.1)), some (.d (.int q211.2)), j212.2.1, j212.1.1]) (V' := fun (q211 : (Int × Int)) (j212 : (Jn × Jn)) => [some (.d (.lst ((p_rewards).map (eT3 D.str D.int D.int)))), some (.d (.tup ((p_basket).map D.str))), some (.d (.int q211.1)), some (.d (.int q211.2)), j212.2.1, j212.1.1]) (by exact (iv_v (fun _ => rfl) (pv_var (i := 1) rfl) rfl)) rfl (fun _ _ => (by exact chk_nil)) (fun x210 q211 j212 => ⟨[some (.d (.lst ((p_rewards).map (eT3 D.str D.int D.int)))), some (.d (.tup ((p_basket).map D.str))), some (.d (.int q211.1)), some (.d (.int q211.2)), some (.d (.str x210)), j212.1.1], (by exact (bt_n (psetJ (o := j212.2.1) rfl j212.2.2 rfl))), ?_⟩) (fun _ _ => rfl) (fun q211 j212 => ?_)
  · refine qq_foldP (xs := p_rewards) (en := (eT3 D.str D.int D.int)) (g := []) (st := (q211.1, q211.2)) (j := j212.1) (V := fun (q215 : (Int × Int)) (j216 : (Jn)) => [some (.d (.lst ((p_rewards).map (eT3 D.str D.int D.int)))), some (.d (.tup ((p_basket).map D.str))), some (.d (.int q215.1)), some (.d (.int q215.2)), some (.d (.str x210)), j216.1]) (V' := fun (q215 : (Int × Int)) (j216 : (Jn)) => [some (.d (.lst ((p_rewards).map (eT3 D.str D.int D.int)))), some (.d (.tup ((p_basket).map D.str))), some (.d (.int q215.1)), some (.d (.int q215.2)), some (.d (.str x210)), j216.1]) (by exact (iv_v (fun _ => rfl) (pv_var (i := 0) rfl) rfl)) rfl (fun _ _ => (by exact chk_nil)) (fun x214 q215 j216 => ⟨[some (.d (.lst ((p_rewards).map (eT3 D.str D.int D.int)))), some (.d (.tup ((p_basket).map D.str))), some (.d (.int q215.1)), some (.d (.int q215.2)), some (.d (.str x210)), some (.d (.tup [(.str x214.1), (.int x214.2.1), (.int x214.2.2)]))], (by exact (bt_n (psetJ (o := j216.1) rfl j216.2 rfl))), ?_⟩) (fun _ _ => rfl) (fun q215 j216 => ?_)
    · refine qq_join (V := fun (q218 : (Int × Int)) (j219 : Unit) => [some (.d (.lst ((p_rewards).map (eT3 D.str D.int D.int)))), some (.d (.tup ((p_basket).map D.str))), some (.d (.int q218.1)), some (.d (.int q218.2)), some (.d (.str x210)), some (.d (.tup [(.str x214.1), (.int x214.2.1), (.int x214.2.2)]))]) (qk_iteP (by exact (tv_v (d := (.bl (x214.1 == x210))) (fun _ => rfl) (pv_op2 (x := (.d (.str x214.1))) (d := (.str x214.1)) (y := (.d (.str x210))) (e := (.str x210)) (r := (.d (.bl (x214.1 == x210)))) (pv_idx (x := (.d (.tup [(.str x214.1), (.int x214.2.1), (.int x214.2.2)]))) (d := (.tup [(.str x214.1), (.int x214.2.1), (.int x214.2.2)])) (y := (.d (.int (0 : Int)))) (e := (.int (0 : Int))) (r := (.d (.str x214.1))) (pv_var (i := 5) rfl) (pv_k _) rfl rfl rfl) (pv_var (i := 4) rfl) rfl rfl op_eqS) rfl rfl)) ?_ ?_) (fun q218 j219 => ?_)
      · refine qq_par (pk_consP (c := false) (x := (.d (.int (q215.1 + x214.2.1)))) (x' := (.d (.int (q215.1 + x214.2.1)))) (by exact (pv_op2 (x := (.d (.int q215.1))) (d := (.int q215.1)) (y := (.d (.int x214.2.1))) (e := (.int x214.2.1)) (r := (.d (.int (q215.1 + x214.2.1)))) (pv_var (i := 2) rfl) (pv_idx (x := (.d (.tup [(.str x214.1), (.int x214.2.1), (.int x214.2.2)]))) (d := (.tup [(.str x214.1), (.int x214.2.1), (.int x214.2.2)])) (y := (.d (.int (1 : Int)))) (e := (.int (1 : Int))) (r := (.d (.int x214.2.1))) (pv_var (i := 5) rfl) (pv_k _) rfl rfl rfl) rfl rfl rfl)) rfl (pk_consP (c := false) (x := (.d (.int (q215.2 + x214.2.2)))) (x' := (.d (.int (q215.2 + x214.2.2)))) (by exact (pv_op2 (x := (.d (.int q215.2))) (d := (.int q215.2)) (y := (.d (.int x214.2.2))) (e := (.int x214.2.2)) (r := (.d (.int (q215.2 + x214.2.2)))) (pv_var (i := 3) rfl) (pv_idx (x := (.d (.tup [(.str x214.1), (.int x214.2.1), (.int x214.2.2)]))) (d := (.tup [(.str x214.1), (.int x214.2.1), (.int x214.2.2)])) (y := (.d (.int (2 : Int)))) (e := (.int (2 : Int))) (r := (.d (.int x214.2.2))) (pv_var (i := 5) rfl) (pv_k _) rfl rfl rfl) rfl rfl rfl)) rfl (pk_nil (par_on (s := [some (.d (.lst ((p_rewards).map (eT3 D.str D.int D.int)))), some (.d (.tup ((p_basket).map D.str))), some (.d (.int q215.1)), some (.d (.int q215.2)), some (.d (.str x210)), some (.d (.tup [(.str x214.1), (.int x214.2.1), (.int x214.2.2)]))]) (s2 := [some (.d (.lst ((p_rewards).map (eT3 D.str D.int D.int)))), some (.d (.tup ((p_basket).map D.str))), some (.d (.int (q215.1 + x214.2.1))), some (.d (.int (q215.2 + x214.2.2))), some (.d (.str x210)), some (.d (.tup [(.str x214.1), (.int x214.2.1), (.int x214.2.2)]))]) (by exact (sa_d (s := [some (.d (.lst ((p_rewards).map (eT3 D.str D.int D.int)))), some (.d (.tup ((p_basket).map D.str))), some (.d (.int q215.1)), some (.d (.int q215.2)), some (.d (.str x210)), some (.d (.tup [(.str x214.1), (.int x214.2.1), (.int x214.2.2)]))]) (s1 := [some (.d (.lst ((p_rewards).map (eT3 D.str D.int D.int)))), some (.d (.tup ((p_basket).map D.str))), some (.d (.int (q215.1 + x214.2.1))), some (.d (.int q215.2)), some (.d (.str x210)), some (.d (.tup [(.str x214.1), (.int x214.2.1), (.int x214.2.2)]))]) (i := 2) rfl (sa_d (s := [some (.d (.lst ((p_rewards).map (eT3 D.str D.int D.int)))), some (.d (.tup ((p_basket).map D.str))), some (.d (.int (q215.1 + x214.2.1))), some (.d (.int q215.2)), some (.d (.str x210)), some (.d (.tup [(.str x214.1), (.int x214.2.1), (.int x214.2.2)]))]) (s1 := [some (.d (.lst ((p_rewards).map (eT3 D.str D.int D.int)))), some (.d (.tup ((p_basket).map D.str))), some (.d (.int (q215.1 + x214.2.1))), some (.d (.int (q215.2 + x214.2.2))), some (.d (.str x210)), some (.d (.tup [(.str x214.1), (.int x214.2.1), (.int x214.2.2)]))]) (i := 3) rfl sa_nil))) ?_))))
        refine qq_skip ?_
        exact qq_nxJ (j := ()) rfl
      · refine qq_skip ?_
        exact qq_nxJ (j := ()) rfl
      · refine qq_skip ?_
        exact ⟨⟨some (.d (.tup [(.str x214.1), (.int x214.2.1), (.int x214.2.2)])), rfl⟩, .inl rfl⟩
    · refine qq_skip ?_
      exact ⟨(j216, ⟨some (.d (.str x210)), rfl⟩), .inl rfl⟩
  · refine qq_retP (x := (.n (.lst (([q211.1, q211.2]).map D.int)))) (by exact (pv_lst (ds := [(.int q211.1), (.int q211.2)]) (pvs_cons (pv_var (i := 2) rfl) (pvs_cons (pv_var (i := 3) rfl) pvs_nil)) rfl rfl)) ?_
    exact rfl
def m_law (p_script : (List Int)) : X Bool := (X.loop (rangeI (0 : Int) (3 : Int)) (⟨p_script, (0 : Int), (5503 : Int), (0 : Int), by decide, by decide, by decide⟩ : St) (fun (x2 : Int) (q3 : (St)) => ((m_law_list (q3)).bind fun a66 => (((m_taken a66.2 (8 : Int)).bind fun a67 => X.ok ((a67.1 == (0 : Int)), a67.2)).bind fun x68 => if x68.1 = true then ((m_taken x68.2 (501 : Int)).bind fun a69 => X.ok (([(500 : Int), a69.1], a69.2) : (List Int) × St)).bind fun a70 => m_law_pick (a70.2) (a70.1) else m_taken x68.2 (61 : Int)).bind fun a71 => (m_given a71.2 a66.1).bind fun a72 => (m_law_best (a66.1) (a71.1)).bind fun a93 => ((m_taken a72.2 (a71.1 + (1 : Int))).bind fun a94 => X.ok (([a71.1, a94.1, a71.1], a94.2) : (List Int) × St)).bind fun a95 => (X.loop a95.1 () (fun (x96 : Int) (q97 : Unit) => (((m_best_discount (a72.1) (x96)).bind fun a150 => (X.at a93 x96).bind fun a151 => m_alike (.int a150) (.int a151)).bind fun a152 => if (!a152) = true then X.ok (.ret false) else (m_best_basket (a72.1) (x96)).bind fun a179 => if ((!true) || (!((((a179).filter fun x186 => ((!true) || (!(((a66.1).map fun x181 => x181.1)).any (· == x186)))).map fun x186 => x186)).isEmpty)) = true then X.ok (.ret false) else ((X.sortS a179).bind fun a191 => X.ok (!(a179 == a191))).bind fun a192 => if a192 = true then X.ok (.ret false) else (((X.rng (0 : Int) (x96 + (1 : Int))).bind fun a200 => (X.mapO a200 fun x201 => ((X.at a93 x201).bind fun a203 => (X.at a93 x96).bind fun a204 => X.ok (a203 == a204)).bind fun y205 => if y205 = true then X.ok (some x201) else X.ok none).bind fun ys => X.ok ys).bind fun a207 => X.at a207 (0 : Int)).bind fun a208 => (((m_law_sums (a66.1) (a179)).bind fun a220 => ((X.at a93 x96).bind fun a221 => X.ok ([a208, a221] : (List Int))).bind fun a222 => X.ok (!(a220 == a222))).bind fun x223 => if x223 = true then X.ok true else X.ok (!((a72.1).2 == a66.1))).bind fun a224 => if a224 = true then X.ok (.ret false) else X.ok (.nx ()) : X (Fl Bool Unit)))).bind fun w230 => match w230 with | .nx q97 => X.ok (.nx a95.2) | .ret r225 => X.ok (.ret r225) | .brk _ => X.no : X (Fl Bool (St))))).bind fun w236 => match w236 with | .nx q3 => X.ok true | .ret r231 => X.ok r231 | .brk _ => X.no
set_option maxHeartbeats 2000000 in
theorem q_law (n : Nat) (p_script : (List Int)) : FS (pF Pr (n + 9) i_law [.d (.scr p_script)]) (m_law p_script) (fun r => (.d (.bl r))) (fun r => [.d (.scr p_script)]) := by
  unfold m_law
  refine fs_of (fn := f_law) (n := n + 8) (vs := [some (.d (.scr p_script)), none, none, none, none, none, none, none, none, none, none, none, none]) rfl rfl rfl ?_
  change QK _ b_law _ _ _ _
  unfold b_law
  refine qq_cellP (y := [.scr ((⟨p_script, (0 : Int), (5503 : Int), (0 : Int), by decide, by decide, by decide⟩ : St)).ns, .int ((⟨p_script, (0 : Int), (5503 : Int), (0 : Int), by decide, by decide, by decide⟩ : St)).i, .int ((⟨p_script, (0 : Int), (5503 : Int), (0 : Int), by decide, by decide, by decide⟩ : St)).x, .int ((⟨p_script, (0 : Int), (5503 : Int), (0 : Int), by decide, by decide, by decide⟩ : St)).y]) (s2 := [some (.d (.scr p_script)), some (.c (rowD (⟨p_script, (0 : Int), (5503 : Int), (0 : Int), by decide, by decide, by decide⟩ : St))), none, none, none, none, none, none, none, none, none, none, none]) (by exact (pv_lst (ds := [(.scr p_script), (.int (0 : Int)), (.int (5503 : Int)), (.int (0 : Int))]) (pvs_cons (pv_var (i := 0) rfl) (pvs_cons (pv_k _) (pvs_cons (pv_k _) (pvs_cons (pv_k _) pvs_nil)))) rfl rfl)) (by exact rfl) ?_
  refine qq_loopP (xs := (rangeI (0 : Int) (3 : Int))) (en := D.int) (st := (⟨p_script, (0 : Int), (5503 : Int), (0 : Int), by decide, by decide, by decide⟩ : St)) (j := (⟨none, rfl⟩, ⟨none, rfl⟩, ⟨none, rfl⟩, ⟨none, rfl⟩, ⟨none, rfl⟩, ⟨none, rfl⟩, ⟨none, rfl⟩, ⟨none, rfl⟩, ⟨none, rfl⟩)) (V := fun (q3 : (St)) (j4 : (Jn × Jn × Jn × Jn × Jn × Jn × Jn × Jn × Jn)) => [some (.d (.scr p_script)), some (.c (rowD q3)), j4.2.2.2.2.2.2.2.2.1, j4.1.1, j4.2.1.1, j4.2.2.1.1, j4.2.2.2.1.1, j4.2.2.2.2.1.1, j4.2.2.2.2.2.1.1, j4.2.2.2.2.2.2.1.1, j4.2.2.2.2.2.2.2.1.1, none, none]) (hr := (fun r q => pfin [.d (.scr p_script)] q = .ok (.d (.bl r)) [.d (.scr p_script)])) (by exact (iv_rngK (pv_k _) (pv_k _) (by decide +kernel))) rfl (fun x2 q3 j4 => ⟨[some (.d (.scr p_script)), some (.c (rowD q3)), some (.d (.int x2)), j4.1.1, j4.2.1.1, j4.2.2.1.1, j4.2.2.2.1.1, j4.2.2.2.2.1.1, j4.2.2.2.2.2.1.1, j4.2.2.2.2.2.2.1.1, j4.2.2.2.2.2.2.2.1.1, none, none], (by exact (bt_n (psetJ (o := j4.2.2.2.2.2.2.2.2.1) rfl j4.2.2.2.2.2.2.2.2.2 rfl))), ?_⟩) (fun q3 j4 => ?_) (by exact (fun r231 a232 a233 h234 => h234))
  · refine qq_set (ve := fun (a66 : (List (Str × Int × Int)) × St) => (.n (.lst ((a66.1).map (eT3 D.str D.int D.int))))) (se := fun (a66 : (List (Str × Int × Int)) × St) => [some (.d (.scr p_script)), some (.c (rowD a66.2)), some (.d (.int x2)), j4.1.1, j4.2.1.1, j4.2.2.1.1, j4.2.2.2.1.1, j4.2.2.2.2.1.1, j4.2.2.2.2.2.1.1, j4.2.2.2.2.2.2.1.1, j4.2.2.2.2.2.2.2.1.1, none, none]) (y := fun (a66 : (List (Str × Int × Int)) × St) => (.lst ((a66.1).map (eT3 D.str D.int D.int)))) (s2 := fun (a66 : (List (Str × Int × Int)) × St) => [some (.d (.scr p_script)), some (.c (rowD a66.2)), some (.d (.int x2)), some (.d (.lst ((a66.1).map (eT3 D.str D.int D.int)))), j4.2.1.1, j4.2.2.1.1, j4.2.2.2.1.1, j4.2.2.2.2.1.1, j4.2.2.2.2.2.1.1, j4.2.2.2.2.2.2.1.1, j4.2.2.2.2.2.2.2.1.1, none, none]) (by exact (ef_call (ak_consP (x := (.v 1)) (pv_cell rfl) (ak_nil (call_end (s := [some (.d (.scr p_script)), some (.c (rowD q3)), some (.d (.int x2)), j4.1.1, j4.2.1.1, j4.2.2.1.1, j4.2.2.2.1.1, j4.2.2.2.2.1.1, j4.2.2.2.2.2.1.1, j4.2.2.2.2.2.2.1.1, j4.2.2.2.2.2.2.2.1.1, none, none]) (rs := [(.v 1)]) (args := [.b true (rowD q3)]) (fin := fun (z : (List (Str × Int × Int)) × St) => [.b true (rowD z.2)]) (sr := fun (p : (List (Str × Int × Int)) × St) => [some (.d (.scr p_script)), some (.c (rowD p.2)), some (.d (.int x2)), j4.1.1, j4.2.1.1, j4.2.2.1.1, j4.2.2.2.1.1, j4.2.2.2.2.1.1, j4.2.2.2.2.2.1.1, j4.2.2.2.2.2.2.1.1, j4.2.2.2.2.2.2.2.1.1, none, none]) rfl nd1 (by exact (q_law_list (n + 4) (q3))) (fun _ => rfl)))))) (fun _ => rfl) (fun a66 => (by exact (psetJ (o := j4.1.1) rfl j4.1.2 rfl))) (fun a66 => ?_)
    refine qq_set (ve := fun (a71 : Int × St) => (.d (.int a71.1))) (se := fun (a71 : Int × St) => [some (.d (.scr p_script)), some (.c (rowD a71.2)), some (.d (.int x2)), some (.d (.lst ((a66.1).map (eT3 D.str D.int D.int)))), j4.2.1.1, j4.2.2.1.1, j4.2.2.2.1.1, j4.2.2.2.2.1.1, j4.2.2.2.2.2.1.1, j4.2.2.2.2.2.2.1.1, j4.2.2.2.2.2.2.2.1.1, none, none]) (y := fun (a71 : Int × St) => (.int a71.1)) (s2 := fun (a71 : Int × St) => [some (.d (.scr p_script)), some (.c (rowD a71.2)), some (.d (.int x2)), some (.d (.lst ((a66.1).map (eT3 D.str D.int D.int)))), some (.d (.int a71.1)), j4.2.2.1.1, j4.2.2.2.1.1, j4.2.2.2.2.1.1, j4.2.2.2.2.2.1.1, j4.2.2.2.2.2.2.1.1, j4.2.2.2.2.2.2.2.1.1, none, none]) (by exact (ef_ife (vc := fun (x68 : Bool × St) => x68.1) (sc := fun (x68 : Bool × St) => [some (.d (.scr p_script)), some (.c (rowD x68.2)), some (.d (.int x2)), some (.d (.lst ((a66.1).map (eT3 D.str D.int D.int)))), j4.2.1.1, j4.2.2.1.1, j4.2.2.2.1.1, j4.2.2.2.2.1.1, j4.2.2.2.2.2.1.1, j4.2.2.2.2.2.2.1.1, j4.2.2.2.2.2.2.2.1.1, none, none]) (tf_v (w := fun (p : Bool × St) => (.d (.bl p.1))) (sr := fun (p : Bool × St) => [some (.d (.scr p_script)), some (.c (rowD p.2)), some (.d (.int x2)), some (.d (.lst ((a66.1).map (eT3 D.str D.int D.int)))), j4.2.1.1, j4.2.2.1.1, j4.2.2.2.1.1, j4.2.2.2.2.1.1, j4.2.2.2.2.2.1.1, j4.2.2.2.2.2.2.1.1, j4.2.2.2.2.2.2.2.1.1, none, none]) (b := fun (p : Bool × St) => p.1) (d := fun (p : Bool × St) => (.bl p.1)) (fun _ => rfl) (ef_op2 (ak_cons (ve := fun (a67 : Int × St) => (.d (.int a67.1))) (se := fun (a67 : Int × St) => [some (.d (.scr p_script)), some (.c (rowD a67.2)), some (.d (.int x2)), some (.d (.lst ((a66.1).map (eT3 D.str D.int D.int)))), j4.2.1.1, j4.2.2.1.1, j4.2.2.2.1.1, j4.2.2.2.2.1.1, j4.2.2.2.2.2.1.1, j4.2.2.2.2.2.2.1.1, j4.2.2.2.2.2.2.2.1.1, none, none]) (ef_call (ak_consP (x := (.v 1)) (pv_cell rfl) (ak_consP (x := (.d (.int (8 : Int)))) (pv_k _) (ak_nil (call_end (s := [some (.d (.scr p_script)), some (.c (rowD a66.2)), some (.d (.int x2)), some (.d (.lst ((a66.1).map (eT3 D.str D.int D.int)))), j4.2.1.1, j4.2.2.1.1, j4.2.2.2.1.1, j4.2.2.2.2.1.1, j4.2.2.2.2.2.1.1, j4.2.2.2.2.2.2.1.1, j4.2.2.2.2.2.2.2.1.1, none, none]) (rs := [(.v 1), (.d (.int (8 : Int)))]) (args := [.b true (rowD a66.2), .d (.int (8 : Int))]) (fin := fun (z : Int × St) => [.b true (rowD z.2), .d (.int (8 : Int))]) (sr := fun (p : Int × St) => [some (.d (.scr p_script)), some (.c (rowD p.2)), some (.d (.int x2)), some (.d (.lst ((a66.1).map (eT3 D.str D.int D.int)))), j4.2.1.1, j4.2.2.1.1, j4.2.2.2.1.1, j4.2.2.2.2.1.1, j4.2.2.2.2.2.1.1, j4.2.2.2.2.2.2.1.1, j4.2.2.2.2.2.2.2.1.1, none, none]) rfl nd1 (by exact (q_taken (n + 7) (a66.2) ((8 : Int)))) (fun _ => rfl)))))) fun a67 => (ak_consP (x := (.d (.int (0 : Int)))) (pv_k _) (ak_nil (nary_ok (ds := [(.int a67.1), (.int (0 : Int))]) (r := (.d (.bl (a67.1 == (0 : Int))))) (w := fun (p : Bool × St) => (.d (.bl p.1))) (sr := fun (p : Bool × St) => [some (.d (.scr p_script)), some (.c (rowD p.2)), some (.d (.int x2)), some (.d (.lst ((a66.1).map (eT3 D.str D.int D.int)))), j4.2.1.1, j4.2.2.1.1, j4.2.2.2.1.1, j4.2.2.2.2.1.1, j4.2.2.2.2.2.1.1, j4.2.2.2.2.2.2.1.1, j4.2.2.2.2.2.2.2.1.1, none, none]) rfl rfl rfl rfl))))) (fun _ => rfl) (fun _ => rfl)) (fun x68 => (ef_call (ak_consP (x := (.v 1)) (pv_cell rfl) (ak_cons (ve := fun (a70 : (List Int) × St) => (.n (.lst ((a70.1).map D.int)))) (se := fun (a70 : (List Int) × St) => [some (.d (.scr p_script)), some (.c (rowD a70.2)), some (.d (.int x2)), some (.d (.lst ((a66.1).map (eT3 D.str D.int D.int)))), j4.2.1.1, j4.2.2.1.1, j4.2.2.2.1.1, j4.2.2.2.2.1.1, j4.2.2.2.2.2.1.1, j4.2.2.2.2.2.2.1.1, j4.2.2.2.2.2.2.2.1.1, none, none]) (ef_lst (ak_consP (x := (.d (.int (500 : Int)))) (pv_k _) (ak_cons (ve := fun (a69 : Int × St) => (.d (.int a69.1))) (se := fun (a69 : Int × St) => [some (.d (.scr p_script)), some (.c (rowD a69.2)), some (.d (.int x2)), some (.d (.lst ((a66.1).map (eT3 D.str D.int D.int)))), j4.2.1.1, j4.2.2.1.1, j4.2.2.2.1.1, j4.2.2.2.2.1.1, j4.2.2.2.2.2.1.1, j4.2.2.2.2.2.2.1.1, j4.2.2.2.2.2.2.2.1.1, none, none]) (ef_call (ak_consP (x := (.v 1)) (pv_cell rfl) (ak_consP (x := (.d (.int (501 : Int)))) (pv_k _) (ak_nil (call_end (s := [some (.d (.scr p_script)), some (.c (rowD x68.2)), some (.d (.int x2)), some (.d (.lst ((a66.1).map (eT3 D.str D.int D.int)))), j4.2.1.1, j4.2.2.1.1, j4.2.2.2.1.1, j4.2.2.2.2.1.1, j4.2.2.2.2.2.1.1, j4.2.2.2.2.2.2.1.1, j4.2.2.2.2.2.2.2.1.1, none, none]) (rs := [(.v 1), (.d (.int (501 : Int)))]) (args := [.b true (rowD x68.2), .d (.int (501 : Int))]) (fin := fun (z : Int × St) => [.b true (rowD z.2), .d (.int (501 : Int))]) (sr := fun (p : Int × St) => [some (.d (.scr p_script)), some (.c (rowD p.2)), some (.d (.int x2)), some (.d (.lst ((a66.1).map (eT3 D.str D.int D.int)))), j4.2.1.1, j4.2.2.1.1, j4.2.2.2.1.1, j4.2.2.2.2.1.1, j4.2.2.2.2.2.1.1, j4.2.2.2.2.2.2.1.1, j4.2.2.2.2.2.2.2.1.1, none, none]) rfl nd1 (by exact (q_taken (n + 7) (x68.2) ((501 : Int)))) (fun _ => rfl)))))) fun a69 => (ak_nil (lst_end (c := (([(500 : Int), a69.1], a69.2) : (List Int) × St)) (ds := [(.int (500 : Int)), (.int a69.1)]) (s' := [some (.d (.scr p_script)), some (.c (rowD a69.2)), some (.d (.int x2)), some (.d (.lst ((a66.1).map (eT3 D.str D.int D.int)))), j4.2.1.1, j4.2.2.1.1, j4.2.2.2.1.1, j4.2.2.2.2.1.1, j4.2.2.2.2.2.1.1, j4.2.2.2.2.2.2.1.1, j4.2.2.2.2.2.2.2.1.1, none, none]) (w := fun (p : (List Int) × St) => (.n (.lst ((p.1).map D.int)))) (sr := fun (p : (List Int) × St) => [some (.d (.scr p_script)), some (.c (rowD p.2)), some (.d (.int x2)), some (.d (.lst ((a66.1).map (eT3 D.str D.int D.int)))), j4.2.1.1, j4.2.2.1.1, j4.2.2.2.1.1, j4.2.2.2.2.1.1, j4.2.2.2.2.2.1.1, j4.2.2.2.2.2.2.1.1, j4.2.2.2.2.2.2.2.1.1, none, none]) rfl rfl rfl rfl))))) fun a70 => (ak_nil (call_end (s := [some (.d (.scr p_script)), some (.c (rowD a70.2)), some (.d (.int x2)), some (.d (.lst ((a66.1).map (eT3 D.str D.int D.int)))), j4.2.1.1, j4.2.2.1.1, j4.2.2.2.1.1, j4.2.2.2.2.1.1, j4.2.2.2.2.2.1.1, j4.2.2.2.2.2.2.1.1, j4.2.2.2.2.2.2.2.1.1, none, none]) (rs := [(.v 1), (.d (.lst ((a70.1).map D.int)))]) (args := [.b true (rowD a70.2), .d (.lst ((a70.1).map D.int))]) (fin := fun (z : Int × St) => [.b true (rowD z.2), .d (.lst ((a70.1).map D.int))]) (sr := fun (p : Int × St) => [some (.d (.scr p_script)), some (.c (rowD p.2)), some (.d (.int x2)), some (.d (.lst ((a66.1).map (eT3 D.str D.int D.int)))), j4.2.1.1, j4.2.2.1.1, j4.2.2.2.1.1, j4.2.2.2.2.1.1, j4.2.2.2.2.2.1.1, j4.2.2.2.2.2.2.1.1, j4.2.2.2.2.2.2.2.1.1, none, none]) rfl nd1 (by exact (q_law_pick (n + 6) (a70.2) (a70.1))) (fun _ => rfl))))))) (fun x68 => (ef_call (ak_consP (x := (.v 1)) (pv_cell rfl) (ak_consP (x := (.d (.int (61 : Int)))) (pv_k _) (ak_nil (call_end (s := [some (.d (.scr p_script)), some (.c (rowD x68.2)), some (.d (.int x2)), some (.d (.lst ((a66.1).map (eT3 D.str D.int D.int)))), j4.2.1.1, j4.2.2.1.1, j4.2.2.2.1.1, j4.2.2.2.2.1.1, j4.2.2.2.2.2.1.1, j4.2.2.2.2.2.2.1.1, j4.2.2.2.2.2.2.2.1.1, none, none]) (rs := [(.v 1), (.d (.int (61 : Int)))]) (args := [.b true (rowD x68.2), .d (.int (61 : Int))]) (fin := fun (z : Int × St) => [.b true (rowD z.2), .d (.int (61 : Int))]) (sr := fun (p : Int × St) => [some (.d (.scr p_script)), some (.c (rowD p.2)), some (.d (.int x2)), some (.d (.lst ((a66.1).map (eT3 D.str D.int D.int)))), j4.2.1.1, j4.2.2.1.1, j4.2.2.2.1.1, j4.2.2.2.2.1.1, j4.2.2.2.2.2.1.1, j4.2.2.2.2.2.2.1.1, j4.2.2.2.2.2.2.2.1.1, none, none]) rfl nd1 (by exact (q_taken (n + 7) (x68.2) ((61 : Int)))) (fun _ => rfl))))))))) (fun _ => rfl) (fun a71 => (by exact (psetJ (o := j4.2.1.1) rfl j4.2.1.2 rfl))) (fun a71 => ?_)
    refine qq_par (pk_cons (c := false) (ve := fun (a72 : (Bool × List (Str × Int × Int)) × St) => (poG (eT3 D.str D.int D.int) a72.1)) (se := fun (a72 : (Bool × List (Str × Int × Int)) × St) => [some (.d (.scr p_script)), some (.c (rowD a72.2)), some (.d (.int x2)), some (.d (.lst ((a66.1).map (eT3 D.str D.int D.int)))), some (.d (.int a71.1)), j4.2.2.1.1, j4.2.2.2.1.1, j4.2.2.2.2.1.1, j4.2.2.2.2.2.1.1, j4.2.2.2.2.2.2.1.1, j4.2.2.2.2.2.2.2.1.1, none, none]) (ve' := fun (a72 : (Bool × List (Str × Int × Int)) × St) => (.d ((eG (eT3 D.str D.int D.int)) a72.1))) (by exact (ef_call (ak_consP (x := (.v 1)) (pv_cell rfl) (ak_consP (x := (.d (.lst ((a66.1).map (eT3 D.str D.int D.int))))) (pv_var (i := 3) rfl) (ak_nil (call_end (s := [some (.d (.scr p_script)), some (.c (rowD a71.2)), some (.d (.int x2)), some (.d (.lst ((a66.1).map (eT3 D.str D.int D.int)))), some (.d (.int a71.1)), j4.2.2.1.1, j4.2.2.2.1.1, j4.2.2.2.2.1.1, j4.2.2.2.2.2.1.1, j4.2.2.2.2.2.2.1.1, j4.2.2.2.2.2.2.2.1.1, none, none]) (rs := [(.v 1), (.d (.lst ((a66.1).map (eT3 D.str D.int D.int))))]) (args := [.b true (rowD a71.2), .d (.lst ((a66.1).map (eT3 D.str D.int D.int)))]) (fin := fun (z : (Bool × List (Str × Int × Int)) × St) => [.b true (rowD z.2), .d (.lst ((a66.1).map (eT3 D.str D.int D.int)))]) (sr := fun (p : (Bool × List (Str × Int × Int)) × St) => [some (.d (.scr p_script)), some (.c (rowD p.2)), some (.d (.int x2)), some (.d (.lst ((a66.1).map (eT3 D.str D.int D.int)))), some (.d (.int a71.1)), j4.2.2.1.1, j4.2.2.2.1.1, j4.2.2.2.2.1.1, j4.2.2.2.2.2.1.1, j4.2.2.2.2.2.2.1.1, j4.2.2.2.2.2.2.2.1.1, none, none]) rfl nd1 (by exact (q_given (eT3 D.str D.int D.int) (n + 6) (a71.2) (a66.1))) (fun _ => rfl))))))) (fun _ => pkvG) (fun a72 => (pk_cons (c := false) (ve := fun (a93 : (List Int)) => (.n (.lst ((a93).map D.int)))) (se := fun (a93 : (List Int)) => [some (.d (.scr p_script)), some (.c (rowD a72.2)), some (.d (.int x2)), some (.d (.lst ((a66.1).map (eT3 D.str D.int D.int)))), some (.d (.int a71.1)), j4.2.2.1.1, j4.2.2.2.1.1, j4.2.2.2.2.1.1, j4.2.2.2.2.2.1.1, j4.2.2.2.2.2.2.1.1, j4.2.2.2.2.2.2.2.1.1, none, none]) (ve' := fun (a93 : (List Int)) => (.d (.lst ((a93).map D.int)))) (by exact (ef_call (ak_consP (x := (.d (.lst ((a66.1).map (eT3 D.str D.int D.int))))) (pv_var (i := 3) rfl) (ak_consP (x := (.d (.int a71.1))) (pv_var (i := 4) rfl) (ak_nil (call_end (s := [some (.d (.scr p_script)), some (.c (rowD a72.2)), some (.d (.int x2)), some (.d (.lst ((a66.1).map (eT3 D.str D.int D.int)))), some (.d (.int a71.1)), j4.2.2.1.1, j4.2.2.2.1.1, j4.2.2.2.2.1.1, j4.2.2.2.2.2.1.1, j4.2.2.2.2.2.2.1.1, j4.2.2.2.2.2.2.2.1.1, none, none]) (rs := [(.d (.lst ((a66.1).map (eT3 D.str D.int D.int)))), (.d (.int a71.1))]) (args := [.d (.lst ((a66.1).map (eT3 D.str D.int D.int))), .d (.int a71.1)]) (fin := fun (z : (List Int)) => [.d (.lst ((a66.1).map (eT3 D.str D.int D.int))), .d (.int a71.1)]) (sr := fun _ => [some (.d (.scr p_script)), some (.c (rowD a72.2)), some (.d (.int x2)), some (.d (.lst ((a66.1).map (eT3 D.str D.int D.int)))), some (.d (.int a71.1)), j4.2.2.1.1, j4.2.2.2.1.1, j4.2.2.2.2.1.1, j4.2.2.2.2.2.1.1, j4.2.2.2.2.2.2.1.1, j4.2.2.2.2.2.2.2.1.1, none, none]) rfl List.nodup_nil (by exact (q_law_best (n + 7) (a66.1) (a71.1))) (fun _ => rfl))))))) (fun _ => rfl) (fun a93 => (pk_nil (par_on (s := [some (.d (.scr p_script)), some (.c (rowD a72.2)), some (.d (.int x2)), some (.d (.lst ((a66.1).map (eT3 D.str D.int D.int)))), some (.d (.int a71.1)), j4.2.2.1.1, j4.2.2.2.1.1, j4.2.2.2.2.1.1, j4.2.2.2.2.2.1.1, j4.2.2.2.2.2.2.1.1, j4.2.2.2.2.2.2.2.1.1, none, none]) (s2 := [some (.d (.scr p_script)), some (.c (rowD a72.2)), some (.d (.int x2)), some (.d (.lst ((a66.1).map (eT3 D.str D.int D.int)))), some (.d (.int a71.1)), some (.d ((eG (eT3 D.str D.int D.int)) a72.1)), some (.d (.lst ((a93).map D.int))), j4.2.2.2.2.1.1, j4.2.2.2.2.2.1.1, j4.2.2.2.2.2.2.1.1, j4.2.2.2.2.2.2.2.1.1, none, none]) (by exact (sa_d (s := [some (.d (.scr p_script)), some (.c (rowD a72.2)), some (.d (.int x2)), some (.d (.lst ((a66.1).map (eT3 D.str D.int D.int)))), some (.d (.int a71.1)), j4.2.2.1.1, j4.2.2.2.1.1, j4.2.2.2.2.1.1, j4.2.2.2.2.2.1.1, j4.2.2.2.2.2.2.1.1, j4.2.2.2.2.2.2.2.1.1, none, none]) (s1 := [some (.d (.scr p_script)), some (.c (rowD a72.2)), some (.d (.int x2)), some (.d (.lst ((a66.1).map (eT3 D.str D.int D.int)))), some (.d (.int a71.1)), some (.d ((eG (eT3 D.str D.int D.int)) a72.1)), j4.2.2.2.1.1, j4.2.2.2.2.1.1, j4.2.2.2.2.2.1.1, j4.2.2.2.2.2.2.1.1, j4.2.2.2.2.2.2.2.1.1, none, none]) (i := 5) (psetJ (o := j4.2.2.1.1) rfl j4.2.2.1.2 rfl) (sa_d (s := [some (.d (.scr p_script)), some (.c (rowD a72.2)), some (.d (.int x2)), some (.d (.lst ((a66.1).map (eT3 D.str D.int D.int)))), some (.d (.int a71.1)), some (.d ((eG (eT3 D.str D.int D.int)) a72.1)), j4.2.2.2.1.1, j4.2.2.2.2.1.1, j4.2.2.2.2.2.1.1, j4.2.2.2.2.2.2.1.1, j4.2.2.2.2.2.2.2.1.1, none, none]) (s1 := [some (.d (.scr p_script)), some (.c (rowD a72.2)), some (.d (.int x2)), some (.d (.lst ((a66.1).map (eT3 D.str D.int D.int)))), some (.d (.int a71.1)), some (.d ((eG (eT3 D.str D.int D.int)) a72.1)), some (.d (.lst ((a93).map D.int))), j4.2.2.2.2.1.1, j4.2.2.2.2.2.1.1, j4.2.2.2.2.2.2.1.1, j4.2.2.2.2.2.2.2.1.1, none, none]) (i := 6) (psetJ (o := j4.2.2.2.1.1) rfl j4.2.2.2.1.2 rfl) sa_nil))) ?_))))))
    refine qq_loop (xs := fun (a95 : (List Int) × St) => a95.1) (en := D.int) (st := fun (a95 : (List Int) × St) => ()) (j := fun (a95 : (List Int) × St) => (j4.2.2.2.2.2.1, j4.2.2.2.2.2.2.1, j4.2.2.2.2.2.2.2.1, j4.2.2.2.2.1)) (V := fun (a95 : (List Int) × St) => fun (q97 : Unit) (j98 : (Jn × Jn × Jn × Jn)) => [some (.d (.scr p_script)), some (.c (rowD a95.2)), some (.d (.int x2)), some (.d (.lst ((a66.1).map (eT3 D.str D.int D.int)))), some (.d (.int a71.1)), some (.d ((eG (eT3 D.str D.int D.int)) a72.1)), some (.d (.lst ((a93).map D.int))), j98.2.2.2.1, j98.1.1, j98.2.1.1, j98.2.2.1.1, none, none]) (hr := (fun r q => pfin [.d (.scr p_script)] q = .ok (.d (.bl r)) [.d (.scr p_script)])) (si := fun (a95 : (List Int) × St) => [some (.d (.scr p_script)), some (.c (rowD a95.2)), some (.d (.int x2)), some (.d (.lst ((a66.1).map (eT3 D.str D.int D.int)))), some (.d (.int a71.1)), some (.d ((eG (eT3 D.str D.int D.int)) a72.1)), some (.d (.lst ((a93).map D.int))), j4.2.2.2.2.1.1, j4.2.2.2.2.2.1.1, j4.2.2.2.2.2.2.1.1, j4.2.2.2.2.2.2.2.1.1, none, none]) (by exact (if_v (r := fun (p : (List Int) × St) => ((p.1).map D.int, [])) (fun _ => rfl) (ef_lst (ak_consP (x := (.d (.int a71.1))) (pv_var (i := 4) rfl) (ak_cons (ve := fun (a94 : Int × St) => (.d (.int a94.1))) (se := fun (a94 : Int × St) => [some (.d (.scr p_script)), some (.c (rowD a94.2)), some (.d (.int x2)), some (.d (.lst ((a66.1).map (eT3 D.str D.int D.int)))), some (.d (.int a71.1)), some (.d ((eG (eT3 D.str D.int D.int)) a72.1)), some (.d (.lst ((a93).map D.int))), j4.2.2.2.2.1.1, j4.2.2.2.2.2.1.1, j4.2.2.2.2.2.2.1.1, j4.2.2.2.2.2.2.2.1.1, none, none]) (ef_call (ak_consP (x := (.v 1)) (pv_cell rfl) (ak_consP (x := (.d (.int (a71.1 + (1 : Int))))) (pv_op2 (x := (.d (.int a71.1))) (d := (.int a71.1)) (y := (.d (.int (1 : Int)))) (e := (.int (1 : Int))) (r := (.d (.int (a71.1 + (1 : Int))))) (pv_var (i := 4) rfl) (pv_k _) rfl rfl rfl) (ak_nil (call_end (s := [some (.d (.scr p_script)), some (.c (rowD a72.2)), some (.d (.int x2)), some (.d (.lst ((a66.1).map (eT3 D.str D.int D.int)))), some (.d (.int a71.1)), some (.d ((eG (eT3 D.str D.int D.int)) a72.1)), some (.d (.lst ((a93).map D.int))), j4.2.2.2.2.1.1, j4.2.2.2.2.2.1.1, j4.2.2.2.2.2.2.1.1, j4.2.2.2.2.2.2.2.1.1, none, none]) (rs := [(.v 1), (.d (.int (a71.1 + (1 : Int))))]) (args := [.b true (rowD a72.2), .d (.int (a71.1 + (1 : Int)))]) (fin := fun (z : Int × St) => [.b true (rowD z.2), .d (.int (a71.1 + (1 : Int)))]) (sr := fun (p : Int × St) => [some (.d (.scr p_script)), some (.c (rowD p.2)), some (.d (.int x2)), some (.d (.lst ((a66.1).map (eT3 D.str D.int D.int)))), some (.d (.int a71.1)), some (.d ((eG (eT3 D.str D.int D.int)) a72.1)), some (.d (.lst ((a93).map D.int))), j4.2.2.2.2.1.1, j4.2.2.2.2.2.1.1, j4.2.2.2.2.2.2.1.1, j4.2.2.2.2.2.2.2.1.1, none, none]) rfl nd1 (by exact (q_taken (n + 7) (a72.2) ((a71.1 + (1 : Int))))) (fun _ => rfl)))))) fun a94 => (ak_consP (x := (.d (.int a71.1))) (pv_var (i := 4) rfl) (ak_nil (lst_end (c := (([a71.1, a94.1, a71.1], a94.2) : (List Int) × St)) (ds := [(.int a71.1), (.int a94.1), (.int a71.1)]) (s' := [some (.d (.scr p_script)), some (.c (rowD a94.2)), some (.d (.int x2)), some (.d (.lst ((a66.1).map (eT3 D.str D.int D.int)))), some (.d (.int a71.1)), some (.d ((eG (eT3 D.str D.int D.int)) a72.1)), some (.d (.lst ((a93).map D.int))), j4.2.2.2.2.1.1, j4.2.2.2.2.2.1.1, j4.2.2.2.2.2.2.1.1, j4.2.2.2.2.2.2.2.1.1, none, none]) (w := fun (p : (List Int) × St) => (.n (.lst ((p.1).map D.int)))) (sr := fun (p : (List Int) × St) => [some (.d (.scr p_script)), some (.c (rowD p.2)), some (.d (.int x2)), some (.d (.lst ((a66.1).map (eT3 D.str D.int D.int)))), some (.d (.int a71.1)), some (.d ((eG (eT3 D.str D.int D.int)) a72.1)), some (.d (.lst ((a93).map D.int))), j4.2.2.2.2.1.1, j4.2.2.2.2.2.1.1, j4.2.2.2.2.2.2.1.1, j4.2.2.2.2.2.2.2.1.1, none, none]) rfl rfl rfl rfl)))))) (fun _ => rfl))) (fun a95 => rfl) (fun a95 x96 q97 j98 => ⟨[some (.d (.scr p_script)), some (.c (rowD a95.2)), some (.d (.int x2)), some (.d (.lst ((a66.1).map (eT3 D.str D.int D.int)))), some (.d (.int a71.1)), some (.d ((eG (eT3 D.str D.int D.int)) a72.1)), some (.d (.lst ((a93).map D.int))), some (.d (.int x96)), j98.1.1, j98.2.1.1, j98.2.2.1.1, none, none], (by exact (bt_n (psetJ (o := j98.2.2.2.1) rfl j98.2.2.2.2 rfl))), ?_⟩) (fun a95 q97 j98 => ?_) (by exact (fun a95 r225 a226 a227 h228 => ⟨⟨_, _, rfl⟩, h228⟩))
    · refine qq_ite (vc := fun (a152 : Bool) => (!a152)) (sc := fun (a152 : Bool) => [some (.d (.scr p_script)), some (.c (rowD a95.2)), some (.d (.int x2)), some (.d (.lst ((a66.1).map (eT3 D.str D.int D.int)))), some (.d (.int a71.1)), some (.d ((eG (eT3 D.str D.int D.int)) a72.1)), some (.d (.lst ((a93).map D.int))), some (.d (.int x96)), j98.1.1, j98.2.1.1, j98.2.2.1.1, none, none]) (by exact (tf_not (tf_v (w := fun (p : Bool) => (.d (.bl p))) (sr := fun (p : Bool) => [some (.d (.scr p_script)), some (.c (rowD a95.2)), some (.d (.int x2)), some (.d (.lst ((a66.1).map (eT3 D.str D.int D.int)))), some (.d (.int a71.1)), some (.d ((eG (eT3 D.str D.int D.int)) a72.1)), some (.d (.lst ((a93).map D.int))), some (.d (.int x96)), j98.1.1, j98.2.1.1, j98.2.2.1.1, none, none]) (b := fun (p : Bool) => p) (d := fun (p : Bool) => (.bl p)) (fun _ => rfl) (ef_call (ak_cons (ve := fun (a150 : Int) => (.d (.int a150))) (se := fun (a150 : Int) => [some (.d (.scr p_script)), some (.c (rowD a95.2)), some (.d (.int x2)), some (.d (.lst ((a66.1).map (eT3 D.str D.int D.int)))), some (.d (.int a71.1)), some (.d ((eG (eT3 D.str D.int D.int)) a72.1)), some (.d (.lst ((a93).map D.int))), some (.d (.int x96)), j98.1.1, j98.2.1.1, j98.2.2.1.1, none, none]) (ef_call (ak_consP (x := (.d ((eG (eT3 D.str D.int D.int)) a72.1))) (pv_var (i := 5) rfl) (ak_consP (x := (.d (.int x96))) (pv_var (i := 7) rfl) (ak_nil (call_end (s := [some (.d (.scr p_script)), some (.c (rowD a95.2)), some (.d (.int x2)), some (.d (.lst ((a66.1).map (eT3 D.str D.int D.int)))), some (.d (.int a71.1)), some (.d ((eG (eT3 D.str D.int D.int)) a72.1)), some (.d (.lst ((a93).map D.int))), some (.d (.int x96)), j98.1.1, j98.2.1.1, j98.2.2.1.1, none, none]) (rs := [(.d ((eG (eT3 D.str D.int D.int)) a72.1)), (.d (.int x96))]) (args := [.d ((eG (eT3 D.str D.int D.int)) a72.1), .d (.int x96)]) (fin := fun (z : Int) => [.d ((eG (eT3 D.str D.int D.int)) a72.1), .d (.int x96)]) (sr := fun _ => [some (.d (.scr p_script)), some (.c (rowD a95.2)), some (.d (.int x2)), some (.d (.lst ((a66.1).map (eT3 D.str D.int D.int)))), some (.d (.int a71.1)), some (.d ((eG (eT3 D.str D.int D.int)) a72.1)), some (.d (.lst ((a93).map D.int))), some (.d (.int x96)), j98.1.1, j98.2.1.1, j98.2.2.1.1, none, none]) rfl List.nodup_nil (by exact (q_best_discount (n + 3) (a72.1) (x96))) (fun _ => rfl)))))) fun a150 => (ak_cons (ve := fun (a151 : Int) => (.d (.int a151))) (se := fun (a151 : Int) => [some (.d (.scr p_script)), some (.c (rowD a95.2)), some (.d (.int x2)), some (.d (.lst ((a66.1).map (eT3 D.str D.int D.int)))), some (.d (.int a71.1)), some (.d ((eG (eT3 D.str D.int D.int)) a72.1)), some (.d (.lst ((a93).map D.int))), some (.d (.int x96)), j98.1.1, j98.2.1.1, j98.2.2.1.1, none, none]) (ef_idx (ak_consP (x := (.d (.lst ((a93).map D.int)))) (pv_var (i := 6) rfl) (ak_consP (x := (.d (.int x96))) (pv_var (i := 7) rfl) (ak_nil (nary_end (ds := [(.lst ((a93).map D.int)), (.int x96)]) rfl (os_at (e := D.int))))))) fun a151 => (ak_nil (call_end (s := [some (.d (.scr p_script)), some (.c (rowD a95.2)), some (.d (.int x2)), some (.d (.lst ((a66.1).map (eT3 D.str D.int D.int)))), some (.d (.int a71.1)), some (.d ((eG (eT3 D.str D.int D.int)) a72.1)), some (.d (.lst ((a93).map D.int))), some (.d (.int x96)), j98.1.1, j98.2.1.1, j98.2.2.1.1, none, none]) (rs := [(.d (.int a150)), (.d (.int a151))]) (args := [.d (.int a150), .d (.int a151)]) (fin := fun (z : Bool) => [.d (.int a150), .d (.int a151)]) (sr := fun _ => [some (.d (.scr p_script)), some (.c (rowD a95.2)), some (.d (.int x2)), some (.d (.lst ((a66.1).map (eT3 D.str D.int D.int)))), some (.d (.int a71.1)), some (.d ((eG (eT3 D.str D.int D.int)) a72.1)), some (.d (.lst ((a93).map D.int))), some (.d (.int x96)), j98.1.1, j98.2.1.1, j98.2.2.1.1, none, none]) rfl List.nodup_nil (by exact (q_alike n (.int a150) (.int a151))) (fun _ => rfl)))))) (fun _ => rfl) (fun _ => rfl)))) (fun a152 => ?_) (fun a152 => ?_)
      · refine qq_retP (x := (.d (.bl false))) (by exact (pv_k _)) ?_
        exact ⟨⟨_, _, rfl⟩, rfl⟩
      · refine qq_skip ?_
        change QK _ _ _ _ _ _
        refine qq_set (ve := fun (a179 : (List Str)) => (.d (.tup ((a179).map D.str)))) (se := fun (a179 : (List Str)) => [some (.d (.scr p_script)), some (.c (rowD a95.2)), some (.d (.int x2)), some (.d (.lst ((a66.1).map (eT3 D.str D.int D.int)))), some (.d (.int a71.1)), some (.d ((eG (eT3 D.str D.int D.int)) a72.1)), some (.d (.lst ((a93).map D.int))), some (.d (.int x96)), j98.1.1, j98.2.1.1, j98.2.2.1.1, none, none]) (y := fun (a179 : (List Str)) => (.tup ((a179).map D.str))) (s2 := fun (a179 : (List Str)) => [some (.d (.scr p_script)), some (.c (rowD a95.2)), some (.d (.int x2)), some (.d (.lst ((a66.1).map (eT3 D.str D.int D.int)))), some (.d (.int a71.1)), some (.d ((eG (eT3 D.str D.int D.int)) a72.1)), some (.d (.lst ((a93).map D.int))), some (.d (.int x96)), some (.d (.tup ((a179).map D.str))), j98.2.1.1, j98.2.2.1.1, none, none]) (by exact (ef_call (ak_consP (x := (.d ((eG (eT3 D.str D.int D.int)) a72.1))) (pv_var (i := 5) rfl) (ak_consP (x := (.d (.int x96))) (pv_var (i := 7) rfl) (ak_nil (call_end (s := [some (.d (.scr p_script)), some (.c (rowD a95.2)), some (.d (.int x2)), some (.d (.lst ((a66.1).map (eT3 D.str D.int D.int)))), some (.d (.int a71.1)), some (.d ((eG (eT3 D.str D.int D.int)) a72.1)), some (.d (.lst ((a93).map D.int))), some (.d (.int x96)), j98.1.1, j98.2.1.1, j98.2.2.1.1, none, none]) (rs := [(.d ((eG (eT3 D.str D.int D.int)) a72.1)), (.d (.int x96))]) (args := [.d ((eG (eT3 D.str D.int D.int)) a72.1), .d (.int x96)]) (fin := fun (z : (List Str)) => [.d ((eG (eT3 D.str D.int D.int)) a72.1), .d (.int x96)]) (sr := fun _ => [some (.d (.scr p_script)), some (.c (rowD a95.2)), some (.d (.int x2)), some (.d (.lst ((a66.1).map (eT3 D.str D.int D.int)))), some (.d (.int a71.1)), some (.d ((eG (eT3 D.str D.int D.int)) a72.1)), some (.d (.lst ((a93).map D.int))), some (.d (.int x96)), j98.1.1, j98.2.1.1, j98.2.2.1.1, none, none]) rfl List.nodup_nil (by exact (q_best_basket (n + 3) (a72.1) (x96))) (fun _ => rfl))))))) (fun _ => rfl) (fun a179 => (by exact (psetJ (o := j98.1.1) rfl j98.1.2 rfl))) (fun a179 => ?_)
        refine qq_setP (x := (.n (.lst ((((a66.1).map fun x181 => x181.1)).map D.str)))) (y := (.lst ((((a66.1).map fun x181 => x181.1)).map D.str))) (s2 := [some (.d (.scr p_script)), some (.c (rowD a95.2)), some (.d (.int x2)), some (.d (.lst ((a66.1).map (eT3 D.str D.int D.int)))), some (.d (.int a71.1)), some (.d ((eG (eT3 D.str D.int D.int)) a72.1)), some (.d (.lst ((a93).map D.int))), some (.d (.int x96)), some (.d (.tup ((a179).map D.str))), some (.d (.lst ((((a66.1).map fun x181 => x181.1)).map D.str))), j98.2.2.1.1, none, none]) (by exact (pv_lcM (xs := a66.1) (en := (eT3 D.str D.int D.int)) (g := []) (f := fun x181 => x181.1) (er := D.str) (sw := [some (.d (.scr p_script)), some (.c (rowD a95.2)), some (.d (.int x2)), some (.d (.lst ((a66.1).map (eT3 D.str D.int D.int)))), some (.d (.int a71.1)), some (.d ((eG (eT3 D.str D.int D.int)) a72.1)), some (.d (.lst ((a93).map D.int))), some (.d (.int x96)), some (.d (.tup ((a179).map D.str))), j98.2.1.1, j98.2.2.1.1, none, none]) (iv_v (fun _ => rfl) (pv_var (i := 3) rfl) rfl) rfl rfl chk_nil (fun x181 => ⟨[some (.d (.scr p_script)), some (.c (rowD a95.2)), some (.d (.int x2)), some (.d (.lst ((a66.1).map (eT3 D.str D.int D.int)))), some (.d (.int a71.1)), some (.d ((eG (eT3 D.str D.int D.int)) a72.1)), some (.d (.lst ((a93).map D.int))), some (.d (.int x96)), some (.d (.tup ((a179).map D.str))), j98.2.1.1, j98.2.2.1.1, some (.d (.tup [(.str x181.1), (.int x181.2.1), (.int x181.2.2)])), none], (bt_n rfl), ⟨_, (pv_idx (x := (.d (.tup [(.str x181.1), (.int x181.2.1), (.int x181.2.2)]))) (d := (.tup [(.str x181.1), (.int x181.2.1), (.int x181.2.2)])) (y := (.d (.int (0 : Int)))) (e := (.int (0 : Int))) (r := (.d (.str x181.1))) (pv_var (i := 11) rfl) (pv_k _) rfl rfl rfl), rfl⟩, rfl⟩) rfl)) rfl (by exact (psetJ (o := j98.2.1.1) rfl j98.2.1.2 rfl)) ?_
        refine qq_iteP (by exact (tv_or (tv_not (tv_v (d := (.bl true)) (fun _ => rfl) (pv_isi (x := (.d (.tup ((a179).map D.str)))) (d := (.tup ((a179).map D.str))) (r := (.d (.bl true))) (pv_var (i := 8) rfl) rfl rfl) rfl rfl)) (tv_v (d := (.bl (!((((a179).filter fun x186 => ((!true) || (!(((a66.1).map fun x181 => x181.1)).any (· == x186)))).map fun x186 => x186)).isEmpty))) (fun _ => rfl) (pv_op2 (x := (.n (.lst (((((a179).filter fun x186 => ((!true) || (!(((a66.1).map fun x181 => x181.1)).any (· == x186)))).map fun x186 => x186)).map D.str)))) (d := (.lst (((((a179).filter fun x186 => ((!true) || (!(((a66.1).map fun x181 => x181.1)).any (· == x186)))).map fun x186 => x186)).map D.str))) (y := (.n (.lst (([]).map (fun x => x))))) (e := (.lst (([]).map (fun x => x)))) (r := (.d (.bl (!((((a179).filter fun x186 => ((!true) || (!(((a66.1).map fun x181 => x181.1)).any (· == x186)))).map fun x186 => x186)).isEmpty)))) (pv_lcF (xs := a179) (en := D.str) (g := []) (p := fun x186 => ((!true) || (!(((a66.1).map fun x181 => x181.1)).any (· == x186)))) (f := fun x186 => x186) (er := D.str) (sw := [some (.d (.scr p_script)), some (.c (rowD a95.2)), some (.d (.int x2)), some (.d (.lst ((a66.1).map (eT3 D.str D.int D.int)))), some (.d (.int a71.1)), some (.d ((eG (eT3 D.str D.int D.int)) a72.1)), some (.d (.lst ((a93).map D.int))), some (.d (.int x96)), some (.d (.tup ((a179).map D.str))), some (.d (.lst ((((a66.1).map fun x181 => x181.1)).map D.str))), j98.2.2.1.1, none, none]) (iv_v (fun _ => rfl) (pv_var (i := 8) rfl) rfl) rfl rfl rfl chk_nil (fun x186 => ⟨[some (.d (.scr p_script)), some (.c (rowD a95.2)), some (.d (.int x2)), some (.d (.lst ((a66.1).map (eT3 D.str D.int D.int)))), some (.d (.int a71.1)), some (.d ((eG (eT3 D.str D.int D.int)) a72.1)), some (.d (.lst ((a93).map D.int))), some (.d (.int x96)), some (.d (.tup ((a179).map D.str))), some (.d (.lst ((((a66.1).map fun x181 => x181.1)).map D.str))), j98.2.2.1.1, some (.d (.str x186)), none], (bt_n rfl), (tv_or (tv_not (tv_v (d := (.bl true)) (fun _ => rfl) (pv_isi (x := (.d (.str x186))) (d := (.str x186)) (r := (.d (.bl true))) (pv_var (i := 11) rfl) rfl rfl) rfl rfl)) (tv_v (d := (.bl (!(((a66.1).map fun x181 => x181.1)).any (· == x186)))) (fun _ => rfl) (pv_op2 (x := (.d (.str x186))) (d := (.str x186)) (y := (.d (.lst ((((a66.1).map fun x181 => x181.1)).map D.str)))) (e := (.lst ((((a66.1).map fun x181 => x181.1)).map D.str))) (r := (.d (.bl (!(((a66.1).map fun x181 => x181.1)).any (· == x186))))) (pv_var (i := 11) rfl) (pv_var (i := 9) rfl) rfl rfl op_ninS) rfl rfl)), ⟨_, (pv_var (i := 11) rfl), rfl⟩, rfl⟩) rfl) (pv_lst (ds := []) pvs_nil rfl rfl) rfl rfl (op_emptyNe fla_str (by omega))) rfl rfl))) ?_ ?_
        · refine qq_retP (x := (.d (.bl false))) (by exact (pv_k _)) ?_
          exact ⟨⟨_, _, rfl⟩, rfl⟩
        · refine qq_skip ?_
          change QK _ _ _ _ _ _
          refine qq_ite (vc := fun (a192 : Bool) => a192) (sc := fun (a192 : Bool) => [some (.d (.scr p_script)), some (.c (rowD a95.2)), some (.d (.int x2)), some (.d (.lst ((a66.1).map (eT3 D.str D.int D.int)))), some (.d (.int a71.1)), some (.d ((eG (eT3 D.str D.int D.int)) a72.1)), some (.d (.lst ((a93).map D.int))), some (.d (.int x96)), some (.d (.tup ((a179).map D.str))), some (.d (.lst ((((a66.1).map fun x181 => x181.1)).map D.str))), j98.2.2.1.1, none, none]) (by exact (tf_v (w := fun (p : Bool) => (.d (.bl p))) (sr := fun (p : Bool) => [some (.d (.scr p_script)), some (.c (rowD a95.2)), some (.d (.int x2)), some (.d (.lst ((a66.1).map (eT3 D.str D.int D.int)))), some (.d (.int a71.1)), some (.d ((eG (eT3 D.str D.int D.int)) a72.1)), some (.d (.lst ((a93).map D.int))), some (.d (.int x96)), some (.d (.tup ((a179).map D.str))), some (.d (.lst ((((a66.1).map fun x181 => x181.1)).map D.str))), j98.2.2.1.1, none, none]) (b := fun (p : Bool) => p) (d := fun (p : Bool) => (.bl p)) (fun _ => rfl) (ef_op2 (ak_consP (x := (.n (.lst ((a179).map D.str)))) (pv_bi1 (b := .list) (x := (.d (.tup ((a179).map D.str)))) (d := (.tup ((a179).map D.str))) (r := (.n (.lst ((a179).map D.str)))) (pv_var (i := 8) rfl) rfl rfl) (ak_cons (ve := fun (a191 : (List Str)) => (.n (.lst ((a191).map D.str)))) (se := fun (a191 : (List Str)) => [some (.d (.scr p_script)), some (.c (rowD a95.2)), some (.d (.int x2)), some (.d (.lst ((a66.1).map (eT3 D.str D.int D.int)))), some (.d (.int a71.1)), some (.d ((eG (eT3 D.str D.int D.int)) a72.1)), some (.d (.lst ((a93).map D.int))), some (.d (.int x96)), some (.d (.tup ((a179).map D.str))), some (.d (.lst ((((a66.1).map fun x181 => x181.1)).map D.str))), j98.2.2.1.1, none, none]) (ef_bi (ak_consP (x := (.n (.lst ((a179).map D.str)))) (pv_bi1 (b := .list) (x := (.d (.tup ((a179).map D.str)))) (d := (.tup ((a179).map D.str))) (r := (.n (.lst ((a179).map D.str)))) (pv_var (i := 8) rfl) rfl rfl) (ak_nil (nary_end (ds := [(.lst ((a179).map D.str))]) rfl os_sortS)))) fun a191 => (ak_nil (nary_ok (ds := [(.lst ((a179).map D.str)), (.lst ((a191).map D.str))]) (r := (.d (.bl (!(a179 == a191))))) (w := fun (p : Bool) => (.d (.bl p))) (sr := fun (p : Bool) => [some (.d (.scr p_script)), some (.c (rowD a95.2)), some (.d (.int x2)), some (.d (.lst ((a66.1).map (eT3 D.str D.int D.int)))), some (.d (.int a71.1)), some (.d ((eG (eT3 D.str D.int D.int)) a72.1)), some (.d (.lst ((a93).map D.int))), some (.d (.int x96)), some (.d (.tup ((a179).map D.str))), some (.d (.lst ((((a66.1).map fun x181 => x181.1)).map D.str))), j98.2.2.1.1, none, none]) rfl (op_neT (eqe_L eqe_str) rfl) rfl rfl))))) (fun _ => rfl) (fun _ => rfl))) (fun a192 => ?_) (fun a192 => ?_)
          · refine qq_retP (x := (.d (.bl false))) (by exact (pv_k _)) ?_
            exact ⟨⟨_, _, rfl⟩, rfl⟩
          · refine qq_skip ?_
            change QK _ _ _ _ _ _
            refine qq_set (ve := fun (a208 : Int) => (.d (.int a208))) (se := fun (a208 : Int) => [some (.d (.scr p_script)), some (.c (rowD a95.2)), some (.d (.int x2)), some (.d (.lst ((a66.1).map (eT3 D.str D.int D.int)))), some (.d (.int a71.1)), some (.d ((eG (eT3 D.str D.int D.int)) a72.1)), some (.d (.lst ((a93).map D.int))), some (.d (.int x96)), some (.d (.tup ((a179).map D.str))), some (.d (.lst ((((a66.1).map fun x181 => x181.1)).map D.str))), j98.2.2.1.1, none, none]) (y := fun (a208 : Int) => (.int a208)) (s2 := fun (a208 : Int) => [some (.d (.scr p_script)), some (.c (rowD a95.2)), some (.d (.int x2)), some (.d (.lst ((a66.1).map (eT3 D.str D.int D.int)))), some (.d (.int a71.1)), some (.d ((eG (eT3 D.str D.int D.int)) a72.1)), some (.d (.lst ((a93).map D.int))), some (.d (.int x96)), some (.d (.tup ((a179).map D.str))), some (.d (.lst ((((a66.1).map fun x181 => x181.1)).map D.str))), some (.d (.int a208)), none, none]) (by exact (ef_idx (ak_cons (ve := fun (a207 : (List Int)) => (.n (.lst ((a207).map D.int)))) (se := fun (a207 : (List Int)) => [some (.d (.scr p_script)), some (.c (rowD a95.2)), some (.d (.int x2)), some (.d (.lst ((a66.1).map (eT3 D.str D.int D.int)))), some (.d (.int a71.1)), some (.d ((eG (eT3 D.str D.int D.int)) a72.1)), some (.d (.lst ((a93).map D.int))), some (.d (.int x96)), some (.d (.tup ((a179).map D.str))), some (.d (.lst ((((a66.1).map fun x181 => x181.1)).map D.str))), j98.2.2.1.1, none, none]) (ef_lcQ (si := fun (a200 : List Int) => [some (.d (.scr p_script)), some (.c (rowD a95.2)), some (.d (.int x2)), some (.d (.lst ((a66.1).map (eT3 D.str D.int D.int)))), some (.d (.int a71.1)), some (.d ((eG (eT3 D.str D.int D.int)) a72.1)), some (.d (.lst ((a93).map D.int))), some (.d (.int x96)), some (.d (.tup ((a179).map D.str))), some (.d (.lst ((((a66.1).map fun x181 => x181.1)).map D.str))), j98.2.2.1.1, none, none]) (xs := fun (a200 : List Int) => a200) (en := D.int) (g := fun (a200 : List Int) => []) (er := D.int) (sw := fun (a200 : List Int) => [some (.d (.scr p_script)), some (.c (rowD a95.2)), some (.d (.int x2)), some (.d (.lst ((a66.1).map (eT3 D.str D.int D.int)))), some (.d (.int a71.1)), some (.d ((eG (eT3 D.str D.int D.int)) a72.1)), some (.d (.lst ((a93).map D.int))), some (.d (.int x96)), some (.d (.tup ((a179).map D.str))), some (.d (.lst ((((a66.1).map fun x181 => x181.1)).map D.str))), j98.2.2.1.1, none, none]) (s2 := fun (a200 : List Int) => [some (.d (.scr p_script)), some (.c (rowD a95.2)), some (.d (.int x2)), some (.d (.lst ((a66.1).map (eT3 D.str D.int D.int)))), some (.d (.int a71.1)), some (.d ((eG (eT3 D.str D.int D.int)) a72.1)), some (.d (.lst ((a93).map D.int))), some (.d (.int x96)), some (.d (.tup ((a179).map D.str))), some (.d (.lst ((((a66.1).map fun x181 => x181.1)).map D.str))), j98.2.2.1.1, none, none]) (k := fun (a200 : List Int) (ys : (List Int)) => ys) (w := (fun (q : (List Int)) => (.n (.lst ((q).map D.int))))) (sr := (fun (q : (List Int)) => [some (.d (.scr p_script)), some (.c (rowD a95.2)), some (.d (.int x2)), some (.d (.lst ((a66.1).map (eT3 D.str D.int D.int)))), some (.d (.int a71.1)), some (.d ((eG (eT3 D.str D.int D.int)) a72.1)), some (.d (.lst ((a93).map D.int))), some (.d (.int x96)), some (.d (.tup ((a179).map D.str))), some (.d (.lst ((((a66.1).map fun x181 => x181.1)).map D.str))), j98.2.2.1.1, none, none])) (if_rng (pv_k _) (pv_op2 (x := (.d (.int x96))) (d := (.int x96)) (y := (.d (.int (1 : Int)))) (e := (.int (1 : Int))) (r := (.d (.int (x96 + (1 : Int))))) (pv_var (i := 7) rfl) (pv_k _) rfl rfl rfl)) rfl (fun a200 => rfl) (fun a200 => chk_nil) (fun a200 x201 => ⟨[some (.d (.scr p_script)), some (.c (rowD a95.2)), some (.d (.int x2)), some (.d (.lst ((a66.1).map (eT3 D.str D.int D.int)))), some (.d (.int a71.1)), some (.d ((eG (eT3 D.str D.int D.int)) a72.1)), some (.d (.lst ((a93).map D.int))), some (.d (.int x96)), some (.d (.tup ((a179).map D.str))), some (.d (.lst ((((a66.1).map fun x181 => x181.1)).map D.str))), j98.2.2.1.1, none, some (.d (.int x201))], (bt_n rfl), (fun (c : Option Int) => [some (.d (.scr p_script)), some (.c (rowD a95.2)), some (.d (.int x2)), some (.d (.lst ((a66.1).map (eT3 D.str D.int D.int)))), some (.d (.int a71.1)), some (.d ((eG (eT3 D.str D.int D.int)) a72.1)), some (.d (.lst ((a93).map D.int))), some (.d (.int x96)), some (.d (.tup ((a179).map D.str))), some (.d (.lst ((((a66.1).map fun x181 => x181.1)).map D.str))), j98.2.2.1.1, none, some (.d (.int x201))]), (turn_ifE (vc := fun (y205 : Bool) => y205) (sc := fun (y205 : Bool) => [some (.d (.scr p_script)), some (.c (rowD a95.2)), some (.d (.int x2)), some (.d (.lst ((a66.1).map (eT3 D.str D.int D.int)))), some (.d (.int a71.1)), some (.d ((eG (eT3 D.str D.int D.int)) a72.1)), some (.d (.lst ((a93).map D.int))), some (.d (.int x96)), some (.d (.tup ((a179).map D.str))), some (.d (.lst ((((a66.1).map fun x181 => x181.1)).map D.str))), j98.2.2.1.1, none, some (.d (.int x201))]) (k := fun y205 a206 => (some x201)) (z := fun y205 => none) (o := (fun (c : Option Int) => c)) (er := D.int) (sr := (fun (c : Option Int) => [some (.d (.scr p_script)), some (.c (rowD a95.2)), some (.d (.int x2)), some (.d (.lst ((a66.1).map (eT3 D.str D.int D.int)))), some (.d (.int a71.1)), some (.d ((eG (eT3 D.str D.int D.int)) a72.1)), some (.d (.lst ((a93).map D.int))), some (.d (.int x96)), some (.d (.tup ((a179).map D.str))), some (.d (.lst ((((a66.1).map fun x181 => x181.1)).map D.str))), j98.2.2.1.1, none, some (.d (.int x201))])) (y := fun y205 a206 => x201) rfl (tf_v (w := fun (p : Bool) => (.d (.bl p))) (sr := fun (p : Bool) => [some (.d (.scr p_script)), some (.c (rowD a95.2)), some (.d (.int x2)), some (.d (.lst ((a66.1).map (eT3 D.str D.int D.int)))), some (.d (.int a71.1)), some (.d ((eG (eT3 D.str D.int D.int)) a72.1)), some (.d (.lst ((a93).map D.int))), some (.d (.int x96)), some (.d (.tup ((a179).map D.str))), some (.d (.lst ((((a66.1).map fun x181 => x181.1)).map D.str))), j98.2.2.1.1, none, some (.d (.int x201))]) (b := fun (p : Bool) => p) (d := fun (p : Bool) => (.bl p)) (fun _ => rfl) (ef_op2 (ak_cons (ve := fun (a203 : Int) => (.d (.int a203))) (se := fun (a203 : Int) => [some (.d (.scr p_script)), some (.c (rowD a95.2)), some (.d (.int x2)), some (.d (.lst ((a66.1).map (eT3 D.str D.int D.int)))), some (.d (.int a71.1)), some (.d ((eG (eT3 D.str D.int D.int)) a72.1)), some (.d (.lst ((a93).map D.int))), some (.d (.int x96)), some (.d (.tup ((a179).map D.str))), some (.d (.lst ((((a66.1).map fun x181 => x181.1)).map D.str))), j98.2.2.1.1, none, some (.d (.int x201))]) (ef_idx (ak_consP (x := (.d (.lst ((a93).map D.int)))) (pv_var (i := 6) rfl) (ak_consP (x := (.d (.int x201))) (pv_var (i := 12) rfl) (ak_nil (nary_end (ds := [(.lst ((a93).map D.int)), (.int x201)]) rfl (os_at (e := D.int))))))) fun a203 => (ak_cons (ve := fun (a204 : Int) => (.d (.int a204))) (se := fun (a204 : Int) => [some (.d (.scr p_script)), some (.c (rowD a95.2)), some (.d (.int x2)), some (.d (.lst ((a66.1).map (eT3 D.str D.int D.int)))), some (.d (.int a71.1)), some (.d ((eG (eT3 D.str D.int D.int)) a72.1)), some (.d (.lst ((a93).map D.int))), some (.d (.int x96)), some (.d (.tup ((a179).map D.str))), some (.d (.lst ((((a66.1).map fun x181 => x181.1)).map D.str))), j98.2.2.1.1, none, some (.d (.int x201))]) (ef_idx (ak_consP (x := (.d (.lst ((a93).map D.int)))) (pv_var (i := 6) rfl) (ak_consP (x := (.d (.int x96))) (pv_var (i := 7) rfl) (ak_nil (nary_end (ds := [(.lst ((a93).map D.int)), (.int x96)]) rfl (os_at (e := D.int))))))) fun a204 => (ak_nil (nary_ok (ds := [(.int a203), (.int a204)]) (r := (.d (.bl (a203 == a204)))) (w := fun (p : Bool) => (.d (.bl p))) (sr := fun (p : Bool) => [some (.d (.scr p_script)), some (.c (rowD a95.2)), some (.d (.int x2)), some (.d (.lst ((a66.1).map (eT3 D.str D.int D.int)))), some (.d (.int a71.1)), some (.d ((eG (eT3 D.str D.int D.int)) a72.1)), some (.d (.lst ((a93).map D.int))), some (.d (.int x96)), some (.d (.tup ((a179).map D.str))), some (.d (.lst ((((a66.1).map fun x181 => x181.1)).map D.str))), j98.2.2.1.1, none, some (.d (.int x201))]) rfl rfl rfl rfl))))) (fun _ => rfl) (fun _ => rfl)) (fun y205 => (pv_var (i := 12) rfl).ef) (fun _ _ => rfl) (fun _ _ => rfl) (fun _ => rfl) (fun _ => rfl)), fun _ => rfl⟩) (fun a200 => rfl) (fun _ _ => rfl) (fun _ _ => rfl)) fun a207 => (ak_consP (x := (.d (.int (0 : Int)))) (pv_k _) (ak_nil (nary_end (ds := [(.lst ((a207).map D.int)), (.int (0 : Int))]) rfl (os_at (e := D.int)))))))) (fun _ => rfl) (fun a208 => (by exact (psetJ (o := j98.2.2.1.1) rfl j98.2.2.1.2 rfl))) (fun a208 => ?_)
            refine qq_ite (vc := fun (a224 : Bool) => a224) (sc := fun (a224 : Bool) => [some (.d (.scr p_script)), some (.c (rowD a95.2)), some (.d (.int x2)), some (.d (.lst ((a66.1).map (eT3 D.str D.int D.int)))), some (.d (.int a71.1)), some (.d ((eG (eT3 D.str D.int D.int)) a72.1)), some (.d (.lst ((a93).map D.int))), some (.d (.int x96)), some (.d (.tup ((a179).map D.str))), some (.d (.lst ((((a66.1).map fun x181 => x181.1)).map D.str))), some (.d (.int a208)), none, none]) (by exact (tf_or (va := fun (x223 : Bool) => x223) (sa := fun (x223 : Bool) => [some (.d (.scr p_script)), some (.c (rowD a95.2)), some (.d (.int x2)), some (.d (.lst ((a66.1).map (eT3 D.str D.int D.int)))), some (.d (.int a71.1)), some (.d ((eG (eT3 D.str D.int D.int)) a72.1)), some (.d (.lst ((a93).map D.int))), some (.d (.int x96)), some (.d (.tup ((a179).map D.str))), some (.d (.lst ((((a66.1).map fun x181 => x181.1)).map D.str))), some (.d (.int a208)), none, none]) (v := (fun (p : Bool) => p)) (sr := (fun (p : Bool) => [some (.d (.scr p_script)), some (.c (rowD a95.2)), some (.d (.int x2)), some (.d (.lst ((a66.1).map (eT3 D.str D.int D.int)))), some (.d (.int a71.1)), some (.d ((eG (eT3 D.str D.int D.int)) a72.1)), some (.d (.lst ((a93).map D.int))), some (.d (.int x96)), some (.d (.tup ((a179).map D.str))), some (.d (.lst ((((a66.1).map fun x181 => x181.1)).map D.str))), some (.d (.int a208)), none, none])) (z := fun x223 => true) (tf_v (w := fun (p : Bool) => (.d (.bl p))) (sr := fun (p : Bool) => [some (.d (.scr p_script)), some (.c (rowD a95.2)), some (.d (.int x2)), some (.d (.lst ((a66.1).map (eT3 D.str D.int D.int)))), some (.d (.int a71.1)), some (.d ((eG (eT3 D.str D.int D.int)) a72.1)), some (.d (.lst ((a93).map D.int))), some (.d (.int x96)), some (.d (.tup ((a179).map D.str))), some (.d (.lst ((((a66.1).map fun x181 => x181.1)).map D.str))), some (.d (.int a208)), none, none]) (b := fun (p : Bool) => p) (d := fun (p : Bool) => (.bl p)) (fun _ => rfl) (ef_op2 (ak_cons (ve := fun (a220 : (List Int)) => (.n (.lst ((a220).map D.int)))) (se := fun (a220 : (List Int)) => [some (.d (.scr p_script)), some (.c (rowD a95.2)), some (.d (.int x2)), some (.d (.lst ((a66.1).map (eT3 D.str D.int D.int)))), some (.d (.int a71.1)), some (.d ((eG (eT3 D.str D.int D.int)) a72.1)), some (.d (.lst ((a93).map D.int))), some (.d (.int x96)), some (.d (.tup ((a179).map D.str))), some (.d (.lst ((((a66.1).map fun x181 => x181.1)).map D.str))), some (.d (.int a208)), none, none]) (ef_call (ak_consP (x := (.d (.lst ((a66.1).map (eT3 D.str D.int D.int))))) (pv_var (i := 3) rfl) (ak_consP (x := (.d (.tup ((a179).map D.str)))) (pv_var (i := 8) rfl) (ak_nil (call_end (s := [some (.d (.scr p_script)), some (.c (rowD a95.2)), some (.d (.int x2)), some (.d (.lst ((a66.1).map (eT3 D.str D.int D.int)))), some (.d (.int a71.1)), some (.d ((eG (eT3 D.str D.int D.int)) a72.1)), some (.d (.lst ((a93).map D.int))), some (.d (.int x96)), some (.d (.tup ((a179).map D.str))), some (.d (.lst ((((a66.1).map fun x181 => x181.1)).map D.str))), some (.d (.int a208)), none, none]) (rs := [(.d (.lst ((a66.1).map (eT3 D.str D.int D.int)))), (.d (.tup ((a179).map D.str)))]) (args := [.d (.lst ((a66.1).map (eT3 D.str D.int D.int))), .d (.tup ((a179).map D.str))]) (fin := fun (z : (List Int)) => [.d (.lst ((a66.1).map (eT3 D.str D.int D.int))), .d (.tup ((a179).map D.str))]) (sr := fun _ => [some (.d (.scr p_script)), some (.c (rowD a95.2)), some (.d (.int x2)), some (.d (.lst ((a66.1).map (eT3 D.str D.int D.int)))), some (.d (.int a71.1)), some (.d ((eG (eT3 D.str D.int D.int)) a72.1)), some (.d (.lst ((a93).map D.int))), some (.d (.int x96)), some (.d (.tup ((a179).map D.str))), some (.d (.lst ((((a66.1).map fun x181 => x181.1)).map D.str))), some (.d (.int a208)), none, none]) rfl List.nodup_nil (by exact (q_law_sums (n + 7) (a66.1) (a179))) (fun _ => rfl)))))) fun a220 => (ak_cons (ve := fun (a222 : (List Int)) => (.n (.lst ((a222).map D.int)))) (se := fun (a222 : (List Int)) => [some (.d (.scr p_script)), some (.c (rowD a95.2)), some (.d (.int x2)), some (.d (.lst ((a66.1).map (eT3 D.str D.int D.int)))), some (.d (.int a71.1)), some (.d ((eG (eT3 D.str D.int D.int)) a72.1)), some (.d (.lst ((a93).map D.int))), some (.d (.int x96)), some (.d (.tup ((a179).map D.str))), some (.d (.lst ((((a66.1).map fun x181 => x181.1)).map D.str))), some (.d (.int a208)), none, none]) (ef_lst (ak_consP (x := (.d (.int a208))) (pv_var (i := 10) rfl) (ak_cons (ve := fun (a221 : Int) => (.d (.int a221))) (se := fun (a221 : Int) => [some (.d (.scr p_script)), some (.c (rowD a95.2)), some (.d (.int x2)), some (.d (.lst ((a66.1).map (eT3 D.str D.int D.int)))), some (.d (.int a71.1)), some (.d ((eG (eT3 D.str D.int D.int)) a72.1)), some (.d (.lst ((a93).map D.int))), some (.d (.int x96)), some (.d (.tup ((a179).map D.str))), some (.d (.lst ((((a66.1).map fun x181 => x181.1)).map D.str))), some (.d (.int a208)), none, none]) (ef_idx (ak_consP (x := (.d (.lst ((a93).map D.int)))) (pv_var (i := 6) rfl) (ak_consP (x := (.d (.int x96))) (pv_var (i := 7) rfl) (ak_nil (nary_end (ds := [(.lst ((a93).map D.int)), (.int x96)]) rfl (os_at (e := D.int))))))) fun a221 => (ak_nil (lst_end (c := ([a208, a221] : (List Int))) (ds := [(.int a208), (.int a221)]) (s' := [some (.d (.scr p_script)), some (.c (rowD a95.2)), some (.d (.int x2)), some (.d (.lst ((a66.1).map (eT3 D.str D.int D.int)))), some (.d (.int a71.1)), some (.d ((eG (eT3 D.str D.int D.int)) a72.1)), some (.d (.lst ((a93).map D.int))), some (.d (.int x96)), some (.d (.tup ((a179).map D.str))), some (.d (.lst ((((a66.1).map fun x181 => x181.1)).map D.str))), some (.d (.int a208)), none, none]) (w := fun (p : (List Int)) => (.n (.lst ((p).map D.int)))) (sr := fun (p : (List Int)) => [some (.d (.scr p_script)), some (.c (rowD a95.2)), some (.d (.int x2)), some (.d (.lst ((a66.1).map (eT3 D.str D.int D.int)))), some (.d (.int a71.1)), some (.d ((eG (eT3 D.str D.int D.int)) a72.1)), some (.d (.lst ((a93).map D.int))), some (.d (.int x96)), some (.d (.tup ((a179).map D.str))), some (.d (.lst ((((a66.1).map fun x181 => x181.1)).map D.str))), some (.d (.int a208)), none, none]) rfl rfl rfl rfl))))) fun a222 => (ak_nil (nary_ok (ds := [(.lst ((a220).map D.int)), (.lst ((a222).map D.int))]) (r := (.d (.bl (!(a220 == a222))))) (w := fun (p : Bool) => (.d (.bl p))) (sr := fun (p : Bool) => [some (.d (.scr p_script)), some (.c (rowD a95.2)), some (.d (.int x2)), some (.d (.lst ((a66.1).map (eT3 D.str D.int D.int)))), some (.d (.int a71.1)), some (.d ((eG (eT3 D.str D.int D.int)) a72.1)), some (.d (.lst ((a93).map D.int))), some (.d (.int x96)), some (.d (.tup ((a179).map D.str))), some (.d (.lst ((((a66.1).map fun x181 => x181.1)).map D.str))), some (.d (.int a208)), none, none]) rfl (op_neT (eqe_L eqe_int) rfl) rfl rfl))))) (fun _ => rfl) (fun _ => rfl)) (fun x223 => (TV.to (a := (!((a72.1).2 == a66.1))) (w := (fun (p : Bool) => p)) (sr := (fun (p : Bool) => [some (.d (.scr p_script)), some (.c (rowD a95.2)), some (.d (.int x2)), some (.d (.lst ((a66.1).map (eT3 D.str D.int D.int)))), some (.d (.int a71.1)), some (.d ((eG (eT3 D.str D.int D.int)) a72.1)), some (.d (.lst ((a93).map D.int))), some (.d (.int x96)), some (.d (.tup ((a179).map D.str))), some (.d (.lst ((((a66.1).map fun x181 => x181.1)).map D.str))), some (.d (.int a208)), none, none])) (tv_v (d := (.bl (!((a72.1).2 == a66.1)))) (fun _ => rfl) (pv_op2 (x := (.n (.lst (((a72.1).2).map (eT3 D.str D.int D.int))))) (d := (.lst (((a72.1).2).map (eT3 D.str D.int D.int)))) (y := (.d (.lst ((a66.1).map (eT3 D.str D.int D.int))))) (e := (.lst ((a66.1).map (eT3 D.str D.int D.int)))) (r := (.d (.bl (!((a72.1).2 == a66.1))))) (pv_bi1 (b := .list) (x := (.d ((eG (eT3 D.str D.int D.int)) a72.1))) (d := ((eG (eT3 D.str D.int D.int)) a72.1)) (r := (.n (.lst (((a72.1).2).map (eT3 D.str D.int D.int))))) (pv_var (i := 5) rfl) rfl op_listG) (pv_var (i := 3) rfl) rfl rfl (op_neT (eqe_L (eqe_T3 (eqe_up (m := 0) eqe_str (by omega)) (eqe_up (m := 0) eqe_int (by omega)) (eqe_up (m := 0) eqe_int (by omega)))) rfl)) rfl rfl) rfl rfl)) (fun x223 => ⟨rfl, rfl⟩))) (fun a224 => ?_) (fun a224 => ?_)
            · refine qq_retP (x := (.d (.bl false))) (by exact (pv_k _)) ?_
              exact ⟨⟨_, _, rfl⟩, rfl⟩
            · refine qq_skip ?_
              change QK _ _ _ _ _ _
              refine qq_skip ?_
              exact ⟨(⟨some (.d (.tup ((a179).map D.str))), rfl⟩, ⟨some (.d (.lst ((((a66.1).map fun x181 => x181.1)).map D.str))), rfl⟩, ⟨some (.d (.int a208)), rfl⟩, ⟨some (.d (.int x96)), rfl⟩), .inl rfl⟩
    · refine qq_skip ?_
      exact ⟨(⟨some (.d (.lst ((a66.1).map (eT3 D.str D.int D.int)))), rfl⟩, ⟨some (.d (.int a71.1)), rfl⟩, ⟨some (.d ((eG (eT3 D.str D.int D.int)) a72.1)), rfl⟩, ⟨some (.d (.lst ((a93).map D.int))), rfl⟩, j98.2.2.2, j98.1, j98.2.1, j98.2.2.1, ⟨some (.d (.int x2)), rfl⟩), .inl rfl⟩
  · refine qq_retP (x := (.d (.bl true))) (by exact (pv_k _)) ?_
    exact rfl
end Pd
namespace Pd
open PySem PySem.Spec PyProof.Rows L2
/-! ### rewards: names, lists -/
def abc : Str := "abcdefghijklmnopqrstuvwxyz"
def isLow (c : Nat) : Bool := decide (97 ≤ c) && decide (c ≤ 122)
theorem low_in : ((List.range' 97 26).all fun c => inStr ⟨#[c]⟩ abc) = true := by decide +kernel
theorem low_abc {c : Nat} (h : isLow c = true) : inStr ⟨#[c]⟩ abc = true := by
  have h : (decide (97 ≤ c) && decide (c ≤ 122)) = true := h
  simp only [Bool.and_eq_true, decide_eq_true_eq] at h
  exact List.all_eq_true.mp low_in c (List.mem_range'_1.mpr ⟨h.1, by omega⟩)
def goodName (s : Str) : Bool := decide (1 ≤ s.length) && (decide (s.length ≤ 8) && s.cps.toList.all isLow)
theorem goodName_iff {s : Str} : goodName s = true ↔ 1 ≤ s.length ∧ s.length ≤ 8 ∧ ∀ c ∈ s.cps.toList, isLow c = true := by
  unfold goodName
  rw [Bool.and_eq_true, Bool.and_eq_true, decide_eq_true_eq, decide_eq_true_eq, List.all_eq_true]
abbrev Rwd : Type := Str × Int × Int
structure GoodR (r : Rwd) : Prop where
  nm : goodName r.1 = true
  p1 : 1 ≤ r.2.1
  p2 : r.2.1 ≤ 200
  d1 : 0 ≤ r.2.2
  d2 : r.2.2 ≤ 10000
structure GoodRs (rs : List Rwd) : Prop where
  l1 : 1 ≤ rs.length
  l2 : rs.length ≤ 12
  all : ∀ r ∈ rs, GoodR r
  nd : (rs.map (·.1)).Nodup
/-! draws -/
theorem tk {t : St} {many : Int} (h : 0 < many) (h2 : many ≤ 1000000) : (m_taken t many).Sat fun p => 0 ≤ p.1 ∧ p.1 < many := by
  obtain ⟨v, t', e, a, b⟩ := taken_ok t h h2
  exact ⟨(v, t'), e, a, b⟩
theorem at_mem {α : Type} {xs : List α} {i : Int} (h : 0 ≤ i) (h2 : i < xs.length) : (X.at xs i).Sat fun a => a ∈ xs := by
  have : i.toNat < xs.length := by omega
  exact ⟨xs[i.toNat], at_some h (List.getElem?_eq_getElem this), List.getElem_mem this⟩
theorem pick_ok {t : St} {xs : List Int} (h : 0 < xs.length) (h2 : xs.length ≤ 1000) : (m_law_pick t xs).Sat fun p => p.1 ∈ xs := by
  unfold m_law_pick
  refine X.Sat.bind (P := fun p => p.1 ∈ xs) ((tk (by omega) (by omega)).bind fun p hp => (at_mem hp.1 hp.2).bind fun z hz => sat_ok hz) fun p hp => sat_ok hp
theorem join_nil_app : ∀ ys : List Str, (Str.join "" ys).cps.toList = (ys.map fun y => y.cps.toList).flatten
  | [] => rfl
  | [y] => by
    show y.cps.toList = _
    simp
  | x :: y :: r => by
    have ih := join_nil_app (y :: r)
    have e : Str.join "" (x :: y :: r) = x ++ "" ++ Str.join "" (y :: r) := rfl
    rw [e]
    show ((x.cps ++ ("" : Str).cps) ++ (Str.join "" (y :: r)).cps).toList = _
    rw [Array.toList_append, Array.toList_append, ih, List.map_cons, List.flatten_cons]
    have e0 : ("" : Str).cps.toList = [] := by decide
    rw [e0, List.append_nil]
    rfl
theorem abc_low : ∀ c ∈ (("abcdefghijklmnopqrstuvwxyz" : Str)).cps.toList, isLow c = true := by
  have : ((("abcdefghijklmnopqrstuvwxyz" : Str)).cps.toList.all isLow) = true := by decide +kernel
  exact List.all_eq_true.mp this
theorem str_len (s : Str) : s.length = s.cps.toList.length := by
  show s.cps.size = _
  simp
theorem join_one : ∀ (ys : List Str), (∀ y ∈ ys, ∃ c, y = chS c ∧ isLow c = true) → (ys.map (·.length)).sum = ys.length ∧ ((ys.map fun y => y.cps.toList).flatten).length = ys.length ∧ ∀ c ∈ (ys.map fun y => y.cps.toList).flatten, isLow c = true
  | [], _ => ⟨rfl, rfl, fun c h => by simp at h⟩
  | y :: ys, h => by
    obtain ⟨c, e, hc⟩ := h y List.mem_cons_self
    obtain ⟨h1, h2, h3⟩ := join_one ys fun z hz => h z (List.mem_cons_of_mem _ hz)
    subst e
    have l1 : (chS c).length = 1 := rfl
    have l2 : (chS c).cps.toList = [c] := rfl
    refine ⟨?_, ?_, ?_⟩
    · rw [List.map_cons, List.sum_cons, h1, l1, List.length_cons]; omega
    · rw [List.map_cons, List.flatten_cons, l2, List.length_append, h2, List.length_cons]; simp; omega
    · intro d hd
      rw [List.map_cons, List.flatten_cons, l2] at hd
      rcases List.mem_append.mp hd with hd | hd
      · simp at hd; rw [hd]; exact hc
      · exact h3 d hd
theorem name_ok (t : St) : (m_law_name t).Sat fun p => goodName p.1 = true := by
  unfold m_law_name
  refine X.Sat.bind (P := fun p => 1 ≤ p.1 ∧ p.1 ≤ 8) ((tk (by omega) (by omega)).bind fun p hp => (at_mem hp.1 (by simpa using hp.2)).bind fun z hz => sat_ok ?_) fun p hp => ?_
  · simp at hz
    show 1 ≤ z ∧ z ≤ 8
    omega
  · refine X.Sat.bind (P := fun q => goodName q.1 = true) ?_ fun q hq => sat_ok hq
    rw [rng_ok (by omega) (by omega) (by omega) (by omega)]
    have z := sat_mapS (fun _ : St => True) (fun y => ∃ c, y = chS c ∧ isLow c = true) (xs := rangeI 0 p.1) (st := p.2) (f := fun x16 r17 => ((m_taken r17 (26 : Int)).bind fun a19 => (X.at (("abcdefghijklmnopqrstuvwxyz" : Str)).cps.toList a19.1).bind fun z => X.ok ((chS z), a19.2)).bind fun a20 => X.ok (some a20.1, a20.2)) trivial (fun x _ s _ => by
      refine X.Sat.bind (P := fun q => ∃ c, q.1 = chS c ∧ isLow c = true) ((tk (by omega) (by omega)).bind fun v hv => (at_mem hv.1 (by exact hv.2)).bind fun c hc => sat_ok ⟨c, rfl, abc_low c hc⟩) fun q hq => sat_ok ⟨q.1, rfl, hq, trivial⟩)
    refine X.Sat.bind (P := fun q => q.1.length = (rangeI 0 p.1).length ∧ ∀ y ∈ q.1, ∃ c, y = chS c ∧ isLow c = true) (z.bind fun q hq => sat_ok ⟨hq.1, hq.2.1⟩) fun q hq => ?_
    obtain ⟨h1, h2⟩ := hq
    obtain ⟨j1, j2, j3⟩ := join_one q.1 h2
    rw [rangeI_len] at h1
    have hl : (("" : Str)).length = 0 := rfl
    rw [join_ok (by rw [j1, hl]; omega)]
    refine sat_ok (goodName_iff.mpr ?_)
    show 1 ≤ (Str.join "" q.1).length ∧ (Str.join "" q.1).length ≤ 8 ∧ ∀ c ∈ (Str.join "" q.1).cps.toList, isLow c = true
    rw [str_len, join_nil_app, j2]
    exact ⟨by omega, by omega, j3⟩
theorem pigeon : ∀ (L done : List Str), L.Nodup → done.length < L.length → ∃ x ∈ L, x ∉ done
  | [], done, _, h => by simp at h
  | y :: L, done, nd, h => by
    obtain ⟨n1, n2⟩ := List.nodup_cons.mp nd
    by_cases hy : y ∈ done
    · have hl := List.length_erase_of_mem hy
      have hp : 0 < done.length := List.length_pos_of_mem hy
      obtain ⟨x, hx, hn⟩ := pigeon L (done.erase y) n2 (by rw [hl]; simp only [List.length_cons] at h; omega)
      refine ⟨x, List.mem_cons_of_mem _ hx, fun hd => hn ?_⟩
      have hne : x ≠ y := fun e => n1 (e ▸ hx)
      exact (List.mem_erase_of_ne hne).mpr hd
    · exact ⟨y, List.mem_cons_self, hy⟩
theorem str_not_in {x : Str} {xs : List Str} (h : x ∉ xs) : xs.any (· == x) = false := by
  rw [List.any_eq_false]
  intro y hy e
  have e : y = x := by simpa using e
  exact h (e ▸ hy)
theorem str_in {x : Str} {xs : List Str} (h : x ∈ xs) : xs.any (· == x) = true := List.any_eq_true.mpr ⟨x, h, beq_self_eq_true x⟩
def letters : List Str := (("abcdefghijklmnopqrstuvwxyz" : Str)).cps.toList.map chS
theorem letters_nd : letters.Nodup := by decide +kernel
theorem letters_len : letters.length = 26 := by decide +kernel
theorem letters_good : letters.all goodName = true := by decide +kernel
theorem free_letter {done : List Str} (h : done.length < 26) : (X.at (((("abcdefghijklmnopqrstuvwxyz" : Str)).cps.toList.filter fun x => !done.any (· == chS x)).map fun x => chS x) (0 : Int)).Sat fun s => s ∉ done ∧ goodName s = true := by
  obtain ⟨x, hx, hn⟩ := pigeon letters done letters_nd (by rw [letters_len]; exact h)
  obtain ⟨c, hc, ec⟩ := List.mem_map.mp hx
  have hm : c ∈ (("abcdefghijklmnopqrstuvwxyz" : Str)).cps.toList.filter fun x => !done.any (· == chS x) := List.mem_filter.mpr ⟨hc, by rw [ec, str_not_in hn]; rfl⟩
  have hl : 0 < ((("abcdefghijklmnopqrstuvwxyz" : Str)).cps.toList.filter fun x => !done.any (· == chS x)).length := List.length_pos_of_mem hm
  refine (at_mem (by omega) (by rw [List.length_map]; omega)).mono fun s hs => ?_
  obtain ⟨d, hd, ed⟩ := List.mem_map.mp hs
  obtain ⟨h1, h2⟩ := List.mem_filter.mp hd
  subst ed
  refine ⟨fun hin => ?_, List.all_eq_true.mp letters_good _ (List.mem_map.mpr ⟨d, h1, rfl⟩)⟩
  rw [str_in hin] at h2
  cases h2
theorem names_ok (t : St) (n : Nat) (hn : n ≤ 12) : (m_law_names t (n : Int)).Sat fun p => p.1.length = n ∧ p.1.Nodup ∧ ∀ s ∈ p.1, goodName s = true := by
  unfold m_law_names
  rw [rng_ok (by omega) (by omega) (by omega) (by omega)]
  have z := sat_foldP (fun (d : List Int) (q : List Str × St) => q.1.length = d.length ∧ q.1.Nodup ∧ ∀ s ∈ q.1, goodName s = true) (xs := rangeI 0 (n : Int)) (done := []) (st := (([] : List Str), t)) (f := fun (x10 : Int) (q11 : (List Str) × St) => (m_law_name (q11.2)).bind fun a23 => ((if ((q11.1).any (· == a23.1)) = true then (X.at ((((("abcdefghijklmnopqrstuvwxyz" : Str)).cps.toList).filter fun x41 => (!(q11.1).any (· == (chS x41)))).map fun x41 => (chS x41)) (0 : Int)).bind fun a44 => X.ok a44 else X.ok a23.1 : X (Str))).bind fun q34 => (X.push q11.1 q34).bind fun a45 => X.ok (a45, a23.2)) ⟨rfl, List.nodup_nil, fun s h => by cases h⟩ (fun d x r q hd hq => by
    obtain ⟨h1, h2, h3⟩ := hq
    have hl : d.length < n := by
      have := congrArg List.length hd
      rw [List.nil_append, rangeI_len, List.length_append, List.length_cons] at this
      omega
    refine (name_ok q.2).bind fun a ha => ?_
    refine X.Sat.bind (P := fun s => s ∉ q.1 ∧ goodName s = true) ?_ fun s hs => ?_
    · by_cases hc : (q.1.any (· == a.1)) = true
      · rw [if_pos hc]
        exact (free_letter (by omega)).bind fun s hs => sat_ok hs
      · rw [if_neg hc]
        refine sat_ok ⟨fun hin => hc (str_in hin), ha⟩
    · rw [push_ok (by omega)]
      refine sat_ok ⟨by simp [h1], ?_, fun s2 h => ?_⟩
      · rw [List.nodup_append]
        refine ⟨h2, by simp, fun a ha b hb e => ?_⟩
        have hb : b = s := by simpa using hb
        subst hb
        subst e
        exact hs.1 ha
      · rcases List.mem_append.mp h with h | h
        · exact h3 s2 h
        · have h : s2 = s := by simpa using h
          rw [h]
          exact hs.2)
  refine z.bind fun q hq => sat_ok ?_
  rw [List.nil_append, rangeI_len] at hq
  exact ⟨by have := hq.1; show q.1.length = n; omega, hq.2⟩
theorem list_ok (t : St) : (m_law_list t).Sat fun p => GoodRs p.1 := by
  unfold m_law_list
  refine X.Sat.bind (P := fun _ => True) ((tk (by omega) (by omega)).bind fun p hp => sat_ok trivial) fun w _ => ?_
  refine X.Sat.bind (P := fun p => p.1.length ≤ 12 ∧ 1 ≤ p.1.length ∧ p.1.Nodup ∧ ∀ s ∈ p.1, goodName s = true) ?_ fun p hp => ?_
  · refine X.Sat.bind (P := fun q => ∃ n : Nat, q.1 = (n : Int) ∧ 1 ≤ n ∧ n ≤ 12) ?_ fun q hq => ?_
    · by_cases hw : w.1 = true
      · rw [if_pos hw]
        exact sat_ok ⟨12, rfl, by omega, by omega⟩
      · rw [if_neg hw]
        refine (tk (by omega) (by omega)).bind fun v hv => sat_ok ⟨(1 + v.1).toNat, ?_, ?_, ?_⟩
        · show 1 + v.1 = ((1 + v.1).toNat : Int)
          omega
        · omega
        · omega
    · obtain ⟨n, e, h1, h2⟩ := hq
      rw [e]
      exact (names_ok q.2 n h2).mono fun p hp => ⟨by omega, by omega, hp.2⟩
  · obtain ⟨h1, h2, h3, h4⟩ := hp
    have z := sat_foldP (fun (d : List Str) (q : List Rwd × St) => q.1.map (·.1) = d ∧ ∀ r ∈ q.1, GoodR r) (xs := p.1) (done := []) (st := (([] : List Rwd), p.2)) (f := fun (x47 : Str) (q48 : ((List (Str × Int × Int)) × St)) => (((((m_taken q48.2 (6 : Int)).bind fun a52 => X.ok (((1 : Int) + a52.1), a52.2)).bind fun a53 => ((m_taken a53.2 (20 : Int)).bind fun a54 => X.ok (((1 : Int) + a54.1), a54.2)).bind fun a55 => X.ok (([a53.1, a55.1, (if w.1 = true then (200 : Int) else (7 : Int))], a55.2) : (List Int) × St)).bind fun a56 => m_law_pick (a56.2) (a56.1)).bind fun a59 => (((m_taken a59.2 (12 : Int)).bind fun a60 => (m_taken a60.2 (100 : Int)).bind fun a61 => (X.mul a59.1 (5 : Int)).bind fun a62 => X.ok (([a60.1, a61.1, a62, (if w.1 = true then (10000 : Int) else (0 : Int))], a61.2) : (List Int) × St)).bind fun a63 => m_law_pick (a63.2) (a63.1)).bind fun a64 => (X.push q48.1 (x47, a59.1, a64.1)).bind fun a65 => X.ok (a65, a64.2) : X ((List (Str × Int × Int)) × St))) ⟨rfl, fun r h => by cases h⟩ (fun d x r q hd hq => by
      obtain ⟨g1, g2⟩ := hq
      have hl : d.length < 12 := by
        have := congrArg List.length hd
        rw [List.nil_append, List.length_append, List.length_cons] at this
        omega
      have hx : x ∈ p.1 := by
        rw [List.nil_append] at hd
        rw [hd]
        exact List.mem_append_right _ List.mem_cons_self
      refine X.Sat.bind (P := fun v => 1 ≤ v.1 ∧ v.1 ≤ 200) ?_ fun v hv => ?_
      · refine X.Sat.bind (P := fun v => v.1.length = 3 ∧ ∀ i ∈ v.1, 1 ≤ i ∧ i ≤ 200) ?_ fun v hv => (pick_ok (by omega) (by omega)).mono fun w hw => hv.2 _ hw
        refine X.Sat.bind (P := fun a => 1 ≤ a.1 ∧ a.1 ≤ 200) ((tk (by omega) (by omega)).bind fun a ha => sat_ok (by show 1 ≤ 1 + a.1 ∧ 1 + a.1 ≤ 200; omega)) fun a ha => ?_
        refine X.Sat.bind (P := fun a => 1 ≤ a.1 ∧ a.1 ≤ 200) ((tk (by omega) (by omega)).bind fun a ha => sat_ok (by show 1 ≤ 1 + a.1 ∧ 1 + a.1 ≤ 200; omega)) fun b hb => sat_ok ⟨rfl, fun i hi => ?_⟩
        simp only [List.mem_cons, List.not_mem_nil, or_false] at hi
        rcases hi with hi | hi | hi
        · rw [hi]; exact ha
        · rw [hi]; exact hb
        · rw [hi]; split <;> omega
      · refine X.Sat.bind (P := fun v => 0 ≤ v.1 ∧ v.1 ≤ 10000) ?_ fun u hu => ?_
        · refine X.Sat.bind (P := fun v => v.1.length = 4 ∧ ∀ i ∈ v.1, 0 ≤ i ∧ i ≤ 10000) ?_ fun v hv => (pick_ok (by omega) (by omega)).mono fun w hw => hv.2 _ hw
          refine (tk (by omega) (by omega)).bind fun a ha => (tk (by omega) (by omega)).bind fun b hb => ?_
          rw [mul_ok (Nat.lt_trans (show v.1.natAbs < 2 ^ 8 by omega) (by decide)) (by decide)]
          refine sat_ok ⟨rfl, fun i hi => ?_⟩
          simp only [List.mem_cons, List.not_mem_nil, or_false] at hi
          rcases hi with hi | hi | hi | hi
          · rw [hi]; omega
          · rw [hi]; omega
          · rw [hi]; omega
          · rw [hi]; split <;> omega
        · have hl2 : q.1.length < 12 := by rw [← g1, List.length_map] at hl; exact hl
          rw [push_ok (by omega)]
          refine sat_ok ⟨by simp [g1], fun r hr => ?_⟩
          rcases List.mem_append.mp hr with hr | hr
          · exact g2 r hr
          · have hr : r = (x, v.1, u.1) := by simpa using hr
            subst hr
            exact ⟨h4 x hx, hv.1, hv.2, hu.1, hu.2⟩)
    refine z.bind fun q hq => sat_ok ?_
    rw [List.nil_append] at hq
    have e : q.1.length = p.1.length := by rw [← hq.1, List.length_map]
    exact ⟨by rw [e]; exact h2, by rw [e]; exact h1, hq.2, by rw [hq.1]; exact h3⟩
/-! checks -/
theorem within_ok (i a b : Int) : m_is_within i a b = .ok (decide (a ≤ i) && decide (i ≤ b)) := by
  simp only [m_is_within, m_is_integer, bind_ok_, Bool.not_false, Bool.and_self, if_true]
theorem name_is {s : Str} (h : goodName s = true) : m_is_name s = .ok true := by
  obtain ⟨h1, h2, h3⟩ := goodName_iff.mp h
  unfold m_is_name
  rw [if_neg (by simp; omega)]
  congr 1
  rw [List.all_eq_true]
  intro b hb
  obtain ⟨c, hc, e⟩ := List.mem_map.mp hb
  rw [← e]
  exact low_abc (h3 c hc)
theorem reward_is {r : Rwd} (h : GoodR r) : m_is_reward r = .ok true := by
  unfold m_is_reward m_is_tuple_of
  simp only [bind_ok_, name_is h.nm, within_ok, decide_eq_true h.p1, decide_eq_true h.p2, decide_eq_true h.d1, decide_eq_true h.d2, Bool.true_and, beq_self_eq_true, Bool.not_true, Bool.false_eq_true, if_false, if_true, Bool.and_self]
theorem checked_ok {rs : List Rwd} (h : GoodRs rs) (b : Bool) : m_checked_list (b, rs) = .ok rs := by
  unfold m_checked_list m_is_row
  have c1 : decide ((1 : Int) ≤ (rs.length : Int)) = true := decide_eq_true (by have := h.l1; omega)
  have c2 : decide ((rs.length : Int) ≤ 12) = true := decide_eq_true (by have := h.l2; omega)
  simp only [bind_ok_, c1, c2, Bool.not_true, Bool.and_self, Bool.false_eq_true, if_false]
  have key : ∀ (todo done : List Rwd) (k : Nat), (∀ r ∈ todo, GoodR r) → ((done ++ todo).map (·.1)).Nodup → (done ++ todo).length ≤ 12 → X.fold (enumI k todo) (done.map (·.1)) (fun (x464 : (Int × (Str × Int × Int))) (q465 : ((List Str))) => (((m_is_reward (x464.2)).bind fun x479 => if (!x479) = true then X.ok true else X.ok ((q465).any (· == x464.2.1))).bind fun a480 => if a480 = true then X.no else (X.push q465 x464.2.1).bind fun a481 => X.ok a481 : X ((List Str)))) = .ok ((done ++ todo).map (·.1)) := by
    intro todo
    induction todo with
    | nil => intro done k _ _ _; rw [List.append_nil]; rfl
    | cons r todo ih =>
      intro done k hg hn hl
      have ni : r.1 ∉ done.map (·.1) := by
        rw [List.map_append, List.map_cons, List.nodup_append] at hn
        exact fun h => hn.2.2 _ h _ List.mem_cons_self rfl
      have hl2 : (done.map (·.1)).length ≤ 1000000 := by rw [List.length_map]; rw [List.length_append] at hl; omega
      have ih := ih (done ++ [r]) (k + 1) (fun y hy => hg y (List.mem_cons_of_mem _ hy)) (by rw [List.append_assoc]; exact hn) (by rw [List.append_assoc]; exact hl)
      rw [List.append_assoc, List.singleton_append, List.map_append, List.map_cons, List.map_nil] at ih
      simp only [enumI, X.fold, reward_is (hg r List.mem_cons_self), bind_ok_, Bool.not_true, Bool.false_eq_true, if_false, str_not_in ni, push_ok hl2]
      exact ih
  have z := key rs [] 0 h.all h.nd h.l2
  rw [List.map_nil] at z
  rw [z]
  rfl
end Pd
namespace Pd
open PySem PySem.Spec PyProof.Rows L2
/-! ### the table of a list -/
def priced (rs : List Rwd) : Prop := ∀ r ∈ rs, 1 ≤ r.2.1 ∧ 0 ≤ r.2.2
theorem GoodRs.priced {rs : List Rwd} (h : GoodRs rs) : priced rs := fun r hr => ⟨(h.all r hr).p1, (h.all r hr).d1⟩
def lnext (rs : List Rwd) (l : List Int) (p : Nat) : Int := maxL (0 :: (rs.filter fun r => decide (r.2.1 ≤ (p : Int))).map fun r => l.getD ((p : Int) - r.2.1).toNat 0 + r.2.2)
def ltab (rs : List Rwd) : Nat → List Int
  | 0 => []
  | m + 1 => ltab rs m ++ [lnext rs (ltab rs m) m]
theorem ltab_len (rs : List Rwd) : ∀ m, (ltab rs m).length = m
  | 0 => rfl
  | m + 1 => by simp [ltab, ltab_len rs m]
def Lv (rs : List Rwd) (m : Nat) : Int := (ltab rs (m + 1)).getD m 0
theorem getD_app {l : List Int} {x : Int} {i : Nat} (h : i < l.length) : (l ++ [x]).getD i 0 = l.getD i 0 := by
  rw [List.getD_eq_getElem?_getD, List.getD_eq_getElem?_getD, List.getElem?_append_left h]
theorem getD_last {l : List Int} {x : Int} {i : Nat} (h : i = l.length) : (l ++ [x]).getD i 0 = x := by
  subst h
  rw [List.getD_eq_getElem?_getD, List.getElem?_append_right (Nat.le_refl _), Nat.sub_self]
  rfl
theorem ltab_get (rs : List Rwd) : ∀ (k i : Nat), i < k → (ltab rs k).getD i 0 = Lv rs i
  | k + 1, i, h => by
    by_cases hi : i = k
    · subst hi
      rfl
    · show (ltab rs k ++ [_]).getD i 0 = _
      rw [getD_app (by rw [ltab_len]; omega)]
      exact ltab_get rs k i (by omega)
theorem Lv_eq (rs : List Rwd) (m : Nat) : Lv rs m = lnext rs (ltab rs m) m := by
  show (ltab rs m ++ [_]).getD m 0 = _
  exact getD_last (ltab_len rs m).symm
theorem Lv_ge0 (rs : List Rwd) (m : Nat) : 0 ≤ Lv rs m := by
  rw [Lv_eq]
  exact maxL_le List.mem_cons_self
section
variable {rs : List Rwd}
theorem Lv_opt (h : priced rs) {m : Nat} {r : Rwd} (hr : r ∈ rs) (hp : r.2.1 ≤ (m : Int)) : Lv rs (m - r.2.1.toNat) + r.2.2 ≤ Lv rs m := by
  have h1 := (h r hr).1
  rw [Lv_eq rs m]
  refine maxL_le (List.mem_cons_of_mem _ (List.mem_map.mpr ⟨r, List.mem_filter.mpr ⟨hr, decide_eq_true hp⟩, ?_⟩))
  have e : ((m : Int) - r.2.1).toNat = m - r.2.1.toNat := by omega
  rw [e, ltab_get rs m _ (by omega)]
theorem Lv_cases (h : priced rs) (m : Nat) : Lv rs m = 0 ∨ ∃ r ∈ rs, r.2.1 ≤ (m : Int) ∧ Lv rs m = Lv rs (m - r.2.1.toNat) + r.2.2 := by
  have hm := maxL_mem (l := 0 :: (rs.filter fun r => decide (r.2.1 ≤ (m : Int))).map fun r => (ltab rs m).getD ((m : Int) - r.2.1).toNat 0 + r.2.2) (by simp)
  have e : maxL (0 :: (rs.filter fun r => decide (r.2.1 ≤ (m : Int))).map fun r => (ltab rs m).getD ((m : Int) - r.2.1).toNat 0 + r.2.2) = Lv rs m := (Lv_eq rs m).symm
  rw [e] at hm
  rcases List.mem_cons.mp hm with z | z
  · exact .inl z
  · obtain ⟨r, hr, er⟩ := List.mem_map.mp z
    obtain ⟨h1, h2⟩ := List.mem_filter.mp hr
    have h2 := of_decide_eq_true h2
    have h3 := (h r h1).1
    refine .inr ⟨r, h1, h2, ?_⟩
    have e : ((m : Int) - r.2.1).toNat = m - r.2.1.toNat := by omega
    rw [← er, e, ltab_get rs m _ (by omega)]
theorem Lv_zero (h : priced rs) : Lv rs 0 = 0 := by
  rcases Lv_cases h 0 with z | ⟨r, hr, hp, _⟩
  · exact z
  · have := (h r hr).1
    omega
theorem Lv_step (h : priced rs) (m : Nat) : Lv rs m ≤ Lv rs (m + 1) := by
  induction m using Nat.strongRecOn with
  | _ m ih =>
    rcases Lv_cases h m with z | ⟨r, hr, hp, z⟩
    · rw [z]
      exact Lv_ge0 rs (m + 1)
    · have h1 := (h r hr).1
      have o := Lv_opt h hr (m := m + 1) (by omega)
      have i := ih (m - r.2.1.toNat) (by omega)
      have e : m + 1 - r.2.1.toNat = m - r.2.1.toNat + 1 := by omega
      rw [e] at o
      omega
theorem Lv_mono (h : priced rs) {i j : Nat} (hij : i ≤ j) : Lv rs i ≤ Lv rs j := by
  induction j with
  | zero =>
    have : i = 0 := by omega
    rw [this]
    exact Int.le_refl _
  | succ j ih =>
    by_cases e : i = j + 1
    · rw [e]
      exact Int.le_refl _
    · exact Int.le_trans (ih (by omega)) (Lv_step h j)
/-- the row of best discounts -/
def LRow (rs : List Rwd) (n : Nat) : List Int := (List.range n).map (Lv rs)
theorem lrow_len (n : Nat) : (LRow rs n).length = n := by
  unfold LRow
  rw [List.length_map, List.length_range]
theorem lrow_at {n : Nat} {j : Int} (h : 0 ≤ j) (h2 : j < (n : Int)) : X.at (LRow rs n) j = .ok (Lv rs j.toNat) := by
  refine at_some h ?_
  unfold LRow
  rw [List.getElem?_map, List.getElem?_range (by omega)]
  rfl
theorem lrow_succ (n : Nat) : LRow rs (n + 1) = LRow rs n ++ [Lv rs n] := by
  unfold LRow
  rw [List.range_succ, List.map_append]
  rfl
theorem lrow_ltab (n : Nat) : ltab rs n = LRow rs n := by
  induction n with
  | zero => rfl
  | succ n ih =>
    rw [lrow_succ, ← ih, Lv_eq]
    rfl
/-- the best by the law -/
theorem lbest_ok (h : GoodRs rs) {n : Nat} (hn : n ≤ 500) : m_law_best rs (n : Int) = .ok (LRow rs (n + 1)) := by
  unfold m_law_best
  rw [rng_ok (by omega) (by omega) (by omega) (by omega), bind_ok_]
  have key : ∀ k : Nat, k ≤ 501 → X.fold (rangeI 0 (k : Int)) [] (fun (x74 : Int) (q75 : List Int) => (((X.mapO rs fun x84 => if (decide (x84.2.1 ≤ x74)) = true then ((X.at q75 (x74 - x84.2.1)).bind fun a87 => X.ok (a87 + x84.2.2)).bind fun a88 => X.ok (some a88) else X.ok none).bind fun a89 => X.app [(0 : Int)] a89).bind fun a90 => ((X.maxL a90).bind fun a91 => X.push q75 a91).bind fun a92 => X.ok a92 : X (List Int))) = .ok (LRow rs k) := by
    intro k hk
    have z := sat_foldP (fun (d : List Int) (q : List Int) => q = LRow rs d.length) (xs := rangeI 0 (k : Int)) (done := []) (st := ([] : List Int)) (f := fun (x74 : Int) (q75 : List Int) => (((X.mapO rs fun x84 => if (decide (x84.2.1 ≤ x74)) = true then ((X.at q75 (x74 - x84.2.1)).bind fun a87 => X.ok (a87 + x84.2.2)).bind fun a88 => X.ok (some a88) else X.ok none).bind fun a89 => X.app [(0 : Int)] a89).bind fun a90 => ((X.maxL a90).bind fun a91 => X.push q75 a91).bind fun a92 => X.ok a92 : X (List Int))) rfl (fun d x r q hd hq => by
      subst hq
      have ex : x = (d.length : Int) := by
        have := congrArg (fun l => l[d.length]?) hd
        simp only [List.nil_append] at this
        rw [List.getElem?_append_right (Nat.le_refl _), Nat.sub_self, rangeI_nat, List.getElem?_map] at this
        have hl : d.length < k := by
          have := congrArg List.length hd
          rw [List.nil_append, rangeI_len, List.length_append, List.length_cons] at this
          omega
        rw [List.getElem?_range hl] at this
        simpa using this.symm
      have hl : d.length < k := by
        have := congrArg List.length hd
        rw [List.nil_append, rangeI_len, List.length_append, List.length_cons] at this
        omega
      subst ex
      rw [mapO_filter (fun r : Rwd => decide (r.2.1 ≤ (d.length : Int))) (fun r => (ltab rs d.length).getD ((d.length : Int) - r.2.1).toNat 0 + r.2.2) (fun r hr => by
        have hp := (h.priced r hr).1
        by_cases c : r.2.1 ≤ (d.length : Int)
        · rw [if_pos (decide_eq_true c), lrow_at (by omega) (by omega), bind_ok_, bind_ok_, if_pos (decide_eq_true c), ltab_get rs d.length _ (by omega)]
        · rw [if_neg (by simpa using c), if_neg (by simpa using c)]), bind_ok_,
        app_ok (by simp) (by rw [List.length_map]; exact Nat.le_trans (List.length_filter_le _ _) (by have := h.l2; omega)), bind_ok_]
      have em : X.maxL ([(0 : Int)] ++ (rs.filter fun r => decide (r.2.1 ≤ (d.length : Int))).map fun r => (ltab rs d.length).getD ((d.length : Int) - r.2.1).toNat 0 + r.2.2) = .ok (Lv rs d.length) := by
        rw [Lv_eq]
        rfl
      rw [em, bind_ok_, push_ok (by rw [lrow_len]; omega), bind_ok_]
      refine sat_ok ?_
      rw [List.length_append, List.length_singleton, lrow_succ])
    obtain ⟨q, e, hq⟩ := z
    rw [e, hq, List.nil_append, rangeI_len]
    congr 2
  have z := key (n + 1) (by omega)
  rw [show ((n + 1 : Nat) : Int) = (n : Int) + 1 by omega] at z
  rw [z]
  rfl
/-! ### the rows of best_rows -/
def bst (rs : List Rwd) (i : Nat) (q : Int × Option Rwd) (r : Rwd) : Int × Option Rwd := if r.2.1 ≤ (i : Int) ∧ q.1 < Lv rs (i - r.2.1.toNat) + r.2.2 then (Lv rs (i - r.2.1.toNat) + r.2.2, some r) else q
def Iv (rs : List Rwd) : Nat → Option Rwd
  | 0 => none
  | i + 1 => (rs.foldl (bst rs (i + 1)) (Lv rs i, none)).2
def BInv (rs : List Rwd) (i : Nat) (q : Int × Option Rwd) : Prop := Lv rs i ≤ q.1 ∧ q.1 ≤ Lv rs (i + 1) ∧ (q.2 = none → q.1 = Lv rs i) ∧ ∀ r, q.2 = some r → r ∈ rs ∧ r.2.1 ≤ ((i + 1 : Nat) : Int) ∧ q.1 = Lv rs (i + 1 - r.2.1.toNat) + r.2.2
theorem bst_inv (h : priced rs) {i : Nat} {q : Int × Option Rwd} {r : Rwd} (hr : r ∈ rs) (hq : BInv rs i q) : BInv rs i (bst rs (i + 1) q r) ∧ q.1 ≤ (bst rs (i + 1) q r).1 ∧ (r.2.1 ≤ ((i + 1 : Nat) : Int) → Lv rs (i + 1 - r.2.1.toNat) + r.2.2 ≤ (bst rs (i + 1) q r).1) := by
  unfold bst
  by_cases c : r.2.1 ≤ ((i + 1 : Nat) : Int) ∧ q.1 < Lv rs (i + 1 - r.2.1.toNat) + r.2.2
  · rw [if_pos c]
    obtain ⟨a1, a2, a3, a4⟩ := hq
    refine ⟨⟨Int.le_trans a1 (Int.le_of_lt c.2), Lv_opt h hr c.1, fun e => (by cases e), fun r' e => ?_⟩, Int.le_of_lt c.2, fun _ => Int.le_refl _⟩
    cases e
    exact ⟨hr, c.1, rfl⟩
  · rw [if_neg c]
    exact ⟨hq, Int.le_refl _, fun hp => Int.not_lt.mp fun l => c ⟨hp, l⟩⟩
theorem bfold_inv (h : priced rs) {i : Nat} : ∀ (l : List Rwd) (q : Int × Option Rwd), (∀ r ∈ l, r ∈ rs) → BInv rs i q → BInv rs i (l.foldl (bst rs (i + 1)) q) ∧ q.1 ≤ (l.foldl (bst rs (i + 1)) q).1 ∧ ∀ r ∈ l, r.2.1 ≤ ((i + 1 : Nat) : Int) → Lv rs (i + 1 - r.2.1.toNat) + r.2.2 ≤ (l.foldl (bst rs (i + 1)) q).1
  | [], q, _, hq => ⟨hq, Int.le_refl _, fun r hr => by cases hr⟩
  | x :: l, q, hl, hq => by
    obtain ⟨a1, a2, a3⟩ := bst_inv h (hl x List.mem_cons_self) hq
    obtain ⟨b1, b2, b3⟩ := bfold_inv h l (bst rs (i + 1) q x) (fun r hr => hl r (List.mem_cons_of_mem _ hr)) a1
    rw [List.foldl_cons]
    refine ⟨b1, Int.le_trans a2 b2, fun r hr hp => ?_⟩
    rcases List.mem_cons.mp hr with e | e
    · subst e
      exact Int.le_trans (a3 hp) b2
    · exact b3 r e hp
theorem brow (h : priced rs) (i : Nat) : rs.foldl (bst rs (i + 1)) (Lv rs i, none) = (Lv rs (i + 1), Iv rs (i + 1)) ∧ BInv rs i (Lv rs (i + 1), Iv rs (i + 1)) := by
  have z0 : BInv rs i (Lv rs i, none) := ⟨Int.le_refl _, Lv_step h i, fun _ => rfl, fun r e => (by cases e)⟩
  obtain ⟨a1, a2, a3⟩ := bfold_inv h rs (Lv rs i, none) (fun r hr => hr) z0
  have e1 : (rs.foldl (bst rs (i + 1)) (Lv rs i, none)).1 = Lv rs (i + 1) := by
    refine Int.le_antisymm a1.2.1 ?_
    rcases Lv_cases h (i + 1) with z | ⟨r, hr, hp, z⟩
    · rw [z]
      exact Int.le_trans (Lv_ge0 rs i) a1.1
    · rw [z]
      exact a3 r hr hp
  have e2 : rs.foldl (bst rs (i + 1)) (Lv rs i, none) = (Lv rs (i + 1), Iv rs (i + 1)) := Prod.ext e1 rfl
  rw [e2] at a1
  exact ⟨e2, a1⟩
def IRow (rs : List Rwd) (n : Nat) : List (Option Rwd) := (List.range n).map (Iv rs)
theorem irow_len (n : Nat) : (IRow rs n).length = n := by
  unfold IRow
  rw [List.length_map, List.length_range]
theorem irow_at {n : Nat} {j : Int} (h : 0 ≤ j) (h2 : j < (n : Int)) : X.at (IRow rs n) j = .ok (Iv rs j.toNat) := by
  refine at_some h ?_
  unfold IRow
  rw [List.getElem?_map, List.getElem?_range (by omega)]
  rfl
theorem irow_succ (n : Nat) : IRow rs (n + 1) = IRow rs n ++ [Iv rs n] := by
  unfold IRow
  rw [List.range_succ, List.map_append]
  rfl
theorem rangeI1 (n : Nat) : rangeI 1 ((n : Int) + 1) = (List.range n).map fun (k : Nat) => ((k + 1 : Nat) : Int) := by
  unfold rangeI
  rw [show ((n : Int) + 1 - 1).toNat = n by omega]
  apply List.map_congr_left
  intro k _
  show (1 : Int) + k = ((k + 1 : Nat) : Int)
  omega
theorem bestrows_ok (h : GoodRs rs) {n : Nat} (hn : n ≤ 500) : m_best_rows rs (n : Int) = .ok (LRow rs (n + 1), IRow rs (n + 1)) := by
  unfold m_best_rows
  rw [rng_ok (by omega) (by omega) (by omega) (by omega), bind_ok_]
  have z := sat_foldP (fun (d : List Int) (q : List Int × List (Option Rwd)) => q = (LRow rs (d.length + 1), IRow rs (d.length + 1))) (xs := rangeI 1 ((n : Int) + 1)) (done := []) (st := (([(0 : Int)], [none]) : List Int × List (Option Rwd))) (f := fun (x124 : Int) (q125 : ((List Int) × (List (Option (Str × Int × Int))))) => ((X.at q125.1 (x124 - (1 : Int))).bind fun a127 => (X.fold rs (a127, none) fun (x129 : (Str × Int × Int)) (q130 : (Int × (Option (Str × Int × Int)))) => ((((if (decide (x129.2.1 ≤ x124)) = true then ((X.at q125.1 (x124 - x129.2.1)).bind fun a134 => X.ok (a134 + x129.2.2)).bind fun a135 => X.ok (decide (q130.1 < a135)) else X.ok false).bind fun a136 => if a136 = true then ((X.at q125.1 (x124 - x129.2.1)).bind fun a141 => X.ok (a141 + x129.2.2)).bind fun a142 => X.ok (a142, (some x129)) else X.ok (q130.1, q130.2) : X (Int × (Option (Str × Int × Int))))).bind fun q139 => X.ok (q139.1, q139.2) : X (Int × (Option (Str × Int × Int))))).bind fun q130 => (X.push q125.1 q130.1).bind fun a143 => (X.push q125.2 q130.2).bind fun a144 => X.ok (a143, a144) : X ((List Int) × (List (Option (Str × Int × Int)))))) (by
      show ([(0 : Int)], [none]) = ([Lv rs 0], [Iv rs 0])
      rw [Lv_zero h.priced]
      rfl) (fun d x r q hd hq => by
    subst hq
    rw [List.nil_append] at hd
    have hl : d.length < n := by
      have := congrArg List.length hd
      rw [rangeI_len, List.length_append, List.length_cons] at this
      omega
    have ex : x = ((d.length + 1 : Nat) : Int) := by
      have := congrArg (fun l => l[d.length]?) hd
      rw [List.getElem?_append_right (Nat.le_refl _), Nat.sub_self, rangeI1, List.getElem?_map, List.getElem?_range hl] at this
      simpa using this.symm
    subst ex
    have e0 : (((d.length + 1 : Nat) : Int) - 1).toNat = d.length := by omega
    rw [lrow_at (by omega) (by omega), bind_ok_, e0]
    rw [fold_eq (bst rs (d.length + 1)) (fun r hr q => by
      have hp := (h.priced r hr).1
      have e1 : (((d.length + 1 : Nat) : Int) - r.2.1).toNat = d.length + 1 - r.2.1.toNat := by omega
      unfold bst
      by_cases c : r.2.1 ≤ ((d.length + 1 : Nat) : Int)
      · rw [if_pos (decide_eq_true c), lrow_at (by omega) (by omega), bind_ok_, bind_ok_, bind_ok_, bind_ok_, e1]
        by_cases c2 : q.1 < Lv rs (d.length + 1 - r.2.1.toNat) + r.2.2
        · rw [if_pos (decide_eq_true c2), if_pos ⟨c, c2⟩]
          rfl
        · rw [if_neg (by simpa using c2), if_neg (fun y => c2 y.2)]
          rfl
      · rw [if_neg (by simpa using c), if_neg (fun y => c y.1)]
        rfl), (brow h.priced d.length).1, bind_ok_, push_ok (by rw [lrow_len]; omega), bind_ok_, push_ok (by rw [irow_len]; omega), bind_ok_]
    refine sat_ok ?_
    rw [List.length_append, List.length_singleton, ← lrow_succ, ← irow_succ])
  obtain ⟨q, e, hq⟩ := z
  rw [e, hq, List.nil_append, rangeI_len, show ((n : Int) + 1 - 1).toNat = n by omega]
  rfl
/-! ### the least price -/
def Kv (rs : List Rwd) (n : Nat) : Nat := ((List.range (n + 1)).find? fun k => Lv rs k == Lv rs n).getD n
theorem Kv_find (n : Nat) : (List.range (n + 1)).find? (fun k => Lv rs k == Lv rs n) = some (Kv rs n) := by
  unfold Kv
  cases e : (List.range (n + 1)).find? fun k => Lv rs k == Lv rs n with
  | none =>
    rw [List.find?_eq_none] at e
    exact absurd (e n (List.mem_range.mpr (by omega))) (by simp)
  | some m => rfl
theorem Kv_is (n : Nat) : Kv rs n ≤ n ∧ Lv rs (Kv rs n) = Lv rs n ∧ ∀ k, Lv rs k = Lv rs n → Kv rs n ≤ k := by
  have z := List.find?_range_eq_some.mp (Kv_find (rs := rs) n)
  have z2 := List.mem_range.mp z.2.1
  refine ⟨by omega, by simpa using z.1, fun k hk => ?_⟩
  rcases Nat.lt_or_ge k (Kv rs n) with y | y
  · have := z.2.2 k y
    rw [hk] at this
    simp at this
  · exact y
theorem flats_ints : ∀ xs : List Int, D.flats D.deep (xs.map D.int) = true
  | [] => rfl
  | x :: xs => by
    rw [List.map_cons]
    show (D.flat D.deep (.int x) && D.flats D.deep (xs.map D.int)) = true
    rw [flats_ints xs]
    rfl
theorem index_ok (n : Nat) : X.bmI .index (.lst ((LRow rs (n + 1)).map D.int)) [.int (Lv rs n)] = .ok (Kv rs n : Int) := by
  obtain ⟨k1, k2, k3⟩ := Kv_is (rs := rs) n
  have e : findD (.int (Lv rs n)) ((LRow rs (n + 1)).map D.int) = some (Kv rs n) := by
    unfold findD
    rw [List.findIdx?_eq_some_iff_getElem]
    have hl : ((LRow rs (n + 1)).map D.int).length = n + 1 := by rw [List.length_map, lrow_len]
    have hg : ∀ (i : Nat) (hi : i < ((LRow rs (n + 1)).map D.int).length), ((LRow rs (n + 1)).map D.int)[i] = .int (Lv rs i) := by
      intro i hi
      simp [LRow]
    refine ⟨by omega, ?_, fun j hj => ?_⟩
    · rw [hg _ (by omega), k2]
      exact beq_self_eq_true _
    · rw [hg _ (by omega)]
      intro c
      have c : (Lv rs j == Lv rs n) = true := c
      have := k3 j (by simpa using c)
      omega
  have e2 : bmP .index (.lst ((LRow rs (n + 1)).map D.int)) [.int (Lv rs n)] = some (.d (.int (Kv rs n : Int))) := by
    show (if D.flat D.deep (.int (Lv rs n)) && D.flats D.deep ((LRow rs (n + 1)).map D.int) then (findD (.int (Lv rs n)) ((LRow rs (n + 1)).map D.int)).map fun (k : Nat) => Vl.d (.int (k : Int)) else none) = _
    rw [flats_ints, e]
    rfl
  unfold X.bmI
  rw [e2]
  rfl
/-! ### the walk of best_basket -/
theorem whl_go {σ ρ : Type} {c : σ → X (Bool × σ)} {f : σ → X (Fl ρ σ)} {st st2 : σ} {n : Nat} (hc : c st = .ok (true, st)) (hf : f st = .ok (.nx st2)) : X.whl (n + 1) st c f = X.whl n st2 c f := by
  conv => lhs; unfold X.whl
  rw [hc]
  dsimp only
  rw [hf]
theorem walk_ok (h : priced rs) {n : Nat} : ∀ (s : Nat) (fuel : Nat) (L : List Str), s < fuel → s ≤ n → L.length + s ≤ 1000 → ∃ ys : List Rwd, (∀ r ∈ ys, r ∈ rs) ∧ (ys.map (·.2.1)).sum ≤ (s : Int) ∧ (ys.map (·.2.2)).sum = Lv rs s ∧
    X.whl fuel ((s : Int), L) (fun (q158 : (Int × (List Str))) => (X.ok ((decide ((0 : Int) < q158.1)), q158) : X (Bool × (Int × (List Str))))) (fun (q158 : (Int × (List Str))) => ((X.at (IRow rs (n + 1)) q158.1).bind fun a160 => ((if (a160).isNone = true then X.ok ((q158.1 - (1 : Int)), q158.2) else (((X.unO a160).bind fun v => X.ok v.1).bind fun a168 => X.push q158.2 a168).bind fun a169 => (((X.unO a160).bind fun v => X.ok v.2.1).bind fun a170 => X.ok (q158.1 - a170)).bind fun a171 => X.ok (a171, a169) : X (Int × (List Str)))).bind fun q166 => X.ok (.nx (q166.1, q166.2)) : X (Fl (List Str) (Int × (List Str))))) = .ok (.nx (0, L ++ ys.map (·.1))) := by
  intro s
  induction s using Nat.strongRecOn with
  | _ s ih =>
    intro fuel L hf hn hL
    obtain ⟨fuel, rfl⟩ : ∃ k, fuel = k + 1 := ⟨fuel - 1, by omega⟩
    cases s with
    | zero =>
      refine ⟨[], fun r hr => (by cases hr), Int.le_refl _, ?_, ?_⟩
      · rw [Lv_zero h]
        rfl
      · rw [List.map_nil, List.append_nil]
        rfl
    | succ s =>
      have e0 : decide ((0 : Int) < ((s + 1 : Nat) : Int)) = true := decide_eq_true (by omega)
      obtain ⟨_, b1, b2, b3, b4⟩ := brow h s
      have ei := irow_at (rs := rs) (n := n + 1) (j := ((s + 1 : Nat) : Int)) (by omega) (by omega)
      rw [Int.toNat_natCast] at ei
      cases hi : Iv rs (s + 1) with
      | none =>
        obtain ⟨ys, y1, y2, y3, y4⟩ := ih s (by omega) fuel L (by omega) (by omega) (by omega)
        refine ⟨ys, y1, by omega, by rw [y3]; exact (b3 hi).symm, ?_⟩
        rw [← y4]
        refine whl_go (by dsimp only; rw [e0]) ?_
        dsimp only
        rw [ei, hi, bind_ok_, if_pos (show (none : Option Rwd).isNone = true from rfl), bind_ok_, show ((s + 1 : Nat) : Int) - 1 = (s : Int) by omega]
      | some r =>
        obtain ⟨c1, c2, c3⟩ := b4 r hi
        have hp := (h r c1).1
        have c3 : Lv rs (s + 1) = Lv rs (s + 1 - r.2.1.toNat) + r.2.2 := c3
        obtain ⟨ys, y1, y2, y3, y4⟩ := ih (s + 1 - r.2.1.toNat) (by omega) fuel (L ++ [r.1]) (by omega) (by omega) (by rw [List.length_append, List.length_singleton]; omega)
        refine ⟨r :: ys, fun x hx => ?_, ?_, ?_, ?_⟩
        · rcases List.mem_cons.mp hx with e | e
          · rw [e]; exact c1
          · exact y1 x e
        · rw [List.map_cons, List.sum_cons]; omega
        · rw [List.map_cons, List.sum_cons, y3, c3]; omega
        · rw [List.map_cons, List.append_cons, ← y4]
          refine whl_go (by dsimp only; rw [e0]) ?_
          dsimp only
          have eu : X.unO (some r) = .ok r := rfl
          rw [ei, hi, bind_ok_, if_neg (by simp), eu, bind_ok_, bind_ok_, push_ok (by omega), bind_ok_, bind_ok_, bind_ok_, bind_ok_, bind_ok_, show ((s + 1 : Nat) : Int) - r.2.1 = ((s + 1 - r.2.1.toNat : Nat) : Int) by omega]
/-! ### sums of baskets -/
theorem sum_le (h : priced rs) : ∀ (ys : List Rwd), (∀ r ∈ ys, r ∈ rs) → 0 ≤ (ys.map (fun x : Rwd => x.2.1)).sum ∧ (ys.map (fun x : Rwd => x.2.2)).sum ≤ Lv rs ((ys.map (fun x : Rwd => x.2.1)).sum).toNat
  | [], _ => ⟨Int.le_refl _, Lv_ge0 rs _⟩
  | r :: ys, hy => by
    obtain ⟨a1, a2⟩ := sum_le h ys fun x hx => hy x (List.mem_cons_of_mem _ hx)
    have hr := hy r List.mem_cons_self
    have hp := (h r hr).1
    rw [List.map_cons, List.map_cons, List.sum_cons, List.sum_cons]
    have o := Lv_opt h hr (m := (r.2.1 + (ys.map (fun x : Rwd => x.2.1)).sum).toNat) (by omega)
    rw [show (r.2.1 + (ys.map (fun x : Rwd => x.2.1)).sum).toNat - r.2.1.toNat = ((ys.map (fun x : Rwd => x.2.1)).sum).toNat by omega] at o
    exact ⟨by omega, by omega⟩
theorem sum_exact (h : priced rs) {n : Nat} {ys : List Rwd} (hy : ∀ r ∈ ys, r ∈ rs) (hs : (ys.map (fun x : Rwd => x.2.1)).sum ≤ (Kv rs n : Int)) (hd : (ys.map (fun x : Rwd => x.2.2)).sum = Lv rs (Kv rs n)) : (ys.map (fun x : Rwd => x.2.1)).sum = (Kv rs n : Int) := by
  obtain ⟨a1, a2⟩ := sum_le h ys hy
  obtain ⟨k1, k2, k3⟩ := Kv_is (rs := rs) n
  have m := Lv_mono h (i := ((ys.map (fun x : Rwd => x.2.1)).sum).toNat) (j := Kv rs n) (by omega)
  have := k3 ((ys.map (fun x : Rwd => x.2.1)).sum).toNat (by omega)
  omega
def pv (rs : List Rwd) (s : Str) : Int := ((rs.filter fun r => r.1 == s).map (fun x : Rwd => x.2.1)).sum
def dv (rs : List Rwd) (s : Str) : Int := ((rs.filter fun r => r.1 == s).map (fun x : Rwd => x.2.2)).sum
theorem inner_is (s : Str) : ∀ (l : List Rwd) (q : Int × Int), l.foldl (fun (q : Int × Int) (r : Rwd) => if (r.1 == s) = true then ((q.1 + r.2.1), (q.2 + r.2.2)) else (q.1, q.2)) q = (q.1 + pv l s, q.2 + dv l s)
  | [], q => by simp [pv, dv]
  | r :: l, q => by
    rw [List.foldl_cons, inner_is s l]
    unfold pv dv
    rw [List.filter_cons]
    by_cases c : (r.1 == s) = true
    · rw [if_pos c, if_pos c, List.map_cons, List.map_cons, List.sum_cons, List.sum_cons]
      exact Prod.ext (Int.add_assoc _ _ _) (Int.add_assoc _ _ _)
    · rw [if_neg c, if_neg c]
theorem outer_is (f g : Str → Int) : ∀ (l : List Str) (q : Int × Int), l.foldl (fun (q : Int × Int) (s : Str) => (q.1 + f s, q.2 + g s)) q = (q.1 + (l.map f).sum, q.2 + (l.map g).sum)
  | [], q => by simp
  | s :: l, q => by
    rw [List.foldl_cons, outer_is f g l, List.map_cons, List.map_cons, List.sum_cons, List.sum_cons]
    exact Prod.ext (Int.add_assoc _ _ _) (Int.add_assoc _ _ _)
theorem lawsums_ok (l : List Str) : m_law_sums rs l = .ok [(l.map (pv rs)).sum, (l.map (dv rs)).sum] := by
  unfold m_law_sums
  rw [fold_eq (fun (q : Int × Int) s => (q.1 + pv rs s, q.2 + dv rs s)) (fun s _ q => by
    rw [fold_eq (fun (q : Int × Int) (r : Rwd) => if (r.1 == s) = true then ((q.1 + r.2.1), (q.2 + r.2.2)) else (q.1, q.2)) (fun r _ q => by
      split <;> rfl), inner_is, bind_ok_]), bind_ok_, outer_is]
  dsimp only
  rw [Int.zero_add, Int.zero_add]
theorem perm_sum (f : Str → Int) {a b : List Str} (h : a.Perm b) : (a.map f).sum = (b.map f).sum := by
  induction h with
  | nil => rfl
  | cons x _ ih => rw [List.map_cons, List.map_cons, List.sum_cons, List.sum_cons, ih]
  | swap x y l => simp only [List.map_cons, List.sum_cons]; omega
  | trans _ _ i1 i2 => rw [i1, i2]
theorem one_name : ∀ (l : List Rwd), (l.map (·.1)).Nodup → ∀ r ∈ l, l.filter (fun x => x.1 == r.1) = [r]
  | [], _, r, hr => by cases hr
  | x :: l, nd, r, hr => by
    rw [List.map_cons, List.nodup_cons] at nd
    rcases List.mem_cons.mp hr with e | e
    · subst e
      rw [List.filter_cons, if_pos (beq_self_eq_true _)]
      congr 1
      rw [List.filter_eq_nil_iff]
      intro y hy c
      have c : y.1 = r.1 := by simpa using c
      exact nd.1 (c ▸ List.mem_map.mpr ⟨y, hy, rfl⟩)
    · rw [List.filter_cons, if_neg (fun c => nd.1 ?_)]
      · exact one_name l nd.2 r e
      · have c : x.1 = r.1 := by simpa using c
        rw [c]
        exact List.mem_map.mpr ⟨r, e, rfl⟩
theorem names_sum (h : GoodRs rs) {ys : List Rwd} (hy : ∀ r ∈ ys, r ∈ rs) : (ys.map (·.1)).map (pv rs) = ys.map (fun x : Rwd => x.2.1) ∧ (ys.map (·.1)).map (dv rs) = ys.map (fun x : Rwd => x.2.2) := by
  rw [List.map_map, List.map_map]
  refine ⟨List.map_congr_left fun r hr => ?_, List.map_congr_left fun r hr => ?_⟩
  · show pv rs r.1 = _
    unfold pv
    rw [one_name rs h.nd r (hy r hr)]
    simp
  · show dv rs r.1 = _
    unfold dv
    rw [one_name rs h.nd r (hy r hr)]
    simp
theorem points_ok {m : Int} (h1 : 0 ≤ m) (h2 : m ≤ 500) : m_check_points m = .ok () := by
  unfold m_check_points
  rw [within_ok, decide_eq_true h1, decide_eq_true h2]
  rfl
theorem discount_ok (h : GoodRs rs) (b : Bool) {n : Nat} (hn : n ≤ 500) : m_best_discount (b, rs) (n : Int) = .ok (Lv rs n) := by
  unfold m_best_discount
  rw [checked_ok h, bind_ok_, points_ok (by omega) (by omega), bind_ok_, bestrows_ok h hn, bind_ok_, bind_ok_, lrow_at (by omega) (by omega), bind_ok_, Int.toNat_natCast]
theorem basket_ok (h : GoodRs rs) (b : Bool) {n : Nat} (hn : n ≤ 500) : ∃ ys : List Rwd, (∀ r ∈ ys, r ∈ rs) ∧ (ys.map (fun x : Rwd => x.2.1)).sum = (Kv rs n : Int) ∧ (ys.map (fun x : Rwd => x.2.2)).sum = Lv rs n ∧ m_best_basket (b, rs) (n : Int) = .ok (isortS (ys.map (·.1))) := by
  obtain ⟨k1, k2, k3⟩ := Kv_is (rs := rs) n
  obtain ⟨ys, y1, y2, y3, y4⟩ := walk_ok h.priced (n := n) (Kv rs n) Pr.W [] (by show _ < 100000; omega) k1 (by simp; omega)
  refine ⟨ys, y1, sum_exact h.priced y1 y2 y3, by rw [y3, k2], ?_⟩
  unfold m_best_basket
  rw [checked_ok h, bind_ok_, points_ok (by omega) (by omega), bind_ok_, bestrows_ok h hn, bind_ok_, lrow_at (by omega) (by omega), bind_ok_, Int.toNat_natCast, index_ok, bind_ok_, y4, bind_ok_]
  rfl
/-! ### the law -/
theorem alike_i (x : Int) : m_alike (.int x) (.int x) = .ok true := by
  unfold m_alike
  rw [D.same_self]
  simp only [D.okA, Bool.and_self, if_true]
theorem isortS_again (l : List Str) : isortS (isortS l) = isortS l :=
  ((isortS_perm (isortS l))).eq_of_pairwise (fun _ _ _ _ h1 h2 => leS_anti h1 h2) (isortS_sorted _) (isortS_sorted l)
theorem least_ok (n N : Nat) (hn : n ≤ N) (hN : N ≤ 500) : (((X.rng (0 : Int) ((n : Int) + (1 : Int))).bind fun a200 => (X.mapO a200 fun x201 => ((X.at (LRow rs (N + 1)) x201).bind fun a203 => (X.ok (Lv rs n)).bind fun a204 => X.ok (a203 == a204)).bind fun y205 => if y205 = true then X.ok (some x201) else X.ok none).bind fun ys => X.ok ys).bind fun a207 => X.at a207 (0 : Int)) = .ok (Kv rs n : Int) := by
  rw [rng_ok (by omega) (by omega) (by omega) (by omega), bind_ok_,
    mapO_filter (fun x : Int => Lv rs x.toNat == Lv rs n) id (fun x hx => by
      obtain ⟨a, c⟩ := mem_rangeI.mp hx
      rw [lrow_at (by omega) (by omega), bind_ok_, bind_ok_, bind_ok_]
      cases (Lv rs x.toNat == Lv rs n) <;> rfl), bind_ok_, bind_ok_, List.map_id, show (n : Int) + 1 = ((n + 1 : Nat) : Int) by omega, rangeI_nat, List.filter_map]
  refine at_some (by omega) ?_
  show (List.map _ _)[0]? = _
  rw [List.getElem?_map, ← List.head?_eq_getElem?, List.head?_filter]
  have e2 : (List.range (n + 1)).find? ((fun x : Int => Lv rs x.toNat == Lv rs n) ∘ fun (k : Nat) => (k : Int)) = some (Kv rs n) := Kv_find n
  rw [e2]
  rfl
end
theorem law_sat (ns : List Int) : (m_law ns).Sat fun b => b = true := by
  unfold m_law
  refine (sat_loopN (fun _ : St => True) trivial fun x _ s _ => ?_).bind fun o ho => ?_
  · refine (list_ok s).bind fun L hL => ?_
    refine X.Sat.bind (P := fun p => ∃ n : Nat, p.1 = (n : Int) ∧ n ≤ 500) ?_ fun pt hpt => ?_
    · refine X.Sat.bind (P := fun _ => True) ((tk (by omega) (by omega)).bind fun p hp => sat_ok trivial) fun w _ => ?_
      split
      · refine X.Sat.bind (P := fun p => p.1.length = 2 ∧ ∀ i ∈ p.1, 0 ≤ i ∧ i ≤ 500) ((tk (by omega) (by omega)).bind fun p hp => sat_ok ⟨rfl, fun i hi => ?_⟩) fun p hp => (pick_ok (by omega) (by omega)).mono fun q hq => ⟨q.1.toNat, by have := hp.2 _ hq; omega, by have := hp.2 _ hq; omega⟩
        simp only [List.mem_cons, List.not_mem_nil, or_false] at hi
        rcases hi with hi | hi
        · rw [hi]; omega
        · rw [hi]; omega
      · exact (tk (by omega) (by omega)).mono fun q hq => ⟨q.1.toNat, by omega, by omega⟩
    obtain ⟨pp, st⟩ := pt
    obtain ⟨N, en, hN⟩ := hpt
    have en : pp = (N : Int) := en
    subst en
    obtain ⟨rs, st0⟩ := L
    have hg : GoodRs rs := hL
    dsimp only
    refine X.Sat.bind (P := fun a => a.1.2 = rs) ?_ fun a ha => ?_
    · unfold m_given
      exact (tk (by omega) (by omega)).bind fun p hp => sat_ok rfl
    obtain ⟨⟨b, xs⟩, st2⟩ := a
    have ha : xs = rs := ha
    subst ha
    dsimp only
    rw [lbest_ok hg hN, bind_ok_]
    refine X.Sat.bind (P := fun p => ∀ i ∈ p.1, ∃ n : Nat, i = (n : Int) ∧ n ≤ N) ((tk (by omega) (by omega)).bind fun p hp => sat_ok fun i hi => ?_) fun p hp => ?_
    · have hi : i ∈ [(N : Int), p.1, (N : Int)] := hi
      simp only [List.mem_cons, List.not_mem_nil, or_false] at hi
      rcases hi with hi | hi | hi
      · exact ⟨N, hi, Nat.le_refl _⟩
      · exact ⟨p.1.toNat, by omega, by omega⟩
      · exact ⟨N, hi, Nat.le_refl _⟩
    refine (sat_loopN (fun _ : Unit => True) trivial fun x hx u _ => ?_).bind fun o ho => ?_
    · obtain ⟨n, rfl, hn⟩ := hp x hx
      rw [discount_ok hg b (by omega), bind_ok_, lrow_at (by omega) (by omega), bind_ok_, Int.toNat_natCast, alike_i, bind_ok_, if_neg (by simp)]
      obtain ⟨ys, y1, y2, y3, y4⟩ := basket_ok hg b (n := n) (by omega)
      rw [y4, bind_ok_]
      have hin : ∀ s ∈ isortS (ys.map (·.1)), (xs.map fun x181 => x181.1).any (· == s) = true := by
        intro s hs
        obtain ⟨r, hr, e⟩ := List.mem_map.mp ((isortS_perm _).mem_iff.mp hs)
        exact str_in (List.mem_map.mpr ⟨r, y1 r hr, e⟩)
      have ef : (isortS (ys.map (·.1))).filter (fun x186 => ((!true) || (!((xs.map fun x181 => x181.1)).any (· == x186)))) = [] := by
        rw [List.filter_eq_nil_iff]
        intro s hs
        rw [hin s hs]
        simp
      rw [ef, if_neg (by simp)]
      have es : X.sortS (isortS (ys.map (·.1))) = .ok (isortS (ys.map (·.1))) := by
        show X.ok (isortS (isortS _)) = _
        rw [isortS_again]
      rw [es, bind_ok_, bind_ok_, if_neg (by simp), least_ok n N hn hN, bind_ok_, lawsums_ok, perm_sum _ (isortS_perm _), perm_sum _ (isortS_perm _), (names_sum hg y1).1, (names_sum hg y1).2, y2, y3, bind_ok_, bind_ok_, bind_ok_, bind_ok_, if_neg (by simp), bind_ok_, if_neg (by simp)]
      exact sat_ok ⟨(), rfl, trivial⟩
    obtain ⟨u, rfl, _⟩ := ho
    exact sat_ok ⟨_, rfl, trivial⟩
  · obtain ⟨s', rfl, _⟩ := ho
    exact sat_ok rfl
/-- the law -/
theorem law_is (ns : List Int) : m_law ns = .ok true := by
  obtain ⟨b, e, h⟩ := law_sat ns
  rw [e, h]
abbrev level : Nat := 20
theorem law_true (ns : List Int) (h : ns.length ≤ 63) : evF Pr (level + 1) i_law [.d (.scr ns)] [] = .ok (.d (.bl true)) [] := by
  refine law_of ?_
  have z := q_law 12 ns
  rw [law_is] at z
  exact z.get
end Pd
namespace Pd
open PySem PySem.Spec L2
/-! the head -/
def d_is_integer : He.DefD := ⟨("is_integer", none), "is_integer", "is_integer", defArgs s_is_integer, defBody s_is_integer, defScope s_is_integer, [], []⟩
def d_is_within : He.DefD := ⟨("is_within", none), "is_within", "is_within", defArgs s_is_within, defBody s_is_within, defScope s_is_within, [], []⟩
def d_is_row : He.DefD := ⟨("is_row", none), "is_row", "is_row", defArgs s_is_row, defBody s_is_row, defScope s_is_row, [], []⟩
def d_is_tuple_of : He.DefD := ⟨("is_tuple_of", none), "is_tuple_of", "is_tuple_of", defArgs s_is_tuple_of, defBody s_is_tuple_of, defScope s_is_tuple_of, [], []⟩
def d_is_name : He.DefD := ⟨("is_name", none), "is_name", "is_name", defArgs s_is_name, defBody s_is_name, defScope s_is_name, [], []⟩
def d_is_reward : He.DefD := ⟨("is_reward", none), "is_reward", "is_reward", defArgs s_is_reward, defBody s_is_reward, defScope s_is_reward, [], []⟩
def d_checked_list : He.DefD := ⟨("checked_list", none), "checked_list", "checked_list", defArgs s_checked_list, defBody s_checked_list, defScope s_checked_list, [], []⟩
def d_check_points : He.DefD := ⟨("check_points", none), "check_points", "check_points", defArgs s_check_points, defBody s_check_points, defScope s_check_points, [], []⟩
def d_best_rows : He.DefD := ⟨("best_rows", none), "best_rows", "best_rows", defArgs s_best_rows, defBody s_best_rows, defScope s_best_rows, [], []⟩
def d_best_discount : He.DefD := ⟨("best_discount", none), "best_discount", "best_discount", defArgs s_best_discount, defBody s_best_discount, defScope s_best_discount, [], []⟩
def d_best_basket : He.DefD := ⟨("best_basket", none), "best_basket", "best_basket", defArgs s_best_basket, defBody s_best_basket, defScope s_best_basket, [], []⟩
def d__law_taken : He.DefD := ⟨("_law_taken", none), "_law_taken", "_law_taken", defArgs s__law_taken, defBody s__law_taken, defScope s__law_taken, [], []⟩
def d__law_pick : He.DefD := ⟨("_law_pick", none), "_law_pick", "_law_pick", defArgs s__law_pick, defBody s__law_pick, defScope s__law_pick, [], []⟩
def d__law_alike : He.DefD := ⟨("_law_alike", none), "_law_alike", "_law_alike", defArgs s__law_alike, defBody s__law_alike, defScope s__law_alike, [], []⟩
def d__law_name : He.DefD := ⟨("_law_name", none), "_law_name", "_law_name", defArgs s__law_name, defBody s__law_name, defScope s__law_name, [], []⟩
def d__law_names : He.DefD := ⟨("_law_names", none), "_law_names", "_law_names", defArgs s__law_names, defBody s__law_names, defScope s__law_names, [], []⟩
def d__law_list : He.DefD := ⟨("_law_list", none), "_law_list", "_law_list", defArgs s__law_list, defBody s__law_list, defScope s__law_list, [], []⟩
def d__law_given : He.DefD := ⟨("_law_given", none), "_law_given", "_law_given", defArgs s__law_given, defBody s__law_given, defScope s__law_given, [], []⟩
def d__law_best : He.DefD := ⟨("_law_best", none), "_law_best", "_law_best", defArgs s__law_best, defBody s__law_best, defScope s__law_best, [], []⟩
def d__law_sums : He.DefD := ⟨("_law_sums", none), "_law_sums", "_law_sums", defArgs s__law_sums, defBody s__law_sums, defScope s__law_sums, [], []⟩
def d_law : He.DefD := ⟨("law", none), "law", "law", defArgs s_law, defBody s_law, defScope s_law, [], []⟩
def hfn : List He.DefD := [d_is_integer, d_is_within, d_is_row, d_is_tuple_of, d_is_name, d_is_reward, d_checked_list, d_check_points, d_best_rows, d_best_discount, d_best_basket, d__law_taken, d__law_pick, d__law_alike, d__law_name, d__law_names, d__law_list, d__law_given, d__law_best, d__law_sums, d_law]
def hfa : List He.Fa := [.glo "is_integer", .glo "is_within", .glo "is_row", .glo "is_tuple_of", .glo "is_name", .glo "is_reward", .glo "checked_list", .glo "check_points", .glo "best_rows", .glo "best_discount", .glo "best_basket", .glo "_law_taken", .glo "_law_pick", .glo "_law_alike", .glo "_law_name", .glo "_law_names", .glo "_law_list", .glo "_law_given", .glo "_law_best", .glo "_law_sums", .glo "law", .str "LETTERS" "abcdefghijklmnopqrstuvwxyz", .int "MOST_DISCOUNT" 10000, .int "MOST_NAME" 8, .int "MOST_POINTS" 500, .int "MOST_PRICE" 200, .int "MOST_REWARDS" 12, .free "all", .free "bool", .free "dict", .free "enumerate", .free "int", .free "isinstance", .free "len", .free "list", .free "max", .free "range", .free "sorted", .free "str", .free "tuple"]
abbrev Rr : PySem.W.OpenRow := PySem.W.OpenLaw.row PySem.Challenge.rw_noidlegain_k55_whole_best_baskets
abbrev hk : PySem.W.Hook := He.hookD 4 hfa hfn
def ob (s : PySem.W.SharedT) : He.AlD := He.obsDG 4 hfa hfn (HandSHeadRun.getT s)
theorem ob_eq (s : PySem.W.SharedT) : ob s = hk.obs s.abs := He.obsDG_eq (HandSHeadRun.getT_eq s)
def lo0 : List Str := ["LETTERS", "MOST_NAME", "is_integer", "is_within", "is_row", "is_tuple_of", "is_name", "GainError", "BadList", "BadPoints", "MOST_REWARDS", "MOST_PRICE", "MOST_DISCOUNT", "is_reward", "checked_list", "MOST_POINTS", "check_points", "best_rows", "best_discount", "best_basket", "_law_taken", "_law_pick", "_law_alike", "_law_name", "_law_names", "_law_list", "_law_given", "_law_best", "_law_sums"]
def loose : List Str := lo0
theorem run (wd : World) : HandSHeadRun.RunEq Rr (PySem.W.view Rr.prog [34]) hk ob 20000 loose wd := by
  intro os
  kernel_rfl
def wr (K : PySem.W.Frag) : Wr := ⟨K, fun _ => 0⟩
theorem sc_is_integer : FnScope N_is_integer ["thing"] (defScope s_is_integer) := ⟨rfl, rfl, rfl, by decide +kernel, rfl, by decide +kernel, by decide +kernel⟩
theorem sc_is_within : FnScope N_is_within ["thing", "least", "most"] (defScope s_is_within) := ⟨rfl, rfl, rfl, by decide +kernel, rfl, by decide +kernel, by decide +kernel⟩
theorem sc_is_row : FnScope N_is_row ["thing"] (defScope s_is_row) := ⟨rfl, rfl, rfl, by decide +kernel, rfl, by decide +kernel, by decide +kernel⟩
theorem sc_is_tuple_of : FnScope N_is_tuple_of ["thing", "many"] (defScope s_is_tuple_of) := ⟨rfl, rfl, rfl, by decide +kernel, rfl, by decide +kernel, by decide +kernel⟩
theorem sc_is_name : FnScope N_is_name ["thing"] (defScope s_is_name) := ⟨rfl, rfl, rfl, by decide +kernel, rfl, by decide +kernel, by decide +kernel⟩
theorem sc_is_reward : FnScope N_is_reward ["thing"] (defScope s_is_reward) := ⟨rfl, rfl, rfl, by decide +kernel, rfl, by decide +kernel, by decide +kernel⟩
theorem sc_checked_list : FnScope N_checked_list ["rewards"] (defScope s_checked_list) := ⟨rfl, rfl, rfl, by decide +kernel, rfl, by decide +kernel, by decide +kernel⟩
theorem sc_check_points : FnScope N_check_points ["points"] (defScope s_check_points) := ⟨rfl, rfl, rfl, by decide +kernel, rfl, by decide +kernel, by decide +kernel⟩
theorem sc_best_rows : FnScope N_best_rows ["rewards", "most"] (defScope s_best_rows) := ⟨rfl, rfl, rfl, by decide +kernel, rfl, by decide +kernel, by decide +kernel⟩
theorem sc_best_discount : FnScope N_best_discount ["rewards", "points"] (defScope s_best_discount) := ⟨rfl, rfl, rfl, by decide +kernel, rfl, by decide +kernel, by decide +kernel⟩
theorem sc_best_basket : FnScope N_best_basket ["rewards", "points"] (defScope s_best_basket) := ⟨rfl, rfl, rfl, by decide +kernel, rfl, by decide +kernel, by decide +kernel⟩
theorem sc__law_taken : FnScope N__law_taken ["row", "many"] (defScope s__law_taken) := ⟨rfl, rfl, rfl, by decide +kernel, rfl, by decide +kernel, by decide +kernel⟩
theorem sc__law_pick : FnScope N__law_pick ["row", "some"] (defScope s__law_pick) := ⟨rfl, rfl, rfl, by decide +kernel, rfl, by decide +kernel, by decide +kernel⟩
theorem sc__law_alike : FnScope N__law_alike ["found", "due"] (defScope s__law_alike) := ⟨rfl, rfl, rfl, by decide +kernel, rfl, by decide +kernel, by decide +kernel⟩
theorem sc__law_name : FnScope N__law_name ["row"] (defScope s__law_name) := ⟨rfl, rfl, rfl, by decide +kernel, rfl, by decide +kernel, by decide +kernel⟩
theorem sc__law_names : FnScope N__law_names ["row", "many"] (defScope s__law_names) := ⟨rfl, rfl, rfl, by decide +kernel, rfl, by decide +kernel, by decide +kernel⟩
theorem sc__law_list : FnScope N__law_list ["row"] (defScope s__law_list) := ⟨rfl, rfl, rfl, by decide +kernel, rfl, by decide +kernel, by decide +kernel⟩
theorem sc__law_given : FnScope N__law_given ["row", "things"] (defScope s__law_given) := ⟨rfl, rfl, rfl, by decide +kernel, rfl, by decide +kernel, by decide +kernel⟩
theorem sc__law_best : FnScope N__law_best ["rewards", "most"] (defScope s__law_best) := ⟨rfl, rfl, rfl, by decide +kernel, rfl, by decide +kernel, by decide +kernel⟩
theorem sc__law_sums : FnScope N__law_sums ["rewards", "basket"] (defScope s__law_sums) := ⟨rfl, rfl, rfl, by decide +kernel, rfl, by decide +kernel, by decide +kernel⟩
theorem sc_law : FnScope N_law ["script"] (defScope s_law) := ⟨rfl, rfl, rfl, by decide +kernel, rfl, by decide +kernel, by decide +kernel⟩
theorem k_is_integer {K : PySem.W.Frag} {mg : Str → Option Value} {fd : FuncData} (hm : mg "is_integer" = some (.ref (He.ga K "is_integer"))) (F : FunD K "is_integer" "is_integer" (defArgs s_is_integer) (defBody s_is_integer) (defScope s_is_integer) [] [] (He.ga K "is_integer") fd) : DefOk (wr K) Pr mg fes glo free i_is_integer ⟨"is_integer", 1, f_is_integer.dfl⟩ :=
  DefOk.of0 (w := wr K) (fn := f_is_integer) rfl rfl rfl rfl hm F sc_is_integer rfl rfl c_is_integer fun _ _ _ _ _ _ us hl => match us, hl with | [_], _ => rfl
theorem k_is_within {K : PySem.W.Frag} {mg : Str → Option Value} {fd : FuncData} (hm : mg "is_within" = some (.ref (He.ga K "is_within"))) (F : FunD K "is_within" "is_within" (defArgs s_is_within) (defBody s_is_within) (defScope s_is_within) [] [] (He.ga K "is_within") fd) : DefOk (wr K) Pr mg fes glo free i_is_within ⟨"is_within", 3, f_is_within.dfl⟩ :=
  DefOk.of0 (w := wr K) (fn := f_is_within) rfl rfl rfl rfl hm F sc_is_within rfl rfl c_is_within fun _ _ _ _ _ _ us hl => match us, hl with | [_, _, _], _ => rfl
theorem k_is_row {K : PySem.W.Frag} {mg : Str → Option Value} {fd : FuncData} (hm : mg "is_row" = some (.ref (He.ga K "is_row"))) (F : FunD K "is_row" "is_row" (defArgs s_is_row) (defBody s_is_row) (defScope s_is_row) [] [] (He.ga K "is_row") fd) : DefOk (wr K) Pr mg fes glo free i_is_row ⟨"is_row", 1, f_is_row.dfl⟩ :=
  DefOk.of0 (w := wr K) (fn := f_is_row) rfl rfl rfl rfl hm F sc_is_row rfl rfl c_is_row fun _ _ _ _ _ _ us hl => match us, hl with | [_], _ => rfl
theorem k_is_tuple_of {K : PySem.W.Frag} {mg : Str → Option Value} {fd : FuncData} (hm : mg "is_tuple_of" = some (.ref (He.ga K "is_tuple_of"))) (F : FunD K "is_tuple_of" "is_tuple_of" (defArgs s_is_tuple_of) (defBody s_is_tuple_of) (defScope s_is_tuple_of) [] [] (He.ga K "is_tuple_of") fd) : DefOk (wr K) Pr mg fes glo free i_is_tuple_of ⟨"is_tuple_of", 2, f_is_tuple_of.dfl⟩ :=
  DefOk.of0 (w := wr K) (fn := f_is_tuple_of) rfl rfl rfl rfl hm F sc_is_tuple_of rfl rfl c_is_tuple_of fun _ _ _ _ _ _ us hl => match us, hl with | [_, _], _ => rfl
theorem k_is_name {K : PySem.W.Frag} {mg : Str → Option Value} {fd : FuncData} (hm : mg "is_name" = some (.ref (He.ga K "is_name"))) (F : FunD K "is_name" "is_name" (defArgs s_is_name) (defBody s_is_name) (defScope s_is_name) [] [] (He.ga K "is_name") fd) : DefOk (wr K) Pr mg fes glo free i_is_name ⟨"is_name", 1, f_is_name.dfl⟩ :=
  DefOk.of0 (w := wr K) (fn := f_is_name) rfl rfl rfl rfl hm F sc_is_name rfl rfl c_is_name fun _ _ _ _ _ _ us hl => match us, hl with | [_], _ => rfl
theorem k_is_reward {K : PySem.W.Frag} {mg : Str → Option Value} {fd : FuncData} (hm : mg "is_reward" = some (.ref (He.ga K "is_reward"))) (F : FunD K "is_reward" "is_reward" (defArgs s_is_reward) (defBody s_is_reward) (defScope s_is_reward) [] [] (He.ga K "is_reward") fd) : DefOk (wr K) Pr mg fes glo free i_is_reward ⟨"is_reward", 1, f_is_reward.dfl⟩ :=
  DefOk.of0 (w := wr K) (fn := f_is_reward) rfl rfl rfl rfl hm F sc_is_reward rfl rfl c_is_reward fun _ _ _ _ _ _ us hl => match us, hl with | [_], _ => rfl
theorem k_checked_list {K : PySem.W.Frag} {mg : Str → Option Value} {fd : FuncData} (hm : mg "checked_list" = some (.ref (He.ga K "checked_list"))) (F : FunD K "checked_list" "checked_list" (defArgs s_checked_list) (defBody s_checked_list) (defScope s_checked_list) [] [] (He.ga K "checked_list") fd) : DefOk (wr K) Pr mg fes glo free i_checked_list ⟨"checked_list", 1, f_checked_list.dfl⟩ :=
  DefOk.of0 (w := wr K) (fn := f_checked_list) rfl rfl rfl rfl hm F sc_checked_list rfl rfl c_checked_list fun _ _ _ _ _ _ us hl => match us, hl with | [_], _ => rfl
theorem k_check_points {K : PySem.W.Frag} {mg : Str → Option Value} {fd : FuncData} (hm : mg "check_points" = some (.ref (He.ga K "check_points"))) (F : FunD K "check_points" "check_points" (defArgs s_check_points) (defBody s_check_points) (defScope s_check_points) [] [] (He.ga K "check_points") fd) : DefOk (wr K) Pr mg fes glo free i_check_points ⟨"check_points", 1, f_check_points.dfl⟩ :=
  DefOk.of0 (w := wr K) (fn := f_check_points) rfl rfl rfl rfl hm F sc_check_points rfl rfl c_check_points fun _ _ _ _ _ _ us hl => match us, hl with | [_], _ => rfl
theorem k_best_rows {K : PySem.W.Frag} {mg : Str → Option Value} {fd : FuncData} (hm : mg "best_rows" = some (.ref (He.ga K "best_rows"))) (F : FunD K "best_rows" "best_rows" (defArgs s_best_rows) (defBody s_best_rows) (defScope s_best_rows) [] [] (He.ga K "best_rows") fd) : DefOk (wr K) Pr mg fes glo free i_best_rows ⟨"best_rows", 2, f_best_rows.dfl⟩ :=
  DefOk.of0 (w := wr K) (fn := f_best_rows) rfl rfl rfl rfl hm F sc_best_rows rfl rfl c_best_rows fun _ _ _ _ _ _ us hl => match us, hl with | [_, _], _ => rfl
theorem k_best_discount {K : PySem.W.Frag} {mg : Str → Option Value} {fd : FuncData} (hm : mg "best_discount" = some (.ref (He.ga K "best_discount"))) (F : FunD K "best_discount" "best_discount" (defArgs s_best_discount) (defBody s_best_discount) (defScope s_best_discount) [] [] (He.ga K "best_discount") fd) : DefOk (wr K) Pr mg fes glo free i_best_discount ⟨"best_discount", 2, f_best_discount.dfl⟩ :=
  DefOk.of0 (w := wr K) (fn := f_best_discount) rfl rfl rfl rfl hm F sc_best_discount rfl rfl c_best_discount fun _ _ _ _ _ _ us hl => match us, hl with | [_, _], _ => rfl
theorem k_best_basket {K : PySem.W.Frag} {mg : Str → Option Value} {fd : FuncData} (hm : mg "best_basket" = some (.ref (He.ga K "best_basket"))) (F : FunD K "best_basket" "best_basket" (defArgs s_best_basket) (defBody s_best_basket) (defScope s_best_basket) [] [] (He.ga K "best_basket") fd) : DefOk (wr K) Pr mg fes glo free i_best_basket ⟨"best_basket", 2, f_best_basket.dfl⟩ :=
  DefOk.of0 (w := wr K) (fn := f_best_basket) rfl rfl rfl rfl hm F sc_best_basket rfl rfl c_best_basket fun _ _ _ _ _ _ us hl => match us, hl with | [_, _], _ => rfl
theorem k__law_taken {K : PySem.W.Frag} {mg : Str → Option Value} {fd : FuncData} (hm : mg "_law_taken" = some (.ref (He.ga K "_law_taken"))) (F : FunD K "_law_taken" "_law_taken" (defArgs s__law_taken) (defBody s__law_taken) (defScope s__law_taken) [] [] (He.ga K "_law_taken") fd) : DefOk (wr K) Pr mg fes glo free i__law_taken ⟨"_law_taken", 2, f__law_taken.dfl⟩ :=
  DefOk.of0 (w := wr K) (fn := f__law_taken) rfl rfl rfl rfl hm F sc__law_taken rfl rfl c__law_taken fun _ _ _ _ _ _ us hl => match us, hl with | [_, _], _ => rfl
theorem k__law_pick {K : PySem.W.Frag} {mg : Str → Option Value} {fd : FuncData} (hm : mg "_law_pick" = some (.ref (He.ga K "_law_pick"))) (F : FunD K "_law_pick" "_law_pick" (defArgs s__law_pick) (defBody s__law_pick) (defScope s__law_pick) [] [] (He.ga K "_law_pick") fd) : DefOk (wr K) Pr mg fes glo free i__law_pick ⟨"_law_pick", 2, f__law_pick.dfl⟩ :=
  DefOk.of0 (w := wr K) (fn := f__law_pick) rfl rfl rfl rfl hm F sc__law_pick rfl rfl c__law_pick fun _ _ _ _ _ _ us hl => match us, hl with | [_, _], _ => rfl
theorem k__law_alike {K : PySem.W.Frag} {mg : Str → Option Value} {fd : FuncData} (hm : mg "_law_alike" = some (.ref (He.ga K "_law_alike"))) (F : FunD K "_law_alike" "_law_alike" (defArgs s__law_alike) (defBody s__law_alike) (defScope s__law_alike) [] [] (He.ga K "_law_alike") fd) : DefOk (wr K) Pr mg fes glo free i__law_alike ⟨"_law_alike", 2, f__law_alike.dfl⟩ :=
  DefOk.of0 (w := wr K) (fn := f__law_alike) rfl rfl rfl rfl hm F sc__law_alike rfl rfl c__law_alike fun _ _ _ _ _ _ us hl => match us, hl with | [_, _], _ => rfl
theorem k__law_name {K : PySem.W.Frag} {mg : Str → Option Value} {fd : FuncData} (hm : mg "_law_name" = some (.ref (He.ga K "_law_name"))) (F : FunD K "_law_name" "_law_name" (defArgs s__law_name) (defBody s__law_name) (defScope s__law_name) [] [] (He.ga K "_law_name") fd) : DefOk (wr K) Pr mg fes glo free i__law_name ⟨"_law_name", 1, f__law_name.dfl⟩ :=
  DefOk.of0 (w := wr K) (fn := f__law_name) rfl rfl rfl rfl hm F sc__law_name rfl rfl c__law_name fun _ _ _ _ _ _ us hl => match us, hl with | [_], _ => rfl
theorem k__law_names {K : PySem.W.Frag} {mg : Str → Option Value} {fd : FuncData} (hm : mg "_law_names" = some (.ref (He.ga K "_law_names"))) (F : FunD K "_law_names" "_law_names" (defArgs s__law_names) (defBody s__law_names) (defScope s__law_names) [] [] (He.ga K "_law_names") fd) : DefOk (wr K) Pr mg fes glo free i__law_names ⟨"_law_names", 2, f__law_names.dfl⟩ :=
  DefOk.of0 (w := wr K) (fn := f__law_names) rfl rfl rfl rfl hm F sc__law_names rfl rfl c__law_names fun _ _ _ _ _ _ us hl => match us, hl with | [_, _], _ => rfl
theorem k__law_list {K : PySem.W.Frag} {mg : Str → Option Value} {fd : FuncData} (hm : mg "_law_list" = some (.ref (He.ga K "_law_list"))) (F : FunD K "_law_list" "_law_list" (defArgs s__law_list) (defBody s__law_list) (defScope s__law_list) [] [] (He.ga K "_law_list") fd) : DefOk (wr K) Pr mg fes glo free i__law_list ⟨"_law_list", 1, f__law_list.dfl⟩ :=
  DefOk.of0 (w := wr K) (fn := f__law_list) rfl rfl rfl rfl hm F sc__law_list rfl rfl c__law_list fun _ _ _ _ _ _ us hl => match us, hl with | [_], _ => rfl
theorem k__law_given {K : PySem.W.Frag} {mg : Str → Option Value} {fd : FuncData} (hm : mg "_law_given" = some (.ref (He.ga K "_law_given"))) (F : FunD K "_law_given" "_law_given" (defArgs s__law_given) (defBody s__law_given) (defScope s__law_given) [] [] (He.ga K "_law_given") fd) : DefOk (wr K) Pr mg fes glo free i__law_given ⟨"_law_given", 2, f__law_given.dfl⟩ :=
  DefOk.of0 (w := wr K) (fn := f__law_given) rfl rfl rfl rfl hm F sc__law_given rfl rfl c__law_given fun _ _ _ _ _ _ us hl => match us, hl with | [_, _], _ => rfl
theorem k__law_best {K : PySem.W.Frag} {mg : Str → Option Value} {fd : FuncData} (hm : mg "_law_best" = some (.ref (He.ga K "_law_best"))) (F : FunD K "_law_best" "_law_best" (defArgs s__law_best) (defBody s__law_best) (defScope s__law_best) [] [] (He.ga K "_law_best") fd) : DefOk (wr K) Pr mg fes glo free i__law_best ⟨"_law_best", 2, f__law_best.dfl⟩ :=
  DefOk.of0 (w := wr K) (fn := f__law_best) rfl rfl rfl rfl hm F sc__law_best rfl rfl c__law_best fun _ _ _ _ _ _ us hl => match us, hl with | [_, _], _ => rfl
theorem k__law_sums {K : PySem.W.Frag} {mg : Str → Option Value} {fd : FuncData} (hm : mg "_law_sums" = some (.ref (He.ga K "_law_sums"))) (F : FunD K "_law_sums" "_law_sums" (defArgs s__law_sums) (defBody s__law_sums) (defScope s__law_sums) [] [] (He.ga K "_law_sums") fd) : DefOk (wr K) Pr mg fes glo free i__law_sums ⟨"_law_sums", 2, f__law_sums.dfl⟩ :=
  DefOk.of0 (w := wr K) (fn := f__law_sums) rfl rfl rfl rfl hm F sc__law_sums rfl rfl c__law_sums fun _ _ _ _ _ _ us hl => match us, hl with | [_, _], _ => rfl
theorem k_law {K : PySem.W.Frag} {mg : Str → Option Value} {fd : FuncData} (hm : mg "law" = some (.ref (He.ga K "law"))) (F : FunD K "law" "law" (defArgs s_law) (defBody s_law) (defScope s_law) [] [] (He.ga K "law") fd) : DefOk (wr K) Pr mg fes glo free i_law ⟨"law", 1, f_law.dfl⟩ :=
  DefOk.of0 (w := wr K) (fn := f_law) rfl rfl rfl rfl hm F sc_law rfl rfl c_law fun _ _ _ _ _ _ us hl => match us, hl with | [_], _ => rfl
theorem facts {prog : Program} {wd : World} {K : PySem.W.Frag} {h : Heap} {mg : Str → Option Value} (lev : Nat) (X : K.In h) (G : h.Ns mainGlobals mg) (c : He.SaysD hfa hfn K) :
    ∃ fd : FuncData, (∀ (s : Shared) (v : Value), BindsTo s fd ⟨[v], []⟩ [("script", v)]) ∧ ∀ base : Heap, FnOk prog wd K mg base (L2.CX prog wd) (lev + 1) (He.ga K "law") fd ["script"] (spC (wr K) 1 fun a M => evF Pr (lev + 1) i_law a M) := by
  obtain ⟨fd0, F0⟩ := c.def_ 0 (d := d_is_integer) rfl
  have m0 := He.glo_ok X G (c.fact 0 (f := .glo "is_integer") rfl)
  obtain ⟨fd1, F1⟩ := c.def_ 1 (d := d_is_within) rfl
  have m1 := He.glo_ok X G (c.fact 1 (f := .glo "is_within") rfl)
  obtain ⟨fd2, F2⟩ := c.def_ 2 (d := d_is_row) rfl
  have m2 := He.glo_ok X G (c.fact 2 (f := .glo "is_row") rfl)
  obtain ⟨fd3, F3⟩ := c.def_ 3 (d := d_is_tuple_of) rfl
  have m3 := He.glo_ok X G (c.fact 3 (f := .glo "is_tuple_of") rfl)
  obtain ⟨fd4, F4⟩ := c.def_ 4 (d := d_is_name) rfl
  have m4 := He.glo_ok X G (c.fact 4 (f := .glo "is_name") rfl)
  obtain ⟨fd5, F5⟩ := c.def_ 5 (d := d_is_reward) rfl
  have m5 := He.glo_ok X G (c.fact 5 (f := .glo "is_reward") rfl)
  obtain ⟨fd6, F6⟩ := c.def_ 6 (d := d_checked_list) rfl
  have m6 := He.glo_ok X G (c.fact 6 (f := .glo "checked_list") rfl)
  obtain ⟨fd7, F7⟩ := c.def_ 7 (d := d_check_points) rfl
  have m7 := He.glo_ok X G (c.fact 7 (f := .glo "check_points") rfl)
  obtain ⟨fd8, F8⟩ := c.def_ 8 (d := d_best_rows) rfl
  have m8 := He.glo_ok X G (c.fact 8 (f := .glo "best_rows") rfl)
  obtain ⟨fd9, F9⟩ := c.def_ 9 (d := d_best_discount) rfl
  have m9 := He.glo_ok X G (c.fact 9 (f := .glo "best_discount") rfl)
  obtain ⟨fd10, F10⟩ := c.def_ 10 (d := d_best_basket) rfl
  have m10 := He.glo_ok X G (c.fact 10 (f := .glo "best_basket") rfl)
  obtain ⟨fd11, F11⟩ := c.def_ 11 (d := d__law_taken) rfl
  have m11 := He.glo_ok X G (c.fact 11 (f := .glo "_law_taken") rfl)
  obtain ⟨fd12, F12⟩ := c.def_ 12 (d := d__law_pick) rfl
  have m12 := He.glo_ok X G (c.fact 12 (f := .glo "_law_pick") rfl)
  obtain ⟨fd13, F13⟩ := c.def_ 13 (d := d__law_alike) rfl
  have m13 := He.glo_ok X G (c.fact 13 (f := .glo "_law_alike") rfl)
  obtain ⟨fd14, F14⟩ := c.def_ 14 (d := d__law_name) rfl
  have m14 := He.glo_ok X G (c.fact 14 (f := .glo "_law_name") rfl)
  obtain ⟨fd15, F15⟩ := c.def_ 15 (d := d__law_names) rfl
  have m15 := He.glo_ok X G (c.fact 15 (f := .glo "_law_names") rfl)
  obtain ⟨fd16, F16⟩ := c.def_ 16 (d := d__law_list) rfl
  have m16 := He.glo_ok X G (c.fact 16 (f := .glo "_law_list") rfl)
  obtain ⟨fd17, F17⟩ := c.def_ 17 (d := d__law_given) rfl
  have m17 := He.glo_ok X G (c.fact 17 (f := .glo "_law_given") rfl)
  obtain ⟨fd18, F18⟩ := c.def_ 18 (d := d__law_best) rfl
  have m18 := He.glo_ok X G (c.fact 18 (f := .glo "_law_best") rfl)
  obtain ⟨fd19, F19⟩ := c.def_ 19 (d := d__law_sums) rfl
  have m19 := He.glo_ok X G (c.fact 19 (f := .glo "_law_sums") rfl)
  obtain ⟨fd20, F20⟩ := c.def_ 20 (d := d_law) rfl
  have m20 := He.glo_ok X G (c.fact 20 (f := .glo "law") rfl)
  have hd : ∀ i fe, fes[i]? = some fe → DefOk (wr K) Pr mg fes glo free i fe := by
    intro i fe h
    match i, h with
    | 0, h => cases h; exact k_is_integer m0 F0
    | 1, h => cases h; exact k_is_within m1 F1
    | 2, h => cases h; exact k_is_row m2 F2
    | 3, h => cases h; exact k_is_tuple_of m3 F3
    | 4, h => cases h; exact k_is_name m4 F4
    | 5, h => cases h; exact k_is_reward m5 F5
    | 6, h => cases h; exact k_checked_list m6 F6
    | 7, h => cases h; exact k_check_points m7 F7
    | 8, h => cases h; exact k_best_rows m8 F8
    | 9, h => cases h; exact k_best_discount m9 F9
    | 10, h => cases h; exact k_best_basket m10 F10
    | 11, h => cases h; exact k__law_taken m11 F11
    | 12, h => cases h; exact k__law_pick m12 F12
    | 13, h => cases h; exact k__law_alike m13 F13
    | 14, h => cases h; exact k__law_name m14 F14
    | 15, h => cases h; exact k__law_names m15 F15
    | 16, h => cases h; exact k__law_list m16 F16
    | 17, h => cases h; exact k__law_given m17 F17
    | 18, h => cases h; exact k__law_best m18 F18
    | 19, h => cases h; exact k__law_sums m19 F19
    | 20, h => cases h; exact k_law m20 F20
    | n + 21, h => cases h
  have hfree : ∀ x ∈ free, mg x = none := by
    intro x hx
    simp only [free, List.mem_cons, List.not_mem_nil, or_false] at hx
    rcases hx with h | h | h | h | h | h | h | h | h | h | h | h | h
    · subst h; exact He.free_ok X G (c.fact 27 (f := .free "all") rfl)
    · subst h; exact He.free_ok X G (c.fact 28 (f := .free "bool") rfl)
    · subst h; exact He.free_ok X G (c.fact 29 (f := .free "dict") rfl)
    · subst h; exact He.free_ok X G (c.fact 30 (f := .free "enumerate") rfl)
    · subst h; exact He.free_ok X G (c.fact 31 (f := .free "int") rfl)
    · subst h; exact He.free_ok X G (c.fact 32 (f := .free "isinstance") rfl)
    · subst h; exact He.free_ok X G (c.fact 33 (f := .free "len") rfl)
    · subst h; exact He.free_ok X G (c.fact 34 (f := .free "list") rfl)
    · subst h; exact He.free_ok X G (c.fact 35 (f := .free "max") rfl)
    · subst h; exact He.free_ok X G (c.fact 36 (f := .free "range") rfl)
    · subst h; exact He.free_ok X G (c.fact 37 (f := .free "sorted") rfl)
    · subst h; exact He.free_ok X G (c.fact 38 (f := .free "str") rfl)
    · subst h; exact He.free_ok X G (c.fact 39 (f := .free "tuple") rfl)
  have hglo : ∀ p ∈ glo, ∃ v u, mg p.1 = some u ∧ RelV v u ∧ ∀ F : Hp, DR (wr K) F p.2 v := by
    intro p hp
    simp only [glo, List.mem_cons, List.not_mem_nil, or_false] at hp
    rcases hp with h | h | h | h | h | h
    · subst h; obtain ⟨t, e⟩ := He.str_ok X G (c.fact 21 (f := .str "LETTERS" "abcdefghijklmnopqrstuvwxyz") rfl); exact ⟨.str "abcdefghijklmnopqrstuvwxyz", _, e, ⟨t, rfl⟩, fun F => by simp only [DR]; exact ⟨trivial, by decide +kernel⟩⟩
    · subst h; obtain ⟨t, e⟩ := He.int_ok X G (c.fact 22 (f := .int "MOST_DISCOUNT" 10000) rfl); exact ⟨.int 10000, _, e, ⟨t, rfl⟩, fun F => by simp only [DR]⟩
    · subst h; obtain ⟨t, e⟩ := He.int_ok X G (c.fact 23 (f := .int "MOST_NAME" 8) rfl); exact ⟨.int 8, _, e, ⟨t, rfl⟩, fun F => by simp only [DR]⟩
    · subst h; obtain ⟨t, e⟩ := He.int_ok X G (c.fact 24 (f := .int "MOST_POINTS" 500) rfl); exact ⟨.int 500, _, e, ⟨t, rfl⟩, fun F => by simp only [DR]⟩
    · subst h; obtain ⟨t, e⟩ := He.int_ok X G (c.fact 25 (f := .int "MOST_PRICE" 200) rfl); exact ⟨.int 200, _, e, ⟨t, rfl⟩, fun F => by simp only [DR]⟩
    · subst h; obtain ⟨t, e⟩ := He.int_ok X G (c.fact 26 (f := .int "MOST_REWARDS" 12) rfl); exact ⟨.int 12, _, e, ⟨t, rfl⟩, fun F => by simp only [DR]⟩
  refine ⟨fd20, fun s v => (FunD.bindsA (ps := ["script"]) F20 fun _ _ _ _ _ _ us hl => match us, hl with | [_], _ => rfl) s [v] rfl, fun base => ?_⟩
  exact fn_step (w := wr K) (P := Pr) (fn := f_law) hfree hglo (level_ok hfree hglo hd lev) rfl rfl F20 sc_law rfl rfl c_law
end Pd
open PySem PySem.W PySem.Calls PyProof.Rows
set_option maxRecDepth 100000 in
set_option maxHeartbeats 0 in
theorem PySem.Challenge.cw_noidlegain_k55_whole_best_baskets_holds : PySem.Challenge.rw_noidlegain_k55_whole_best_baskets.Holds := by
  w_on; o_law
  refine HandSHeadRun.head_any (r := OpenLaw.row PySem.Challenge.rw_noidlegain_k55_whole_best_baskets) (q := view (OpenLaw.row PySem.Challenge.rw_noidlegain_k55_whole_best_baskets).prog [34]) (H := Pd.hk) (ob := Pd.ob) (M := 20000) (loose := Pd.loose) (d := HandSHeadRun.topDef (OpenLaw.row PySem.Challenge.rw_noidlegain_k55_whole_best_baskets).prog 34) (kwd := []) Pd.ob_eq
    (by kernel_rfl) (fun s => by kernel_rfl) Pd.run (by kernel_rfl) (by kernel_rfl) (by kernel_rfl) (by rfl) (by first | assumption | decide +kernel) (by decide +kernel) ⟨rfl, rfl, rfl, rfl, rfl, by decide +kernel⟩ ?hw ?hc
  case hw => w_witness2
  case hc =>
    refine Pd.walk_ofW (l := PySem.Challenge.rw_noidlegain_k55_whole_best_baskets) (most := 63) (k := Pd.level + 1) (x := "script") (CX := fun wd => L2.CX (PySem.Challenge.rw_noidlegain_k55_whole_best_baskets).prog wd) rfl (by decide) (by kernel_rfl) ⟨rfl, by decide, by decide⟩ ?F (fun _ _ _ _ _ z => Pd.CX_no z)
    intro wd mg fa h Y G hmg0
    obtain ⟨K, KX, c⟩ := Y
    have hmg : mg ("law" : PySem.Str) = some (.ref fa) := by
      have e : (HandSHeadRun.topDef (OpenLaw.row PySem.Challenge.rw_noidlegain_k55_whole_best_baskets).prog 34).name = ("law" : PySem.Str) := by kernel_rfl
      rw [← e]
      exact hmg0
    have e := hmg.symm.trans (He.glo_ok KX G (c.fact 20 (f := .glo "law") rfl))
    cases e
    obtain ⟨fd, hb, hF⟩ := Pd.facts (prog := (PySem.Challenge.rw_noidlegain_k55_whole_best_baskets).prog) (wd := wd) Pd.level KX G c
    exact ⟨K, fd, _, KX, hb, fun H a ns hl _ hS => Pd.sp_law hS (Pd.law_true ns hl), fun base _ _ => hF base⟩
