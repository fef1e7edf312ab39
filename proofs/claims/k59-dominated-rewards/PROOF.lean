import PyProof.Rows.All
import HandS.ForMost
import HandS.Exc
import HandS.ExcInit
import HandS.Wide
import HandS.Deep
import HandS.TupAny
import HandS.SortInts
import HandS.IsInst
import HandS.CallSlots
import HandS.Zip
import HandS.More
import KE.GoesEnum
import HandS.Flow
import HandS.Style
import HandS.Defaults
import HandS.Ends
import HandS.HeadHook2
import HandS.Head0
import HandS.Head1
import HandS.Head2
import HandS.HeadEnd
import HandS.HeadHook1
import KE.KStateDown
import Wide.All
import OpenK.AllK
import Wide.FinOn
import PySem.Challenge.RW_noidlegain_k59_dominated_rewards
set_option Elab.async false
set_option linter.all false
set_option maxRecDepth 100000
set_option maxHeartbeats 4000000
/-! Pd1: plain data, a small language for defs, its evaluator. No machine in sight. -/
namespace Pd
open PySem PySem.Spec PyProof.Rows L2

/-- plain data -/
inductive D where
  | non | bl (b : Bool) | int (i : Int) | str (s : Str)
  | tup (xs : List D) | lst (xs : List D) | dic (kvs : List (D × D))
  | ins (c : Nat) (fs : List (Str × D)) | scr (ns : List Int)
  deriving Inhabited

/-- what a slot holds: data, data of a new object (an expression's outcome only), a cell -/
inductive Vl where
  | d (x : D) | new (x : D) | loc (n : Nat)
  deriving Inhabited
structure Cell where
  live : Bool
  d : D
  deriving Inhabited
abbrev Mem := List Cell
abbrev Vars := List (Option Vl)

inductive R (α : Type) where
  | ok (a : α) (M : Mem) | exc (c : Nat) (fs : List (Str × D)) (M : Mem) | no
def R.bind {α β : Type} (r : R α) (f : α → Mem → R β) : R β := match r with
  | .ok a M => f a M
  | .exc c fs M => .exc c fs M
  | .no => .no
def R.lift {α : Type} (o : Option α) (M : Mem) : R α := match o with
  | some a => .ok a M
  | none => .no
/-- the outcome of a statement -/
inductive RS where
  | nx (v : Vars) (M : Mem) | ret (r : Vl) (M : Mem) | brk (v : Vars) (M : Mem) | cnt (v : Vars) (M : Mem)
  | exc (c : Nat) (fs : List (Str × D)) (v : Vars) (M : Mem) | no
def R.thenS {α : Type} (r : R α) (v : Vars) (f : α → Mem → RS) : RS := match r with
  | .ok a M => f a M
  | .exc c fs M => .exc c fs v M
  | .no => .no
def RS.andThen (r : RS) (f : Vars → Mem → RS) : RS := match r with
  | .nx v M => f v M
  | .ret x M => .ret x M
  | .brk v M => .brk v M
  | .cnt v M => .cnt v M
  | .exc c fs v M => .exc c fs v M
  | .no => .no

inductive Op1 where
  | neg | isN | notN
  deriving DecidableEq
inductive Op2 where
  | add | sub | mul | fdiv | mod | pow | eq | ne | lt | le | gt | ge | inn | nin
  deriving DecidableEq
inductive Bi where
  | len | tuple | list | sum | max | min | abs | sorted | all | any | int | str
  deriving DecidableEq
inductive Bm where
  | append | extend | pop | reverse | insert | index | count | join
  deriving DecidableEq
/-- built-in types and own classes, for isinstance -/
inductive Ty where
  | int | bool | str | list | tuple | dict | cls (c : Nat)
  deriving DecidableEq
/-- targets: a slot; a tuple of targets (a row t0, tc) -/
inductive T where
  | n (i : Nat) | t (r : T) | t0 | tc (a r : T)

/-- expressions; nil and cons for rows of them -/
inductive E where
  | nil | cons (a r : E)
  | var (i : Nat)
  | k (d : D)
  | g (x : Str) (d : D)
  | op1 (o : Op1) (a : E)
  | op2 (o : Op2) (a b : E)
  | chain (o p : Op2) (a b c : E)
  | and (a b : E) | or (a b : E) | not (a : E)
  | ife (c a b : E)
  | tup (as : E) | lst (as : E)
  | idx (a i : E)
  | sl (a lo hi : E)
  | bi (b : Bi) (as : E)
  | bm (m : Bm) (o as : E)
  | call (f : Nat) (as : E)
  | isi (ts : List Ty) (a : E)
  | rng (lo hi : E) | enum (a : E) | zip (a b : E)
  | lc (own : List Nat) (t : T) (it c elt : E)

/-- statements -/
inductive S where
  | skip | seq (a b : S)
  | set (t : T) (e : E)
  | cell (i : Nat) (e : E)
  | par (is : List Nat) (cs : List Bool) (es : E)
  | setix (o i e : E)
  | aug (i : Nat) (o : Op2) (e : E)
  | ex (e : E)
  | ret (e : E) | retn
  | ite (c : E) (a b : S)
  | for (t : T) (it : E) (b : S)
  | whil (c : E) (b : S)
  | raise (c : Nat) (as : E)
  | brk | cnt | nev

/-! ### operations on data -/
def D.ints? : List D → Option (List Int)
  | [] => some []
  | .int i :: r => (D.ints? r).map (i :: ·)
  | _ :: _ => none
def D.strs? : List D → Option (List Str)
  | [] => some []
  | .str i :: r => (D.strs? r).map (i :: ·)
  | _ :: _ => none
def D.bls? : List D → Option (List Bool)
  | [] => some []
  | .bl i :: r => (D.bls? r).map (i :: ·)
  | _ :: _ => none

/-! == of plain data -/
def D.isTrueI (b : Bool) : Int := if b then 1 else 0
mutual
def D.eqv : D → D → Bool
  | .non, .non => true
  | .bl a, .bl b => a == b
  | .bl a, .int j => D.isTrueI a == j
  | .int i, .bl b => i == D.isTrueI b
  | .int i, .int j => i == j
  | .str x, .str y => x == y
  | .lst xs, .lst ys => D.eqvs xs ys
  | .tup xs, .tup ys => D.eqvs xs ys
  | _, _ => false
def D.eqvs : List D → List D → Bool
  | [], [] => true
  | x :: xs, y :: ys => D.eqv x y && D.eqvs xs ys
  | _, _ => false
end
/-! nested at most n deep, without dicts and instances -/
mutual
def D.flat : Nat → D → Bool
  | _, .non | _, .bl _ | _, .int _ | _, .str _ => true
  | n + 1, .lst xs | n + 1, .tup xs => D.flats n xs
  | _, _ => false
def D.flats : Nat → List D → Bool
  | _, [] => true
  | n, x :: xs => D.flat n x && D.flats n xs
end
def D.deep : Nat := 40

/-! the same data -/
mutual
def D.same : D → D → Bool
  | .non, .non => true
  | .bl a, .bl b => a == b
  | .int i, .int j => i == j
  | .str x, .str y => x == y
  | .lst xs, .lst ys => D.sames xs ys
  | .tup xs, .tup ys => D.sames xs ys
  | .dic xs, .dic ys => D.samek xs ys
  | .ins c xs, .ins d ys => c == d && D.samef xs ys
  | .scr a, .scr b => a == b
  | _, _ => false
def D.sames : List D → List D → Bool
  | [], [] => true
  | x :: xs, y :: ys => D.same x y && D.sames xs ys
  | _, _ => false
def D.samek : List (D × D) → List (D × D) → Bool
  | [], [] => true
  | (a, x) :: xs, (b, y) :: ys => D.same a b && (D.same x y && D.samek xs ys)
  | _, _ => false
def D.samef : List (Str × D) → List (Str × D) → Bool
  | [], [] => true
  | (a, x) :: xs, (b, y) :: ys => a == b && (D.same x y && D.samef xs ys)
  | _, _ => false
end

def D.truth : D → Option Bool
  | .non => some false
  | .bl b => some b
  | .int i => some (i != 0)
  | .str s => some (s.length != 0)
  | .lst xs => some (!xs.isEmpty)
  | .tup xs => some (!xs.isEmpty)
  | _ => none

def op1 : Op1 → D → Option Vl
  | .neg, .int i => some (.d (.int (-i)))
  | .isN, .non => some (.d (.bl true))
  | .isN, _ => some (.d (.bl false))
  | .notN, .non => some (.d (.bl false))
  | .notN, _ => some (.d (.bl true))
  | _, _ => none

def mulOk (i j : Int) : Bool := decide (i.natAbs.log2 + j.natAbs.log2 < 1000000)
def divOk (j : Int) : Bool := decide (0 < j) && decide (j.natAbs.log2 < 9000)
def powOk (i j : Int) : Bool := decide (0 ≤ j) && (decide (j ≤ 1000000) && decide (i.natAbs < 2 ^ 64))
def bool2 (b : Bool) : Option Vl := some (.d (.bl b))
def strLt (x y : Str) : Bool := decide (x.cps.toList < y.cps.toList)
def inStr (x y : Str) : Bool := !(Builtin.Str.occurrences y x 0 y.length 1).isEmpty
def cmpI : Op2 → Int → Int → Option Bool
  | .lt, i, j => some (decide (i < j))
  | .le, i, j => some (decide (i ≤ j))
  | .gt, i, j => some (decide (j < i))
  | .ge, i, j => some (decide (j ≤ i))
  | _, _, _ => none
def cmpS : Op2 → Str → Str → Option Bool
  | .lt, i, j => some (strLt i j)
  | .le, i, j => some (!strLt j i)
  | .gt, i, j => some (strLt j i)
  | .ge, i, j => some (!strLt i j)
  | _, _, _ => none
def opII : Op2 → Int → Int → Option Vl
  | .add, i, j => some (.d (.int (i + j)))
  | .sub, i, j => some (.d (.int (i - j)))
  | .mul, i, j => if mulOk i j then some (.d (.int (i * j))) else none
  | .fdiv, i, j => if divOk j then some (.d (.int (i / j))) else none
  | .mod, i, j => if 0 < j then some (.d (.int (i % j))) else none
  | .pow, i, j => if powOk i j then some (.d (.int (i ^ j.toNat))) else none
  | .eq, i, j => bool2 (i == j)
  | .ne, i, j => bool2 (!(i == j))
  | o, i, j => (cmpI o i j).bind bool2
def op2 : Op2 → D → D → Option Vl
  | o, .int i, .int j => opII o i j
  | .add, .str x, .str y => if x.length + y.length ≤ sizeLine then some (.d (.str (x ++ y))) else none
  | .add, .lst xs, .lst ys => if xs.length + ys.length ≤ sizeLine then some (.new (.lst (xs ++ ys))) else none
  | .add, .tup xs, .tup ys => if !xs.isEmpty && decide (xs.length + ys.length ≤ sizeLine) then some (.d (.tup (xs ++ ys))) else none
  | .mul, .lst xs, .int k => if decide (-(2 ^ 63) ≤ k) && (decide (k < 2 ^ 63) && decide (xs.length * k.toNat ≤ sizeLine)) then some (.new (.lst (List.replicate k.toNat xs).flatten)) else none
  | .eq, x, y => if D.flat D.deep x && D.flat D.deep y then bool2 (D.eqv x y) else none
  | .ne, x, y => if D.flat D.deep x && D.flat D.deep y then bool2 (!D.eqv x y) else none
  | .inn, .str x, .str y => bool2 (inStr x y)
  | .nin, .str x, .str y => bool2 (!inStr x y)
  | .inn, x, .lst ys => if D.flat D.deep x && D.flats D.deep ys then bool2 (ys.any fun y => D.eqv y x) else none
  | .nin, x, .lst ys => if D.flat D.deep x && D.flats D.deep ys then bool2 (!ys.any fun y => D.eqv y x) else none
  | .inn, x, .tup ys => if D.flat 0 x && D.flats 0 ys then bool2 (ys.any fun y => D.eqv y x) else none
  | .nin, x, .tup ys => if D.flat 0 x && D.flats 0 ys then bool2 (!ys.any fun y => D.eqv y x) else none
  | o, .str x, .str y => (cmpS o x y).bind bool2
  | _, _, _ => none

/-- xs[i] -/
def ixD (xs : List D) (i : Int) : Option Vl := (atI xs i).map Vl.d
def idx : D → D → Option Vl
  | .lst xs, .int i => ixD xs i
  | .tup xs, .int i => ixD xs i
  | .scr ns, .int i => (atI ns i).map fun n => Vl.d (.int n)
  | .str z, .int i => (atI z.cps.toList i).map fun c => Vl.d (.str ⟨#[c]⟩)
  | _, _ => none
/-- xs[lo:hi] -/
def cutD {α : Type} (xs : List α) (lo hi : Option Int) : List α := (xs.drop (HT.sIx xs.length 0 lo)).take (HT.sIx xs.length xs.length hi - HT.sIx xs.length 0 lo)
def slice : D → Option Int → Option Int → Option Vl
  | .lst xs, lo, hi => some (.new (.lst (cutD xs lo hi)))
  | .tup xs, lo, hi => some (.d (.tup (cutD xs lo hi)))
  | .str z, lo, hi => some (.d (.str ⟨(cutD z.cps.toList lo hi).toArray⟩))
  | _, _, _ => none

/-- insertion into a sorted row -/
def insI (x : Int) : List Int → List Int
  | [] => [x]
  | y :: r => if x ≤ y then x :: y :: r else y :: insI x r
def isortI : List Int → List Int
  | [] => []
  | x :: r => insI x (isortI r)
def insS (x : Str) : List Str → List Str
  | [] => [x]
  | y :: r => if strLt y x then y :: insS x r else x :: y :: r
def isortS : List Str → List Str
  | [] => []
  | x :: r => insS x (isortS r)
def maxL : List Int → Int
  | [] => 0
  | x :: r => r.foldl (fun a b => if a < b then b else a) x
def minL : List Int → Int
  | [] => 0
  | x :: r => r.foldl (fun a b => if b < a then b else a) x

def bi : Bi → List D → Option Vl
  | .len, [.lst xs] => some (.d (.int xs.length))
  | .len, [.tup xs] => some (.d (.int xs.length))
  | .len, [.scr xs] => some (.d (.int xs.length))
  | .len, [.str z] => some (.d (.int z.length))
  | .tuple, [.lst xs] => some (.d (.tup xs))
  | .tuple, [.tup xs] => some (.d (.tup xs))
  | .list, [.lst xs] => some (.new (.lst xs))
  | .list, [.tup xs] => some (.new (.lst xs))
  | .sum, [.lst xs] => (D.ints? xs).map fun ns => .d (.int ns.sum)
  | .max, [.lst xs] => (D.ints? xs).bind fun ns => if ns.isEmpty then none else some (.d (.int (maxL ns)))
  | .min, [.lst xs] => (D.ints? xs).bind fun ns => if ns.isEmpty then none else some (.d (.int (minL ns)))
  | .max, [.int i, .int j] => some (.d (.int (if j > i then j else i)))
  | .min, [.int i, .int j] => some (.d (.int (if j < i then j else i)))
  | .abs, [.int i] => some (.d (.int (if i < 0 then -i else i)))
  | .sorted, [.lst []] => some (.new (.lst []))
  | .sorted, [.lst (.int i :: xs)] => (D.ints? xs).map fun ns => .new (.lst ((isortI (i :: ns)).map .int))
  | .sorted, [.lst (.str i :: xs)] => (D.strs? xs).bind fun ns => if ns.length < 63 then some (.new (.lst ((isortS (i :: ns)).map .str))) else none
  | .all, [.lst xs] => (D.bls? xs).map fun bs => .d (.bl (bs.all id))
  | .any, [.lst xs] => (D.bls? xs).map fun bs => .d (.bl (bs.any id))
  | .int, [.int i] => some (.d (.int i))
  | .int, [.bl b] => some (.d (.int (D.isTrueI b)))
  | _, _ => none

/-- methods that change a list: the list behind, the outcome -/
def bmM : Bm → List D → List D → Option (List D × D)
  | .append, xs, [y] => if xs.length < sizeLine then some (xs ++ [y], .non) else none
  | .extend, xs, [.lst ys] => if xs.length + ys.length ≤ sizeLine then some (xs ++ ys, .non) else none
  | .pop, xs, [] => (xs[xs.length - 1]?).map fun y => (xs.dropLast, y)
  | .pop, xs, [.int i] => if decide (-(2 ^ 63) ≤ i) && decide (i < 2 ^ 63) then (seqIndex? i xs.length).bind fun k => (xs[k]?).map fun y => (xs.eraseIdx k, y) else none
  | .reverse, xs, [] => some (xs.reverse, .non)
  | .insert, xs, [.int i, y] => if decide (xs.length < sizeLine) && (decide (0 ≤ i) && decide (i < 2 ^ 63)) then some (xs.take i.toNat ++ [y] ++ xs.drop i.toNat, .non) else none
  | _, _, _ => none
def Bm.mut : Bm → Bool
  | .append | .extend | .pop | .reverse | .insert => true
  | _ => false
def findD (y : D) (xs : List D) : Option Nat := xs.findIdx? fun x => D.eqv x y
def ixP : D → List D → Option Vl
  | .lst xs, [y] => if D.flat D.deep y && D.flats D.deep xs then (findD y xs).map fun (k : Nat) => Vl.d (.int (k : Int)) else none
  | _, _ => none
def cntP : D → List D → Option Vl
  | .lst xs, [y] => if D.flat D.deep y && D.flats D.deep xs then some (.d (.int ((xs.countP fun x => D.eqv x y : Nat) : Int))) else none
  | _, _ => none
def joinP : D → List D → Option Vl
  | .str a, [.lst xs] => (D.strs? xs).bind fun ys => if (ys.map (·.length)).sum + ys.length * a.length ≤ 16777216 then some (.d (.str (Str.join a ys))) else none
  | _, _ => none
def bmP : Bm → D → List D → Option Vl
  | .index => ixP
  | .count => cntP
  | .join => joinP
  | _ => fun _ _ => none

def Ty.has : Ty → D → Bool
  | .int, .int _ | .int, .bl _ | .bool, .bl _ | .str, .str _ | .list, .lst _ | .tuple, .tup _ | .dict, .dic _ => true
  | .cls c, .ins c' _ => c == c'
  | _, _ => false
def D.plainTy : D → Bool
  | .non | .bl _ | .int _ | .str _ | .lst _ | .tup _ | .dic _ => true
  | _ => false
def isi (ts : List Ty) (x : D) : Option Vl := if x.plainTy then some (.d (.bl (ts.any fun t => t.has x))) else none

/-! ### cells -/
def der (M : Mem) : Vl → Option D
  | .d x => some x
  | .new x => some x
  | .loc n => (M[n]?).map (·.d)
def frz : Vl → Vl
  | .new x => .d x
  | v => v
/-- as data: a cell is frozen -/
def toD (M : Mem) : Vl → Option (D × Mem)
  | .d x => some (x, M)
  | .new x => some (x, M)
  | .loc n => match M[n]? with
    | some c => some (c.d, M.set n ⟨false, c.d⟩)
    | none => none
def toDs : Mem → List Vl → Option (List D × Mem)
  | M, [] => some ([], M)
  | M, v :: r => (toD M v).bind fun p => (toDs p.2 r).map fun q => (p.1 :: q.1, q.2)
def ders (M : Mem) : List Vl → Option (List D)
  | [] => some []
  | v :: r => (der M v).bind fun x => (ders M r).map (x :: ·)
/-- a changing method upon a live cell -/
def mutate (m : Bm) (M : Mem) (o : Vl) (as : List D) : R Vl := match o with
  | .loc n => match M[n]? with
    | some ⟨true, .lst xs⟩ => match bmM m xs as with
      | some (ys, r) => .ok (.d r) (M.set n ⟨true, .lst ys⟩)
      | none => .no
    | _ => .no
  | _ => .no

/-! ### targets -/
mutual
def bindT : T → D → Vars → Option Vars
  | .n i, x, v => if i < v.length then some (v.set i (some (.d x))) else none
  | .t r, .tup xs, v => bindTs r xs v
  | _, _, _ => none
def bindTs : T → List D → Vars → Option Vars
  | .t0, [], v => some v
  | .tc a r, x :: xs, v => (bindT a x v).bind fun v1 => bindTs r xs v1
  | _, _, _ => none
end
end Pd

/-! Pd2: the evaluator. -/
namespace Pd
open PySem PySem.Spec PyProof.Rows L2

/-- live cells that are walked stay as they are -/
abbrev Gd := List (Nat × Cell)
def chk1 (M : Mem) (g : Nat × Cell) : Bool := match M[g.1]? with
  | some c => c.live && D.same g.2.d c.d
  | none => false
def chkG (g : Gd) (M : Mem) : Bool := g.all (chk1 M)
def chars (z : Str) : List D := z.cps.toList.map fun c => D.str ⟨#[c]⟩
/-- lists and tuples: is it a tuple, its items, what must stay -/
def seqOf (M : Mem) : Vl → Option (Bool × List D × Gd)
  | .d (.lst xs) | .new (.lst xs) => some (false, xs, [])
  | .d (.tup xs) => some (true, xs, [])
  | .loc n => match M[n]? with
    | some ⟨l, .lst xs⟩ => some (false, xs, if l then [(n, ⟨l, .lst xs⟩)] else [])
    | _ => none
  | _ => none
/-- the items of what is walked -/
def iterOf (M : Mem) : Vl → Option (List D × Gd)
  | .d (.str z) => some (chars z, [])
  | x => (seqOf M x).map (·.2)
def rangeD (lo hi : Int) : List D := (List.range (hi - lo).toNat).map fun (k : Nat) => D.int (lo + (k : Int))
def rngOk (lo hi : Int) : Bool := decide (-(2 ^ 62) ≤ lo) && (decide (lo < 2 ^ 62) && (decide (-(2 ^ 62) ≤ hi) && (decide (hi < 2 ^ 62) && decide ((hi - lo).toNat ≤ sizeLine))))
def enumFrom (k : Nat) : List D → List D
  | [] => []
  | x :: r => .tup [.int k, x] :: enumFrom (k + 1) r
def zipD : List D → List D → List D
  | x :: xs, y :: ys => .tup [x, y] :: zipD xs ys
  | _, _ => []

/-- what an expression does: as a value, as a row, as a row with cells, as a test, as what is walked -/
structure Den where
  v : Vars → Mem → R Vl
  a : Vars → Mem → R (List Vl)
  p : List Bool → Vars → Mem → R (List Vl)
  t : Vars → Mem → R Bool
  i : Vars → Mem → R (List D × Gd)
def Den.ofV (v : Vars → Mem → R Vl) : Den where
  v := v
  a := fun _ _ => .no
  p := fun _ _ _ => .no
  t := fun vs M => (v vs M).bind fun x M1 => R.lift ((der M1 x).bind D.truth) M1
  i := fun vs M => (v vs M).bind fun x M1 => R.lift (iterOf M1 (frz x)) M1
def Den.none : Den := ⟨fun _ _ => .no, fun _ _ => .no, fun _ _ _ => .no, fun _ _ => .no, fun _ _ => .no⟩

def asCell (M : Mem) : Vl → R Vl
  | .new x => .ok (.loc M.length) (M ++ [⟨true, x⟩])
  | _ => .no
def wipeV (v : Vars) : List Nat → Vars
  | [] => v
  | i :: r => (wipeV v r).set i none
/-- a comprehension's turns -/
def lcGo (t : T) (g : Gd) (c : Vars → Mem → R Bool) (e : Vars → Mem → R Vl) (vs : Vars) : List D → Mem → R (List D)
  | [], M => if chkG g M then .ok [] M else .no
  | x :: r, M => if chkG g M then (match bindT t x vs with
    | none => .no
    | some v1 => match c v1 M with
      | .ok true M1 => (match e v1 M1 with
        | .ok y M2 => (match toD M2 y with
          | some (yd, M3) => (match lcGo t g c e vs r M3 with
            | .ok ys M4 => .ok (yd :: ys) M4
            | _ => .no)
          | none => .no)
        | _ => .no)
      | .ok false M1 => lcGo t g c e vs r M1
      | _ => .no) else .no
def isTrueE : E → Bool
  | .nil => true
  | _ => false
def optI : R Vl → Bool → Mem → R (Option Int)
  | _, true, M => .ok Option.none M
  | r, false, _ => r.bind fun x M1 => match x with
    | .d (.int i) => .ok (some i) M1
    | _ => .no
def bmTy (m : Bm) : Option D → Bool
  | some (.lst _) => m != .join
  | some (.str _) => m == .join
  | _ => false
def asB : Vl → Option Bool
  | .d (.bl b) => some b
  | _ => none

def den (C : Nat → List Vl → Mem → R Vl) : E → Den
  | .nil => { Den.none with a := fun _ M => .ok [] M, p := fun cs _ M => match cs with
      | [] => .ok [] M
      | _ => .no }
  | .cons x r => { Den.none with
      a := fun vs M => ((den C x).v vs M).bind fun y M1 => ((den C r).a vs M1).bind fun ys M2 => .ok (frz y :: ys) M2
      p := fun cs vs M => match cs with
        | [] => .no
        | c :: cs => ((den C x).v vs M).bind fun y M1 => (if c then asCell M1 y else .ok (frz y) M1).bind fun z M2 => ((den C r).p cs vs M2).bind fun zs M3 => .ok (z :: zs) M3 }
  | .var i => .ofV fun vs M => match vs[i]? with
      | some (some x) => .ok x M
      | _ => .no
  | .k d => .ofV fun _ M => .ok (.d d) M
  | .g _ d => .ofV fun _ M => .ok (.d d) M
  | .op1 o a => .ofV fun vs M => ((den C a).v vs M).bind fun x M1 => R.lift ((der M1 x).bind (op1 o)) M1
  | .op2 o a b => .ofV fun vs M => ((den C a).v vs M).bind fun x M1 => ((den C b).v vs M1).bind fun y M2 => R.lift ((der M2 x).bind fun x => (der M2 y).bind fun y => op2 o x y) M2
  | .chain o p a b c => .ofV fun vs M => ((den C a).v vs M).bind fun x M1 => ((den C b).v vs M1).bind fun y M2 =>
      match (der M2 x).bind fun x => (der M2 y).bind fun y => (op2 o x y).bind asB with
      | some true => ((den C c).v vs M2).bind fun z M3 => R.lift ((der M3 y).bind fun y => (der M3 z).bind fun z => op2 p y z) M3
      | some false => .ok (.d (.bl false)) M2
      | none => .no
  | .and a b => { Den.ofV (fun vs M => ((den C a).v vs M).bind fun x M1 => match asB x with
        | some true => (den C b).v vs M1
        | some false => .ok (.d (.bl false)) M1
        | none => .no) with
      t := fun vs M => ((den C a).t vs M).bind fun x M1 => if x then (den C b).t vs M1 else .ok false M1 }
  | .or a b => { Den.ofV (fun vs M => ((den C a).v vs M).bind fun x M1 => match asB x with
        | some false => (den C b).v vs M1
        | some true => .ok (.d (.bl true)) M1
        | none => .no) with
      t := fun vs M => ((den C a).t vs M).bind fun x M1 => if x then .ok true M1 else (den C b).t vs M1 }
  | .not a => { Den.ofV (fun vs M => ((den C a).v vs M).bind fun x M1 => match (der M1 x).bind D.truth with
        | some b => .ok (.d (.bl (!b))) M1
        | none => .no) with
      t := fun vs M => ((den C a).t vs M).bind fun x M1 => .ok (!x) M1 }
  | .ife c a b => .ofV fun vs M => ((den C c).t vs M).bind fun x M1 => if x then (den C a).v vs M1 else (den C b).v vs M1
  | .tup as => .ofV fun vs M => ((den C as).a vs M).bind fun xs M1 => match toDs M1 xs with
      | some (ds, M2) => if ds.length ≤ 1000 then .ok (.d (.tup ds)) M2 else .no
      | none => .no
  | .lst as => .ofV fun vs M => ((den C as).a vs M).bind fun xs M1 => match toDs M1 xs with
      | some (ds, M2) => if ds.length ≤ 1000 then .ok (.new (.lst ds)) M2 else .no
      | none => .no
  | .idx a i => .ofV fun vs M => ((den C a).v vs M).bind fun x M1 => ((den C i).v vs M1).bind fun y M2 => R.lift ((der M2 x).bind fun x => (der M2 y).bind fun y => idx x y) M2
  | .sl a lo hi => .ofV fun vs M => ((den C a).v vs M).bind fun x M1 => (optI ((den C lo).v vs M1) (isTrueE lo) M1).bind fun l M2 => (optI ((den C hi).v vs M2) (isTrueE hi) M2).bind fun u M3 =>
      R.lift ((der M3 x).bind fun x => slice x l u) M3
  | .bi b as => .ofV fun vs M => ((den C as).a vs M).bind fun xs M1 => R.lift ((ders M1 xs).bind fun ds => bi b ds) M1
  | .bm m o as => .ofV fun vs M => ((den C o).v vs M).bind fun x M1 => if bmTy m (der M1 x) then (((den C as).a vs M1).bind fun xs M2 =>
      if m.mut then (match toDs M2 xs with
        | some (ds, M3) => mutate m M3 (frz x) ds
        | none => .no)
      else R.lift ((der M2 x).bind fun x => (ders M2 xs).bind fun ds => bmP m x ds) M2) else .no
  | .call f as => .ofV fun vs M => ((den C as).a vs M).bind fun xs M1 => C f xs M1
  | .isi ts a => .ofV fun vs M => ((den C a).v vs M).bind fun x M1 => R.lift ((der M1 x).bind (isi ts)) M1
  | .rng lo hi => { Den.none with i := fun vs M => ((den C lo).v vs M).bind fun x M1 => ((den C hi).v vs M1).bind fun y M2 => match x, y with
      | .d (.int l), .d (.int h) => if rngOk l h then .ok (rangeD l h, []) M2 else .no
      | _, _ => .no }
  | .enum a => { Den.none with i := fun vs M => ((den C a).v vs M).bind fun x M1 => R.lift ((seqOf M1 (frz x)).map fun p => (enumFrom 0 p.2.1, p.2.2)) M1 }
  | .zip a b => { Den.none with i := fun vs M => ((den C a).v vs M).bind fun x M1 => ((den C b).v vs M1).bind fun y M2 => R.lift ((seqOf M2 (frz x)).bind fun p => (seqOf M2 (frz y)).bind fun q => if p.1 == q.1 then some (zipD p.2.1 q.2.1, p.2.2 ++ q.2.2) else none) M2 }
  | .lc own t it c e => .ofV fun vs M => ((den C it).i vs M).bind fun xs M1 =>
      match lcGo t xs.2 (if isTrueE c then fun _ M => .ok true M else (den C c).t) (den C e).v (wipeV vs own) xs.1 M1 with
      | .ok ys M2 => .ok (.new (.lst ys)) M2
      | _ => .no

/-! ### statements -/
def setAll (v : Vars) : List Nat → List Vl → Option Vars
  | [], [] => some v
  | i :: is, x :: xs => if i < v.length then setAll (v.set i (some x)) is xs else none
  | _, _ => none
def forGo (t : T) (g : Gd) (b : Vars → Mem → RS) : List D → Vars → Mem → RS
  | [], v, M => if chkG g M then .nx v M else .no
  | x :: r, v, M => if chkG g M then (match bindT t x v with
    | none => .no
    | some v1 => match b v1 M with
      | .nx v2 M2 => forGo t g b r v2 M2
      | .cnt v2 M2 => forGo t g b r v2 M2
      | .brk v2 M2 => .nx v2 M2
      | o => o) else .no
def whGo (c : Vars → Mem → R Bool) (b : Vars → Mem → RS) : Nat → Vars → Mem → RS
  | 0, _, _ => .no
  | n + 1, v, M => (c v M).thenS v fun x M1 => if x then (match b v M1 with
      | .nx v2 M2 => whGo c b n v2 M2
      | .cnt v2 M2 => whGo c b n v2 M2
      | .brk v2 M2 => .nx v2 M2
      | o => o) else .nx v M1
def setIx (M : Mem) (o : Vl) (i y : D) : Option Mem := match o, i with
  | .loc n, .int k => match M[n]? with
    | some ⟨true, .lst xs⟩ => (ixN xs.length k).bind fun j => if j < xs.length then some (M.set n ⟨true, .lst (xs.set j y)⟩) else none
    | _ => none
  | _, _ => none
def augOk : Op2 → D → D → Bool
  | .add, .int _, .int _ | .sub, .int _, .int _ | .mul, .int _, .int _ => true
  | _, _, _ => false
structure Sm where
  C : Nat → List Vl → Mem → R Vl
  W : Nat
  X : Nat → List Str
def exFields : List Str → List D → Option (List (Str × D))
  | [], [] => some []
  | f :: fs, x :: xs => (exFields fs xs).map ((f, x) :: ·)
  | _, _ => none
def evS (Z : Sm) : S → Vars → Mem → RS
  | .skip, v, M => .nx v M
  | .seq a b, v, M => (evS Z a v M).andThen fun v M => evS Z b v M
  | .set t e, v, M => ((den Z.C e).v v M).thenS v fun x M1 => match t with
      | .n i => if i < v.length then .nx (v.set i (some (frz x))) M1 else .no
      | t => match frz x with
        | .d x => (match bindT t x v with
          | some v1 => .nx v1 M1
          | none => .no)
        | _ => .no
  | .cell i e, v, M => ((den Z.C e).v v M).thenS v fun x M1 => match asCell M1 x with
      | .ok y M2 => if i < v.length then .nx (v.set i (some y)) M2 else .no
      | _ => .no
  | .par is cs es, v, M => ((den Z.C es).p cs v M).thenS v fun xs M1 => match setAll v is xs with
      | some v1 => .nx v1 M1
      | none => .no
  | .setix o i e, v, M => ((den Z.C e).v v M).thenS v fun y M1 => match toD M1 y with
      | some (yd, M2) => ((den Z.C o).v v M2).thenS v fun x M3 => ((den Z.C i).v v M3).thenS v fun k M4 => match k with
        | .d kd => (match setIx M4 x kd yd with
          | some M5 => .nx v M5
          | none => .no)
        | _ => .no
      | none => .no
  | .aug i o e, v, M => match v[i]? with
      | some (some (.d x)) => ((den Z.C e).v v M).thenS v fun y M1 => match y with
        | .d y => if augOk o x y then (match op2 o x y with
          | some z => .nx (v.set i (some z)) M1
          | none => .no) else .no
        | _ => .no
      | _ => .no
  | .ex e, v, M => ((den Z.C e).v v M).thenS v fun _ M1 => .nx v M1
  | .ret e, v, M => ((den Z.C e).v v M).thenS v fun x M1 => .ret x M1
  | .retn, _, M => .ret (.d .non) M
  | .ite c a b, v, M => ((den Z.C c).t v M).thenS v fun x M1 => if x then evS Z a v M1 else evS Z b v M1
  | .for t it b, v, M => ((den Z.C it).i v M).thenS v fun xs M1 => forGo t xs.2 (evS Z b) xs.1 v M1
  | .whil c b, v, M => whGo (den Z.C c).t (evS Z b) Z.W v M
  | .raise c as, v, M => ((den Z.C as).a v M).thenS v fun xs M1 => match toDs M1 xs with
      | some (ds, M2) => (match exFields (Z.X c) ds with
        | some fs => .exc c fs v M2
        | none => .no)
      | none => .no
  | .brk, v, M => .brk v M
  | .cnt, v, M => .cnt v M
  | .nev, _, _ => .no

/-! ### defs -/
structure Fn where
  np : Nat
  dfl : List D
  ns : Nat
  body : S
structure Pg where
  fns : List Fn
  exs : List (List Str)
  W : Nat
def Pg.X (P : Pg) (c : Nat) : List Str := P.exs.getD c []
def finish (base : Nat) : RS → R Vl
  | .nx _ M => .ok (.d .non) (M.take base)
  | .ret (.loc n) M => if n < base then .ok (.loc n) (M.take base) else match M[n]? with
    | some c => .ok (if c.live then .new c.d else .d c.d) (M.take base)
    | none => .no
  | .ret x M => .ok x (M.take base)
  | .exc c fs _ M => .exc c fs (M.take base)
  | _ => .no
def startV (f : Fn) (as : List Vl) : Vars := (as ++ (f.dfl.drop (as.length + f.dfl.length - f.np)).map Vl.d).map some ++ List.replicate (f.ns - f.np) none
def Fn.fits (f : Fn) (as : List Vl) : Bool := decide (as.length ≤ f.np) && decide (f.np ≤ as.length + f.dfl.length)
def evF (P : Pg) : Nat → Nat → List Vl → Mem → R Vl
  | 0, _, _, _ => .no
  | n + 1, f, as, M => match P.fns[f]? with
    | none => .no
    | some fn => if fn.fits as then finish M.length (evS ⟨evF P n, P.W, P.X⟩ fn.body (startV fn as) M) else .no
end Pd

/-! Pd3: how plain data lies in the abstract heap. -/
namespace Pd
open PySem PySem.Spec L2

def okS (s : Str) : Bool := PyData.strOk s && decide (s.length ≤ sizeLine)
/-- the written part and the classes' places -/
structure Wr where
  K : PySem.W.Frag
  ca : Nat → Addr

def Fle (F F' : Hp) : Prop := ∀ a o, F a = some o → F' a = some o
theorem Fle.refl {F : Hp} : Fle F F := fun _ _ h => h
theorem Fle.trans {F F' F'' : Hp} (h : Fle F F') (h' : Fle F' F'') : Fle F F'' := fun a o q => h' a o (h a o q)
theorem Fle.upd {F : Hp} {a : Addr} {o : HO} (h : F a = none) : Fle F (upd F a o) := fun b u q => by
  rw [upd_ne (ne_of_none q h)]
  exact q
theorem SqT.le {K : PySem.W.Frag} {F F' : Hp} {a : Addr} {vs : List V} (l : Fle F F') (h : SqT K F a vs) : SqT K F' a vs := by
  rcases h with (h | ⟨o, h⟩) | h
  · exact .inl (.inl (l _ _ h))
  · exact .inl (.inr ⟨o, l _ _ h⟩)
  · exact .inr h
theorem SqL.le {K : PySem.W.Frag} {F F' : Hp} {a : Addr} {vs : List V} (l : Fle F F') (h : SqL K F a vs) : SqL K F' a vs := by
  rcases h with (h | ⟨o, h⟩) | h
  · exact .inl (.inl (l _ _ h))
  · exact .inl (.inr ⟨o, l _ _ h⟩)
  · exact .inr h

section
variable (w : Wr)
mutual
def DR (F : Hp) : D → V → Prop
  | .non, v => v = .non
  | .bl b, v => v = .bl b
  | .int i, v => v = .int i
  | .str s, v => v = .str s ∧ okS s = true
  | .tup xs, v => ∃ a vs, v = .ref a ∧ SqT w.K F a vs ∧ xs.length ≤ sizeLine ∧ DRs F xs vs
  | .lst xs, v => ∃ a vs, v = .ref a ∧ F a = some (.lst vs) ∧ xs.length ≤ sizeLine ∧ DRs F xs vs
  | .dic _, _ => False
  | .ins c fs, v => ∃ a dx gs, v = .ref a ∧ F a = some (.ins (w.ca c) dx gs) ∧ DRf F fs gs
  | .scr ns, v => ∃ a, v = .ref a ∧ SqL w.K F a (ns.map V.int)
def DRs (F : Hp) : List D → List V → Prop
  | [], vs => vs = []
  | x :: xs, vs => ∃ v r, vs = v :: r ∧ DR F x v ∧ DRs F xs r
def DRf (F : Hp) : List (Str × D) → List (Str × V) → Prop
  | [], gs => gs = []
  | (f, x) :: fs, gs => ∃ v r, gs = (f, v) :: r ∧ DR F x v ∧ DRf F fs r
end
/-- an object's own content -/
def OR (F : Hp) : D → HO → Prop
  | .lst xs, o => ∃ vs, o = .lst vs ∧ xs.length ≤ sizeLine ∧ DRs w F xs vs
  | .ins c fs, o => ∃ dx gs, o = .ins (w.ca c) dx gs ∧ DRf w F fs gs
  | _, _ => False
/-- what may be read of data at a value, the topmost object as it stands -/
def Top (F H : Hp) : D → V → Prop
  | .lst xs, v => ∃ a vs, v = .ref a ∧ H a = some (.lst vs) ∧ xs.length ≤ sizeLine ∧ DRs w F xs vs
  | .ins c fs, v => ∃ a dx gs, v = .ref a ∧ H a = some (.ins (w.ca c) dx gs) ∧ DRf w F fs gs
  | d, v => DR w F d v

mutual
theorem DR.le {F F' : Hp} (l : Fle F F') : ∀ {x : D} {v : V}, DR w F x v → DR w F' x v
  | .non, _, h => by simp only [DR] at h ⊢; exact h
  | .bl _, _, h => by simp only [DR] at h ⊢; exact h
  | .int _, _, h => by simp only [DR] at h ⊢; exact h
  | .str _, _, h => by simp only [DR] at h ⊢; exact h
  | .tup xs, _, h => by
    simp only [DR] at h ⊢
    obtain ⟨a, vs, e, s, z, r⟩ := h
    exact ⟨a, vs, e, SqT.le l s, z, DRs.le l r⟩
  | .lst xs, _, h => by
    simp only [DR] at h ⊢
    obtain ⟨a, vs, e, s, z, r⟩ := h
    exact ⟨a, vs, e, l _ _ s, z, DRs.le l r⟩
  | .dic _, _, h => by simp only [DR] at h
  | .ins c fs, _, h => by
    simp only [DR] at h ⊢
    obtain ⟨a, dx, gs, e, s, r⟩ := h
    exact ⟨a, dx, gs, e, l _ _ s, DRf.le l r⟩
  | .scr ns, _, h => by
    simp only [DR] at h ⊢
    obtain ⟨a, e, s⟩ := h
    exact ⟨a, e, SqL.le l s⟩
theorem DRs.le {F F' : Hp} (l : Fle F F') : ∀ {xs : List D} {vs : List V}, DRs w F xs vs → DRs w F' xs vs
  | [], _, h => by simp only [DRs] at h ⊢; exact h
  | x :: xs, _, h => by
    simp only [DRs] at h ⊢
    obtain ⟨v, r, e, h1, h2⟩ := h
    exact ⟨v, r, e, DR.le l h1, DRs.le l h2⟩
theorem DRf.le {F F' : Hp} (l : Fle F F') : ∀ {xs : List (Str × D)} {vs : List (Str × V)}, DRf w F xs vs → DRf w F' xs vs
  | [], _, h => by simp only [DRf] at h ⊢; exact h
  | (f, x) :: xs, _, h => by
    simp only [DRf] at h ⊢
    obtain ⟨v, r, e, h1, h2⟩ := h
    exact ⟨v, r, e, DR.le l h1, DRf.le l h2⟩
end
theorem OR.le {F F' : Hp} (l : Fle F F') {x : D} {o : HO} (h : OR w F x o) : OR w F' x o := by
  cases x with
  | lst xs =>
    obtain ⟨vs, e, z, r⟩ := h
    exact ⟨vs, e, z, r.le w l⟩
  | ins c fs =>
    obtain ⟨dx, gs, e, r⟩ := h
    exact ⟨dx, gs, e, r.le w l⟩
  | _ => exact h.elim
theorem DRs.length {F : Hp} : ∀ {xs : List D} {vs : List V}, DRs w F xs vs → xs.length = vs.length
  | [], _, h => by simp only [DRs] at h; subst h; rfl
  | x :: xs, _, h => by
    simp only [DRs] at h
    obtain ⟨v, r, e, _, h2⟩ := h
    subst e
    simp [DRs.length h2]
theorem DRs.nil {F : Hp} : DRs w F [] [] := by simp only [DRs]
theorem DRs.cons {F : Hp} {x : D} {v : V} {xs : List D} {vs : List V} (h : DR w F x v) (r : DRs w F xs vs) : DRs w F (x :: xs) (v :: vs) := by
  simp only [DRs]
  exact ⟨v, vs, rfl, h, r⟩
theorem DRs.app {F : Hp} : ∀ {xs : List D} {vs : List V} {ys : List D} {us : List V}, DRs w F xs vs → DRs w F ys us → DRs w F (xs ++ ys) (vs ++ us)
  | [], _, _, _, h, k => by simp only [DRs] at h; subst h; exact k
  | x :: xs, _, _, _, h, k => by
    simp only [DRs] at h
    obtain ⟨v, r, e, h1, h2⟩ := h
    subst e
    exact DRs.cons w h1 (DRs.app h2 k)
theorem DRs.get {F : Hp} : ∀ {xs : List D} {vs : List V} {i : Nat} {x : D}, DRs w F xs vs → xs[i]? = some x → ∃ v, vs[i]? = some v ∧ DR w F x v
  | [], _, i, _, _, e => by simp at e
  | x :: xs, _, 0, _, h, e => by
    simp only [DRs] at h
    obtain ⟨v, r, q, h1, _⟩ := h
    subst q
    simp at e
    subst e
    exact ⟨v, rfl, h1⟩
  | x :: xs, _, i + 1, y, h, e => by
    simp only [DRs] at h
    obtain ⟨v, r, q, _, h2⟩ := h
    subst q
    obtain ⟨u, e1, e2⟩ := DRs.get (i := i) h2 (by simpa using e)
    exact ⟨u, by simpa using e1, e2⟩
theorem DRs.take {F : Hp} : ∀ {xs : List D} {vs : List V} (n : Nat), DRs w F xs vs → DRs w F (xs.take n) (vs.take n)
  | [], _, _, h => by simp only [DRs] at h; subst h; simp only [List.take_nil]; exact DRs.nil w
  | _ :: _, _, 0, _ => by simp only [List.take_zero]; exact DRs.nil w
  | x :: xs, _, n + 1, h => by
    simp only [DRs] at h
    obtain ⟨v, r, q, h1, h2⟩ := h
    subst q
    exact DRs.cons w h1 (DRs.take n h2)
theorem DRs.drop {F : Hp} : ∀ {xs : List D} {vs : List V} (n : Nat), DRs w F xs vs → DRs w F (xs.drop n) (vs.drop n)
  | [], _, _, h => by simp only [DRs] at h; subst h; simp only [List.drop_nil]; exact DRs.nil w
  | _ :: _, _, 0, h => h
  | x :: xs, _, n + 1, h => by
    simp only [DRs] at h
    obtain ⟨v, r, q, h1, h2⟩ := h
    subst q
    exact DRs.drop n h2
theorem DRs.set {F : Hp} {y : D} {u : V} (hy : DR w F y u) : ∀ {xs : List D} {vs : List V} (n : Nat), DRs w F xs vs → DRs w F (xs.set n y) (vs.set n u)
  | [], _, _, h => by simp only [DRs] at h; subst h; simp only [List.set_nil]; exact DRs.nil w
  | x :: xs, _, 0, h => by
    simp only [DRs] at h
    obtain ⟨v, r, q, h1, h2⟩ := h
    subst q
    exact DRs.cons w hy h2
  | x :: xs, _, n + 1, h => by
    simp only [DRs] at h
    obtain ⟨v, r, q, h1, h2⟩ := h
    subst q
    exact DRs.cons w h1 (DRs.set hy n h2)
theorem DRs.erase {F : Hp} : ∀ {xs : List D} {vs : List V} (n : Nat), DRs w F xs vs → DRs w F (xs.eraseIdx n) (vs.eraseIdx n)
  | [], _, _, h => by simp only [DRs] at h; subst h; simp only [List.eraseIdx_nil]; exact DRs.nil w
  | x :: xs, _, 0, h => by
    simp only [DRs] at h
    obtain ⟨v, r, q, h1, h2⟩ := h
    subst q
    exact h2
  | x :: xs, _, n + 1, h => by
    simp only [DRs] at h
    obtain ⟨v, r, q, h1, h2⟩ := h
    subst q
    exact DRs.cons w h1 (DRs.erase n h2)
theorem DRs.rev {F : Hp} : ∀ {xs : List D} {vs : List V}, DRs w F xs vs → DRs w F xs.reverse vs.reverse
  | [], _, h => by simp only [DRs] at h; subst h; exact DRs.nil w
  | x :: xs, _, h => by
    simp only [DRs] at h
    obtain ⟨v, r, q, h1, h2⟩ := h
    subst q
    rw [List.reverse_cons, List.reverse_cons]
    exact DRs.app w (DRs.rev h2) (DRs.cons w h1 (DRs.nil w))
theorem DRs.rep {F : Hp} {xs : List D} {vs : List V} (h : DRs w F xs vs) : ∀ k : Nat, DRs w F (List.replicate k xs).flatten (List.replicate k vs).flatten
  | 0 => DRs.nil w
  | k + 1 => by
    rw [List.replicate_succ, List.replicate_succ, List.flatten_cons, List.flatten_cons]
    exact DRs.app w h (DRs.rep h k)
theorem DRs.ints {F : Hp} : ∀ {xs : List D} {vs : List V} {ns : List Int}, DRs w F xs vs → D.ints? xs = some ns → vs = ns.map V.int
  | [], _, _, h, e => by
    simp only [DRs] at h
    simp only [D.ints?] at e
    cases e
    exact h
  | x :: xs, _, ns, h, e => by
    simp only [DRs] at h
    obtain ⟨v, r, q, h1, h2⟩ := h
    subst q
    cases x with
    | int i =>
      simp only [D.ints?, Option.map_eq_some_iff] at e
      obtain ⟨ms, e1, e2⟩ := e
      subst e2
      simp only [DR] at h1
      rw [h1, DRs.ints h2 e1]
      rfl
    | _ => simp [D.ints?] at e
theorem DRs.strs {F : Hp} : ∀ {xs : List D} {vs : List V} {ns : List Str}, DRs w F xs vs → D.strs? xs = some ns → vs = ns.map V.str ∧ ∀ s ∈ ns, okS s = true
  | [], _, _, h, e => by
    simp only [DRs] at h
    simp only [D.strs?] at e
    cases e
    exact ⟨h, by simp⟩
  | x :: xs, _, ns, h, e => by
    simp only [DRs] at h
    obtain ⟨v, r, q, h1, h2⟩ := h
    subst q
    cases x with
    | str i =>
      simp only [D.strs?, Option.map_eq_some_iff] at e
      obtain ⟨ms, e1, e2⟩ := e
      subst e2
      simp only [DR] at h1
      obtain ⟨k1, k2⟩ := DRs.strs h2 e1
      rw [h1.1, k1]
      refine ⟨rfl, fun s hs => ?_⟩
      rcases List.mem_cons.mp hs with z | z
      · rw [z]
        exact h1.2
      · exact k2 s z
    | _ => simp [D.strs?] at e
theorem DRs.bls {F : Hp} : ∀ {xs : List D} {vs : List V} {ns : List Bool}, DRs w F xs vs → D.bls? xs = some ns → vs = ns.map V.bl
  | [], _, _, h, e => by
    simp only [DRs] at h
    simp only [D.bls?] at e
    cases e
    exact h
  | x :: xs, _, ns, h, e => by
    simp only [DRs] at h
    obtain ⟨v, r, q, h1, h2⟩ := h
    subst q
    cases x with
    | bl i =>
      simp only [D.bls?, Option.map_eq_some_iff] at e
      obtain ⟨ms, e1, e2⟩ := e
      subst e2
      simp only [DR] at h1
      rw [h1, DRs.bls h2 e1]
      rfl
    | _ => simp [D.bls?] at e
theorem DRs.ofInts {F : Hp} : ∀ ns : List Int, DRs w F (ns.map .int) (ns.map .int)
  | [] => DRs.nil w
  | n :: r => DRs.cons w (by simp only [DR]) (DRs.ofInts r)
theorem DRs.ofStrs {F : Hp} : ∀ ns : List Str, (∀ s ∈ ns, okS s = true) → DRs w F (ns.map .str) (ns.map .str)
  | [], _ => DRs.nil w
  | n :: r, h => DRs.cons w (by simp only [DR]; exact ⟨trivial, h n List.mem_cons_self⟩) (DRs.ofStrs r fun s hs => h s (List.mem_cons_of_mem _ hs))

/-! ### the ghost state -/
abbrev Sub (F H : Hp) : Prop := Fle F H
def CellR (F G H : Hp) (a : Addr) (c : Cell) : Prop :=
  (c.live = true → F a = none ∧ G a = none ∧ ∃ o, H a = some o ∧ OR w F c.d o) ∧ (c.live = false → (∃ o, F a = some o) ∧ DR w F c.d (.ref a))
structure GR (F G H : Hp) (μ : List Addr) (M : Mem) : Prop where
  sub : Fle F H
  gsub : Fle G H
  disj : ∀ a o, G a = some o → F a = none
  len : μ.length = M.length
  nd : μ.Nodup
  cell : ∀ (n : Nat) (c : Cell), M[n]? = some c → ∃ a, μ[n]? = some a ∧ CellR w F G H a c
/-- a slot's, an outcome's content -/
def VR (F : Hp) (μ : List Addr) : Vl → V → Prop
  | .d x, v => DR w F x v
  | .loc n, v => ∃ a, μ[n]? = some a ∧ v = .ref a
  | .new _, _ => False
def RR (F G : Hp) (μ : List Addr) (H : Hp) : Vl → V → Prop
  | .new x, v => ∃ a o, v = .ref a ∧ F a = none ∧ G a = none ∧ a ∉ μ ∧ H a = some o ∧ OR w F x o
  | .d x, v => DR w F x v
  | .loc n, v => ∃ a, μ[n]? = some a ∧ v = .ref a
structure SR (F : Hp) (μ : List Addr) (vs : Vars) (σ : St) : Prop where
  len : vs.length = σ.length
  at_ : ∀ (i : Nat) (x : Vl), vs[i]? = some (some x) → ∃ v, σ[i]? = some (some v) ∧ VR w F μ x v

variable {w}
theorem VR.le {F F' : Hp} {μ : List Addr} (l : Fle F F') {x : Vl} {v : V} (h : VR w F μ x v) : VR w F' μ x v := by
  cases x with
  | d x => exact DR.le w l h
  | loc n => exact h
  | new x => exact h
theorem VR.ext {F : Hp} {μ : List Addr} {ν : List Addr} {x : Vl} {v : V} (h : VR w F μ x v) : VR w F (μ ++ ν) x v := by
  cases x with
  | d x => exact h
  | loc n =>
    obtain ⟨a, e, q⟩ := h
    exact ⟨a, by rw [List.getElem?_append_left]; exact e; exact (List.getElem?_eq_some_iff.mp e).1, q⟩
  | new x => exact h
theorem SR.le {F F' : Hp} {μ : List Addr} {vs : Vars} {σ : St} (l : Fle F F') (h : SR w F μ vs σ) : SR w F' μ vs σ := ⟨h.len, fun i x e => by
  obtain ⟨v, e1, r⟩ := h.at_ i x e
  exact ⟨v, e1, r.le l⟩⟩
theorem SR.ext {F : Hp} {μ ν : List Addr} {vs : Vars} {σ : St} (h : SR w F μ vs σ) : SR w F (μ ++ ν) vs σ := ⟨h.len, fun i x e => by
  obtain ⟨v, e1, r⟩ := h.at_ i x e
  exact ⟨v, e1, r.ext⟩⟩
theorem SR.set {F : Hp} {μ : List Addr} {vs : Vars} {σ : St} {i : Nat} {x : Vl} {v : V} (h : SR w F μ vs σ) (hx : VR w F μ x v) : SR w F μ (vs.set i (some x)) (σ.set i (some v)) := by
  refine ⟨by rw [List.length_set, List.length_set]; exact h.len, fun j y e => ?_⟩
  by_cases hj : i = j
  · subst hj
    by_cases hl : i < vs.length
    · rw [List.getElem?_set_self hl] at e
      cases e
      exact ⟨v, by rw [List.getElem?_set_self (by rw [← h.len]; exact hl)], hx⟩
    · rw [List.getElem?_eq_none (by rw [List.length_set]; omega)] at e
      cases e
  · rw [List.getElem?_set_ne hj] at e ⊢
    exact h.at_ j y e
theorem SR.unset {F : Hp} {μ : List Addr} {vs : Vars} {σ : St} {i : Nat} (h : SR w F μ vs σ) : SR w F μ (vs.set i none) (σ.set i none) := by
  refine ⟨by rw [List.length_set, List.length_set]; exact h.len, fun j y e => ?_⟩
  by_cases hj : i = j
  · subst hj
    by_cases hl : i < vs.length
    · rw [List.getElem?_set_self hl] at e
      cases e
    · rw [List.getElem?_eq_none (by rw [List.length_set]; omega)] at e
      cases e
  · rw [List.getElem?_set_ne hj] at e ⊢
    exact h.at_ j y e

theorem nodup_ix : ∀ {l : List Addr} {i j : Nat} {a : Addr}, l.Nodup → l[i]? = some a → l[j]? = some a → i = j
  | [], i, _, _, _, e, _ => by simp at e
  | x :: r, 0, 0, _, _, _, _ => rfl
  | x :: r, 0, j + 1, a, nd, e, e' => by
    simp at e e'
    subst e
    exact absurd (List.mem_of_getElem? e') (List.nodup_cons.mp nd).1
  | x :: r, i + 1, 0, a, nd, e, e' => by
    simp at e e'
    subst e'
    exact absurd (List.mem_of_getElem? e) (List.nodup_cons.mp nd).1
  | x :: r, i + 1, j + 1, a, nd, e, e' => by
    simp at e e'
    rw [nodup_ix (List.nodup_cons.mp nd).2 e e']
theorem CellR.dead {F G H : Hp} {a : Addr} {x : D} (h : ∃ o, F a = some o) (r : DR w F x (.ref a)) : CellR w F G H a ⟨false, x⟩ := ⟨fun z => Bool.noConfusion z, fun _ => ⟨h, r⟩⟩
theorem CellR.alive {F G H : Hp} {a : Addr} {x : D} {o : HO} (f : F a = none) (k : G a = none) (ho : H a = some o) (r : OR w F x o) : CellR w F G H a ⟨true, x⟩ := ⟨fun _ => ⟨f, k, o, ho, r⟩, fun z => Bool.noConfusion z⟩
/-- the heap grows by an object that nobody speaks of -/
theorem GR.grow {F G H : Hp} {μ : List Addr} {M : Mem} (g : GR w F G H μ M) {p : Addr} {o : HO} (hp : H p = none) : GR w F G (upd H p o) μ M := by
  refine ⟨fun a u e => ?_, fun a u e => ?_, g.disj, g.len, g.nd, fun n c e => ?_⟩
  · rw [upd_ne (ne_of_none (g.sub _ _ e) hp)]
    exact g.sub _ _ e
  · rw [upd_ne (ne_of_none (g.gsub _ _ e) hp)]
    exact g.gsub _ _ e
  · obtain ⟨a, e1, h1, h2⟩ := g.cell n c e
    refine ⟨a, e1, fun hl => ?_, h2⟩
    obtain ⟨f, k, u, hu, r⟩ := h1 hl
    exact ⟨f, k, u, by rw [upd_ne (ne_of_none hu hp)]; exact hu, r⟩
theorem GR.cellAt {F G H : Hp} {μ : List Addr} {M : Mem} (g : GR w F G H μ M) {n : Nat} {a : Addr} (e : μ[n]? = some a) : ∃ o, H a = some o := by
  have hn : n < M.length := by
    rw [← g.len]
    exact (List.getElem?_eq_some_iff.mp e).1
  obtain ⟨b, e1, h1, h2⟩ := g.cell n M[n] (List.getElem?_eq_getElem hn)
  rw [e] at e1
  cases e1
  cases hc : M[n].live with
  | true =>
    obtain ⟨_, _, o, ho, _⟩ := h1 hc
    exact ⟨o, ho⟩
  | false =>
    obtain ⟨⟨o, ho⟩, _⟩ := h2 hc
    exact ⟨o, g.sub _ _ ho⟩
theorem GR.away {F G H : Hp} {μ : List Addr} {M : Mem} (g : GR w F G H μ M) {p : Addr} (hp : H p = none) : F p = none ∧ G p = none ∧ p ∉ μ := by
  refine ⟨?_, ?_, fun hm => ?_⟩
  · cases e : F p with
    | none => rfl
    | some o => rw [g.sub _ _ e] at hp; cases hp
  · cases e : G p with
    | none => rfl
    | some o => rw [g.gsub _ _ e] at hp; cases hp
  · obtain ⟨n, hn, e⟩ := List.getElem_of_mem hm
    obtain ⟨o, ho⟩ := g.cellAt (n := n) (a := p) (by rw [List.getElem?_eq_getElem hn, e])
    rw [ho] at hp
    cases hp
/-- what stands apart is taken into the frozen part -/
theorem GR.freeze {F G H : Hp} {μ : List Addr} {M : Mem} (g : GR w F G H μ M) {a : Addr} {o : HO} (f : F a = none) (k : G a = none) (m : a ∉ μ) (ho : H a = some o) : GR w (upd F a o) G H μ M := by
  refine ⟨fun b u e => ?_, g.gsub, fun b u e => ?_, g.len, g.nd, fun n c e => ?_⟩
  · by_cases hb : b = a
    · subst hb
      rw [upd_same] at e
      cases e
      exact ho
    · rw [upd_ne hb] at e
      exact g.sub _ _ e
  · rw [upd_ne (ne_of_none e k)]
    exact g.disj _ _ e
  · obtain ⟨b, e1, h1, h2⟩ := g.cell n c e
    have hb : b ≠ a := fun z => m (by rw [← z]; exact List.mem_of_getElem? e1)
    refine ⟨b, e1, fun hl => ?_, fun hl => ?_⟩
    · obtain ⟨f1, k1, u, hu, r⟩ := h1 hl
      exact ⟨by rw [upd_ne hb]; exact f1, k1, u, hu, r.le w (Fle.upd f)⟩
    · obtain ⟨⟨u, hu⟩, r⟩ := h2 hl
      exact ⟨⟨u, by rw [upd_ne hb]; exact hu⟩, r.le w (Fle.upd f)⟩
theorem OR.dr {F : Hp} {x : D} {o : HO} {a : Addr} (h : OR w F x o) (f : F a = none) : DR w (upd F a o) x (.ref a) := by
  cases x with
  | lst xs =>
    obtain ⟨vs, e, z, r⟩ := h
    subst e
    simp only [DR]
    exact ⟨a, vs, rfl, upd_same, z, r.le w (Fle.upd f)⟩
  | ins c fs =>
    obtain ⟨dx, gs, e, r⟩ := h
    subst e
    simp only [DR]
    exact ⟨a, dx, gs, rfl, upd_same, r.le w (Fle.upd f)⟩
  | _ => exact h.elim
theorem GR.frz {F G H : Hp} {μ : List Addr} {M : Mem} (g : GR w F G H μ M) {x : Vl} {v : V} (r : RR w F G μ H x v) : ∃ F', Fle F F' ∧ GR w F' G H μ M ∧ VR w F' μ (frz x) v := by
  cases x with
  | d x => exact ⟨F, Fle.refl, g, r⟩
  | loc n => exact ⟨F, Fle.refl, g, r⟩
  | new x =>
    obtain ⟨a, o, e, f, k, m, ho, q⟩ := r
    subst e
    exact ⟨upd F a o, Fle.upd f, g.freeze f k m ho, q.dr f⟩
/-- a cell is frozen -/
theorem GR.freezeCell {F G H : Hp} {μ : List Addr} {M : Mem} (g : GR w F G H μ M) {n : Nat} {c : Cell} {a : Addr} (e : M[n]? = some c) (ea : μ[n]? = some a) : ∃ F', Fle F F' ∧ GR w F' G H μ (M.set n ⟨false, c.d⟩) ∧ DR w F' c.d (.ref a) := by
  obtain ⟨b, e1, h1, h2⟩ := g.cell n c e
  rw [ea] at e1
  cases e1
  cases hl : c.live with
  | false =>
    have ec : (⟨false, c.d⟩ : Cell) = c := by
      obtain ⟨l, x⟩ := c
      simp only at hl
      rw [hl]
    have es : M.set n c = M := by
      apply List.ext_getElem?
      intro i
      by_cases hi : n = i
      · subst hi
        rw [List.getElem?_set_self (List.getElem?_eq_some_iff.mp e).1, e]
      · rw [List.getElem?_set_ne hi]
    rw [ec, es]
    exact ⟨F, Fle.refl, g, (h2 hl).2⟩
  | true =>
    obtain ⟨f, k, o, ho, q⟩ := h1 hl
    refine ⟨upd F a o, Fle.upd f, ⟨fun b u z => ?_, g.gsub, fun b u z => ?_, by rw [List.length_set]; exact g.len, g.nd, fun m c' z => ?_⟩, q.dr f⟩
    · by_cases hb : b = a
      · subst hb
        rw [upd_same] at z
        cases z
        exact ho
      · rw [upd_ne hb] at z
        exact g.sub _ _ z
    · rw [upd_ne (ne_of_none z k)]
      exact g.disj _ _ z
    · by_cases hm : n = m
      · subst hm
        rw [List.getElem?_set_self (List.getElem?_eq_some_iff.mp e).1] at z
        cases z
        exact ⟨a, ea, CellR.dead ⟨o, upd_same⟩ (q.dr f)⟩
      · rw [List.getElem?_set_ne hm] at z
        obtain ⟨b, e1, h1, h2⟩ := g.cell m c' z
        have hb : b ≠ a := fun zz => hm (by
          subst zz
          exact nodup_ix g.nd ea e1)
        refine ⟨b, e1, fun hl => ?_, fun hl => ?_⟩
        · obtain ⟨f1, k1, u, hu, r⟩ := h1 hl
          exact ⟨by rw [upd_ne hb]; exact f1, k1, u, hu, r.le w (Fle.upd f)⟩
        · obtain ⟨⟨u, hu⟩, r⟩ := h2 hl
          exact ⟨⟨u, by rw [upd_ne hb]; exact hu⟩, r.le w (Fle.upd f)⟩
/-- a live cell is written -/
theorem GR.write {F G H : Hp} {μ : List Addr} {M : Mem} (g : GR w F G H μ M) {n : Nat} {x y : D} {o : HO} {a : Addr} (e : M[n]? = some ⟨true, x⟩) (ea : μ[n]? = some a) (r : OR w F y o) : GR w F G (upd H a o) μ (M.set n ⟨true, y⟩) := by
  obtain ⟨b, e1, h1, _⟩ := g.cell n _ e
  rw [ea] at e1
  cases e1
  obtain ⟨f, k, _⟩ := h1 rfl
  refine ⟨fun b u z => ?_, fun b u z => ?_, g.disj, by rw [List.length_set]; exact g.len, g.nd, fun m c' z => ?_⟩
  · rw [upd_ne (ne_of_none z f)]
    exact g.sub _ _ z
  · rw [upd_ne (ne_of_none z k)]
    exact g.gsub _ _ z
  · by_cases hm : n = m
    · subst hm
      rw [List.getElem?_set_self (List.getElem?_eq_some_iff.mp e).1] at z
      cases z
      exact ⟨a, ea, CellR.alive f k upd_same r⟩
    · rw [List.getElem?_set_ne hm] at z
      obtain ⟨b, e1, h1, h2⟩ := g.cell m c' z
      have hb : b ≠ a := fun zz => hm (by
        subst zz
        exact nodup_ix g.nd ea e1)
      refine ⟨b, e1, fun hl => ?_, h2⟩
      obtain ⟨f1, k1, u, hu, r⟩ := h1 hl
      exact ⟨f1, k1, u, by rw [upd_ne hb]; exact hu, r⟩
/-- a new object becomes a cell -/
theorem GR.addCell {F G H : Hp} {μ : List Addr} {M : Mem} (g : GR w F G H μ M) {a : Addr} {o : HO} {x : D} (f : F a = none) (k : G a = none) (m : a ∉ μ) (ho : H a = some o) (r : OR w F x o) : GR w F G H (μ ++ [a]) (M ++ [⟨true, x⟩]) := by
  refine ⟨g.sub, g.gsub, g.disj, by simp [g.len], ?_, fun n c e => ?_⟩
  · rw [List.nodup_append]
    exact ⟨g.nd, by simp, fun b hb c hc z => by
      rw [List.mem_singleton] at hc
      exact m (by rw [← hc, ← z]; exact hb)⟩
  · by_cases hn : n < M.length
    · rw [List.getElem?_append_left hn] at e
      obtain ⟨b, e1, q⟩ := g.cell n c e
      exact ⟨b, by rw [List.getElem?_append_left (by rw [g.len]; exact hn)]; exact e1, q⟩
    · rw [List.getElem?_append_right (by omega)] at e
      have hz : n - M.length = 0 := by
        have := (List.getElem?_eq_some_iff.mp e).1
        simp at this
        omega
      rw [hz] at e
      simp at e
      subst e
      refine ⟨a, ?_, CellR.alive f k ho r⟩
      rw [List.getElem?_append_right (by rw [g.len]; omega), g.len, hz]
      rfl
/-- the younger cells are dropped -/
theorem GR.drop {F G H : Hp} {μ : List Addr} {M : Mem} (g : GR w F G H μ M) (b : Nat) : GR w F G H (μ.take b) (M.take b) := by
  refine ⟨g.sub, g.gsub, g.disj, by rw [List.length_take, List.length_take, g.len], g.nd.sublist (List.take_sublist _ _), fun n c e => ?_⟩
  have hn : n < b := by
    have := (List.getElem?_eq_some_iff.mp e).1
    rw [List.length_take] at this
    omega
  rw [List.getElem?_take_of_lt hn] at e ⊢
  exact g.cell n c e
theorem top_of {F G H : Hp} {μ : List Addr} {M : Mem} (g : GR w F G H μ M) {x : Vl} {v : V} {y : D} (r : VR w F μ x v) (e : der M x = some y) : Top w F H y v := by
  cases x with
  | d x =>
    have e' : x = y := Option.some.inj e
    subst e'
    have r' : DR w F x v := r
    cases x with
    | lst xs =>
      simp only [DR] at r'
      obtain ⟨a, vs, e, h, z, q⟩ := r'
      exact ⟨a, vs, e, g.sub _ _ h, z, q⟩
    | ins c fs =>
      simp only [DR] at r'
      obtain ⟨a, dx, gs, e, h, q⟩ := r'
      exact ⟨a, dx, gs, e, g.sub _ _ h, q⟩
    | _ => exact r'
  | new x => exact r.elim
  | loc n =>
    obtain ⟨a, ea, ev⟩ := r
    subst ev
    simp only [der, Option.map_eq_some_iff] at e
    obtain ⟨c, ec, ed⟩ := e
    subst ed
    obtain ⟨b, e1, h1, h2⟩ := g.cell n c ec
    rw [ea] at e1
    cases e1
    cases hl : c.live with
    | true =>
      obtain ⟨_, _, o, ho, q⟩ := h1 hl
      cases hd : c.d with
      | lst xs =>
        rw [hd] at q
        obtain ⟨vs, e, z, r⟩ := q
        subst e
        exact ⟨a, vs, rfl, ho, z, r⟩
      | ins c fs =>
        rw [hd] at q
        obtain ⟨dx, gs, e, r⟩ := q
        subst e
        exact ⟨a, dx, gs, rfl, ho, r⟩
      | _ => rw [hd] at q; exact q.elim
    | false =>
      obtain ⟨_, q⟩ := h2 hl
      cases hd : c.d with
      | lst xs =>
        rw [hd] at q
        simp only [DR] at q
        obtain ⟨a', vs, e, h, z, r⟩ := q
        cases e
        exact ⟨a, vs, rfl, g.sub _ _ h, z, r⟩
      | ins c fs =>
        rw [hd] at q
        simp only [DR] at q
        obtain ⟨a', dx, gs, e, h, r⟩ := q
        cases e
        exact ⟨a, dx, gs, rfl, g.sub _ _ h, r⟩
      | _ => rw [hd] at q; exact q
end
end Pd

/-! Pd4: operations by values, from their rules over the abstract heap. -/
namespace Pd
open PySem PySem.Spec L2

/-! ### == of plain data, over the library's own -/
mutual
def D.py : D → PyData
  | .non => .none
  | .bl b => .bool b
  | .int i => .int i
  | .str s => .str s
  | .tup xs => .tuple (D.pys xs)
  | .lst xs => .list (D.pys xs)
  | .dic _ | .ins _ _ | .scr _ => .none
def D.pys : List D → List PyData
  | [] => []
  | x :: xs => D.py x :: D.pys xs
end
theorem pys_length : ∀ xs : List D, (D.pys xs).length = xs.length
  | [] => rfl
  | x :: xs => by simp only [D.pys, List.length_cons, pys_length xs]
theorem pys_map : ∀ xs : List D, D.pys xs = xs.map D.py
  | [] => rfl
  | x :: xs => by simp only [D.pys, List.map_cons, pys_map xs]
mutual
theorem eqv_py : ∀ (n m : Nat) (x y : D), D.flat n x = true → D.flat m y = true → PyData.eqv x.py y.py = D.eqv x y
  | n, m, .non, y, _, hy => by cases y <;> simp_all [D.py, PyData.eqv, D.eqv, D.flat]
  | n, m, .bl b, y, _, hy => by cases y <;> simp_all [D.py, PyData.eqv, D.eqv, D.flat, D.isTrueI]
  | n, m, .int i, y, _, hy => by cases y <;> simp_all [D.py, PyData.eqv, D.eqv, D.flat, D.isTrueI]
  | n, m, .str s, y, _, hy => by cases y <;> simp_all [D.py, PyData.eqv, D.eqv, D.flat]
  | 0, m, .tup xs, y, hx, hy => by simp [D.flat] at hx
  | 0, m, .lst xs, y, hx, hy => by simp [D.flat] at hx
  | n + 1, m, .tup xs, y, hx, hy => by
    cases y with
    | tup ys =>
      cases m with
      | zero => simp [D.flat] at hy
      | succ m =>
        simp only [D.flat] at hx hy
        simp only [D.py, PyData.eqv, D.eqv]
        exact eqvs_py n m xs ys hx hy
    | _ => simp_all [D.py, PyData.eqv, D.eqv, D.flat]
  | n + 1, m, .lst xs, y, hx, hy => by
    cases y with
    | lst ys =>
      cases m with
      | zero => simp [D.flat] at hy
      | succ m =>
        simp only [D.flat] at hx hy
        simp only [D.py, PyData.eqv, D.eqv]
        exact eqvs_py n m xs ys hx hy
    | _ => simp_all [D.py, PyData.eqv, D.eqv, D.flat]
  | n, m, .dic _, y, hx, _ => by cases n <;> simp [D.flat] at hx
  | n, m, .ins _ _, y, hx, _ => by cases n <;> simp [D.flat] at hx
  | n, m, .scr _, y, hx, _ => by cases n <;> simp [D.flat] at hx
theorem eqvs_py : ∀ (n m : Nat) (xs ys : List D), D.flats n xs = true → D.flats m ys = true → PyData.eqvAll (D.pys xs) (D.pys ys) = D.eqvs xs ys
  | _, _, [], [], _, _ => by simp [D.pys, PyData.eqvAll, D.eqvs]
  | _, _, [], _ :: _, _, _ => by simp [D.pys, PyData.eqvAll, D.eqvs]
  | _, _, _ :: _, [], _, _ => by simp [D.pys, PyData.eqvAll, D.eqvs]
  | n, m, x :: xs, y :: ys, hx, hy => by
    simp only [D.flats, Bool.and_eq_true] at hx hy
    simp only [D.pys, PyData.eqvAll, D.eqvs]
    rw [eqv_py n m x y hx.1 hy.1, eqvs_py n m xs ys hx.2 hy.2]
end
mutual
theorem depth_py : ∀ (n : Nat) (x : D), D.flat n x = true → x.py.depth ≤ n
  | n, .non, _ | n, .bl _, _ | n, .int _, _ | n, .str _, _ | n, .dic _, _ | n, .ins _ _, _ | n, .scr _, _ => by simp [D.py, PyData.depth]
  | 0, .tup xs, hx => by simp [D.flat] at hx
  | 0, .lst xs, hx => by simp [D.flat] at hx
  | n + 1, .tup xs, hx => by
    simp only [D.flat] at hx
    simp only [D.py, PyData.depth]
    have := depths_py n xs hx
    omega
  | n + 1, .lst xs, hx => by
    simp only [D.flat] at hx
    simp only [D.py, PyData.depth]
    have := depths_py n xs hx
    omega
theorem depths_py : ∀ (n : Nat) (xs : List D), D.flats n xs = true → PyData.depthAll (D.pys xs) ≤ n
  | n, [], _ => by simp [D.pys, PyData.depthAll]
  | n, x :: xs, hx => by
    simp only [D.flats, Bool.and_eq_true] at hx
    simp only [D.pys, PyData.depthAll]
    have h1 := depth_py n x hx.1
    have h2 := depths_py n xs hx.2
    omega
end
theorem okS_strOk {s : Str} (h : okS s = true) : PyData.strOk s = true := (Bool.and_eq_true_iff.mp h).1
theorem okS_len {s : Str} (h : okS s = true) : s.length ≤ sizeLine := of_decide_eq_true (Bool.and_eq_true_iff.mp h).2

section
variable {w : Wr}
theorem Fle.sqT {F H : Hp} (l : Fle F H) {a : Addr} {vs : List V} (h : SqT w.K F a vs) : SqT w.K H a vs := SqT.le l h
mutual
theorem canLay_of {F : Hp} : ∀ (n : Nat) (x : D) (v : V), D.flat n x = true → DR w F x v → x.py.canLay0 = true
  | n, .non, _, _, _ | n, .bl _, _, _, _ | n, .int _, _, _, _ => by simp [D.py, PyData.canLay0]
  | n, .str s, _, _, h => by
    simp only [DR] at h
    simp only [D.py, PyData.canLay0]
    exact okS_strOk h.2
  | 0, .tup xs, _, hx, _ => by simp [D.flat] at hx
  | 0, .lst xs, _, hx, _ => by simp [D.flat] at hx
  | n + 1, .tup xs, _, hx, h => by
    simp only [D.flat] at hx
    simp only [DR] at h
    obtain ⟨_, vs, _, _, _, r⟩ := h
    simp only [D.py, PyData.canLay0]
    exact canLays_of n xs vs hx r
  | n + 1, .lst xs, _, hx, h => by
    simp only [D.flat] at hx
    simp only [DR] at h
    obtain ⟨_, vs, _, _, _, r⟩ := h
    simp only [D.py, PyData.canLay0]
    exact canLays_of n xs vs hx r
  | n, .dic _, _, hx, _ => by cases n <;> simp [D.flat] at hx
  | n, .ins _ _, _, hx, _ => by cases n <;> simp [D.flat] at hx
  | n, .scr _, _, hx, _ => by cases n <;> simp [D.flat] at hx
theorem canLays_of {F : Hp} : ∀ (n : Nat) (xs : List D) (vs : List V), D.flats n xs = true → DRs w F xs vs → PyData.canLayAll0 (D.pys xs) = true
  | n, [], _, _, _ => by simp [D.pys, PyData.canLayAll0]
  | n, x :: xs, _, hx, h => by
    simp only [D.flats, Bool.and_eq_true] at hx
    simp only [DRs] at h
    obtain ⟨v, r, e, h1, h2⟩ := h
    simp only [D.pys, PyData.canLayAll0, Bool.and_eq_true]
    exact ⟨canLay_of n x v hx.1 h1, canLays_of n xs r hx.2 h2⟩
end
mutual
theorem dp_of {F H : Hp} (l : Fle F H) : ∀ (n : Nat) (x : D) (v : V), D.flat n x = true → DR w F x v → Dp w.K H v x.py
  | n, .non, _, _, h => by simp only [DR] at h; subst h; simp only [D.py]; exact .non
  | n, .bl b, _, _, h => by simp only [DR] at h; subst h; simp only [D.py]; exact .bl b
  | n, .int b, _, _, h => by simp only [DR] at h; subst h; simp only [D.py]; exact .int b
  | n, .str b, _, _, h => by simp only [DR] at h; rw [h.1]; simp only [D.py]; exact .str b
  | 0, .tup xs, _, hx, _ => by simp [D.flat] at hx
  | 0, .lst xs, _, hx, _ => by simp [D.flat] at hx
  | n + 1, .tup xs, _, hx, h => by
    simp only [D.flat] at hx
    simp only [DR] at h
    obtain ⟨a, vs, e, s, _, r⟩ := h
    subst e
    simp only [D.py]
    exact .tup (SqT.le l s) (dps_of l n xs vs hx r)
  | n + 1, .lst xs, _, hx, h => by
    simp only [D.flat] at hx
    simp only [DR] at h
    obtain ⟨a, vs, e, s, _, r⟩ := h
    subst e
    simp only [D.py]
    exact .lst (.of (l _ _ s)) (dps_of l n xs vs hx r)
  | n, .dic _, _, hx, _ => by cases n <;> simp [D.flat] at hx
  | n, .ins _ _, _, hx, _ => by cases n <;> simp [D.flat] at hx
  | n, .scr _, _, hx, _ => by cases n <;> simp [D.flat] at hx
theorem dps_of {F H : Hp} (l : Fle F H) : ∀ (n : Nat) (xs : List D) (vs : List V), D.flats n xs = true → DRs w F xs vs → DpAll w.K H vs (D.pys xs)
  | n, [], _, _, h => by simp only [DRs] at h; subst h; simp only [D.pys]; exact .nil
  | n, x :: xs, _, hx, h => by
    simp only [D.flats, Bool.and_eq_true] at hx
    simp only [DRs] at h
    obtain ⟨v, r, e, h1, h2⟩ := h
    subst e
    simp only [D.pys]
    exact .cons (dp_of l n x v hx.1 h1) (dps_of l n xs r hx.2 h2)
end
/-- of the topmost object as it stands -/
theorem dp_top {F H : Hp} (l : Fle F H) {n : Nat} {x : D} {v : V} (hx : D.flat n x = true) (h : Top w F H x v) : Dp w.K H v x.py ∧ x.py.canLay0 = true := by
  cases x with
  | lst xs =>
    obtain ⟨a, vs, e, s, _, r⟩ := h
    subst e
    cases n with
    | zero => simp [D.flat] at hx
    | succ n =>
      simp only [D.flat] at hx
      simp only [D.py, PyData.canLay0]
      exact ⟨.lst (.of s) (dps_of l n xs vs hx r), canLays_of n xs vs hx r⟩
  | ins c fs => cases n <;> simp [D.flat] at hx
  | _ => exact ⟨dp_of (w := w) l n _ v hx h, canLay_of (w := w) (F := F) n _ v hx h⟩
theorem shaped_top {F H : Hp} (l : Fle F H) {x : D} {v : V} (hx : D.flat D.deep x = true) (h : Top w F H x v) : Dp w.K H v x.py ∧ SeqAt.shaped x.py = true := by
  obtain ⟨h1, h2⟩ := dp_top l hx h
  refine ⟨h1, Bool.and_eq_true_iff.mpr ⟨h2, decide_eq_true ?_⟩⟩
  have := depth_py _ _ hx
  unfold D.deep at this
  omega

/-! ### the outcomes -/
/-- what is to be shown of an operation that hands back z: whatever the caller wants of it -/
abbrev Wish (w : Wr) (F G : Hp) (μ : List Addr) (M : Mem) (z : Vl) (Q : VK) : Prop := ∀ F' H' v, Fle F F' → GR w F' G H' μ M → RR w F' G μ H' z v → Q v H'
theorem Wish.d {F G H : Hp} {μ : List Addr} {M : Mem} {x : D} {v : V} {Q : VK} (k : Wish w F G μ M (.d x) Q) (g : GR w F G H μ M) (h : DR w F x v) : Q v H := k F H v Fle.refl g h
theorem Wish.int {F G H : Hp} {μ : List Addr} {M : Mem} {i : Int} {Q : VK} (k : Wish w F G μ M (.d (.int i)) Q) (g : GR w F G H μ M) : Q (.int i) H := k.d g (by simp only [DR])
theorem Wish.bl {F G H : Hp} {μ : List Addr} {M : Mem} {b : Bool} {Q : VK} (k : Wish w F G μ M (.d (.bl b)) Q) (g : GR w F G H μ M) : Q (.bl b) H := k.d g (by simp only [DR])
theorem Wish.non {F G H : Hp} {μ : List Addr} {M : Mem} {Q : VK} (k : Wish w F G μ M (.d .non) Q) (g : GR w F G H μ M) : Q .non H := k.d g (by simp only [DR])
theorem Wish.str {F G H : Hp} {μ : List Addr} {M : Mem} {s : Str} {Q : VK} (k : Wish w F G μ M (.d (.str s)) Q) (g : GR w F G H μ M) (h : okS s = true) : Q (.str s) H := k.d g (by simp only [DR]; exact ⟨trivial, h⟩)
theorem Wish.tup {F G H : Hp} {μ : List Addr} {M : Mem} {xs : List D} {vs : List V} {Q : VK} (k : Wish w F G μ M (.d (.tup xs)) Q) (g : GR w F G H μ M) (hz : xs.length ≤ sizeLine) (h : DRs w F xs vs) :
    ∀ p, H p = none → Q (.ref p) (upd H p (.tup vs)) := fun p hp => by
  obtain ⟨f, q, m⟩ := g.away hp
  refine k (upd F p (.tup vs)) _ _ (Fle.upd f) ((g.grow hp).freeze f q m upd_same) ?_
  show DR w _ _ _
  simp only [DR]
  exact ⟨p, vs, rfl, .of upd_same, hz, DRs.le w (Fle.upd f) h⟩
theorem Wish.lst {F G H : Hp} {μ : List Addr} {M : Mem} {xs : List D} {vs : List V} {Q : VK} (k : Wish w F G μ M (.new (.lst xs)) Q) (g : GR w F G H μ M) (hz : xs.length ≤ sizeLine) (h : DRs w F xs vs) :
    ∀ p, H p = none → Q (.ref p) (upd H p (.lst vs)) := fun p hp => by
  obtain ⟨f, q, m⟩ := g.away hp
  exact k F _ _ Fle.refl (g.grow hp) ⟨p, .lst vs, rfl, f, q, m, upd_same, vs, rfl, hz, h⟩
theorem Top.lst {F H : Hp} {xs : List D} {v : V} (h : Top w F H (.lst xs) v) : ∃ a vs, v = .ref a ∧ H a = some (.lst vs) ∧ xs.length ≤ sizeLine ∧ DRs w F xs vs := h
theorem Top.tup {F H : Hp} {xs : List D} {v : V} (l : Fle F H) (h : Top w F H (.tup xs) v) : ∃ a vs, v = .ref a ∧ SqT w.K H a vs ∧ xs.length ≤ sizeLine ∧ DRs w F xs vs := by
  have h' : DR w F (.tup xs) v := h
  simp only [DR] at h'
  obtain ⟨a, vs, e, s, z, r⟩ := h'
  exact ⟨a, vs, e, SqT.le l s, z, r⟩
theorem Top.scr {F H : Hp} {ns : List Int} {v : V} (l : Fle F H) (h : Top w F H (.scr ns) v) : ∃ a, v = .ref a ∧ SqL w.K H a (ns.map V.int) := by
  have h' : DR w F (.scr ns) v := h
  simp only [DR] at h'
  obtain ⟨a, e, s⟩ := h'
  exact ⟨a, e, SqL.le l s⟩
theorem Top.int {F H : Hp} {i : Int} {v : V} (h : Top w F H (.int i) v) : v = .int i := by
  have h' : DR w F (.int i) v := h
  simpa only [DR] using h'
theorem Top.bl {F H : Hp} {i : Bool} {v : V} (h : Top w F H (.bl i) v) : v = .bl i := by
  have h' : DR w F (.bl i) v := h
  simpa only [DR] using h'
theorem Top.non {F H : Hp} {v : V} (h : Top w F H .non v) : v = .non := by
  have h' : DR w F .non v := h
  simpa only [DR] using h'
theorem Top.str {F H : Hp} {s : Str} {v : V} (h : Top w F H (.str s) v) : v = .str s ∧ okS s = true := by
  have h' : DR w F (.str s) v := h
  simpa only [DR] using h'

/-! ### operators -/
def opOf : Op2 → Value → Value → Sem Value
  | .add => binaryOp .Add | .sub => binaryOp .Sub | .mul => binaryOp .Mult | .fdiv => binaryOp .FloorDiv | .mod => binaryOp .Mod | .pow => binaryOp .Pow
  | .eq => compareOp .Eq | .ne => compareOp .NotEq | .lt => compareOp .Lt | .le => compareOp .LtE | .gt => compareOp .Gt | .ge => compareOp .GtE
  | .inn => compareOp .In | .nin => compareOp .NotIn
def rStrAdd : R2 := fun x y H Q => ∃ i j, x = .str i ∧ y = .str j ∧ i.length + j.length ≤ sizeLine ∧ Q (.str (i ++ j)) H
def rStrCmp (f : Str → Str → Bool) : R2 := fun x y H Q => ∃ i j, x = .str i ∧ y = .str j ∧ Q (.bl (f i j)) H
def rOp (K : PySem.W.Frag) : Op2 → R2
  | .add => fun x y H Q => rI0 (fun i j => .int (i + j)) x y H Q ∨ rStrAdd x y H Q ∨ rCat x y H Q ∨ rCatT K x y H Q
  | .sub => rI0 fun i j => .int (i - j)
  | .mul => fun x y H Q => rI CMulW (fun i j => .int (i * j)) x y H Q ∨ rRep x y H Q
  | .fdiv => rI CDivW fun i j => .int (i / j)
  | .mod => rI (fun _ j => 0 < j) fun i j => .int (i % j)
  | .pow => rI CPow fun i j => .int (i ^ j.toNat)
  | .eq => rEqD K
  | .ne => rNeD K
  | .lt => fun x y H Q => rI0 (fun i j => .bl (decide (i < j))) x y H Q ∨ rStrCmp strLt x y H Q
  | .le => fun x y H Q => rI0 (fun i j => .bl (decide (i ≤ j))) x y H Q ∨ rStrCmp (fun i j => !strLt j i) x y H Q
  | .gt => fun x y H Q => rI0 (fun i j => .bl (decide (j < i))) x y H Q ∨ rStrCmp (fun i j => strLt j i) x y H Q
  | .ge => fun x y H Q => rI0 (fun i j => .bl (decide (j ≤ i))) x y H Q ∨ rStrCmp (fun i j => !strLt i j) x y H Q
  | .inn => fun x y H Q => rStrCmp inStr x y H Q ∨ rInD K x y H Q ∨ rIn K false x y H Q
  | .nin => fun x y H Q => rStrCmp (fun i j => !inStr i j) x y H Q ∨ rNotInD K x y H Q ∨ rIn K true x y H Q
theorem opR {X : Cx} (hu : X.A.units + 65 < cLine) (o : Op2) : OpR X (opOf o) (rOp X.K o) := by
  cases o with
  | add => exact op_add.or (op_add_str.or (op_cat.or op_catT))
  | sub => exact op_sub
  | mul => exact op_mulW.or op_rep
  | fdiv => exact op_fdivW
  | mod => exact op_mod
  | pow => exact op_pow
  | eq => exact op_eqD (show X.A.units + 64 < cLine by omega)
  | ne => exact op_neD (show X.A.units + 64 < cLine by omega)
  | lt => exact op_lt.or op_lt_str
  | le => exact op_le.or op_le_str
  | gt => exact op_gt.or op_gt_str
  | ge => exact op_ge.or op_ge_str
  | inn => exact op_in_str.or ((op_inD hu).or op_in_seq)
  | nin => exact op_notin_str.or ((op_notInD hu).or op_notIn_seq)

theorem okS_add {x y : Str} (hx : okS x = true) (hy : okS y = true) (h : x.length + y.length ≤ sizeLine) : okS (x ++ y) = true := by
  refine Bool.and_eq_true_iff.mpr ⟨?_, decide_eq_true ?_⟩
  · have h1 := okS_strOk hx
    have h2 := okS_strOk hy
    unfold PyData.strOk at h1 h2 ⊢
    show (x.cps ++ y.cps).all _ = true
    rw [Array.all_append, h1, h2]
    rfl
  · show (x.cps ++ y.cps).size ≤ _
    rw [Array.size_append]
    exact h
theorem flat0_V {F H : Hp} (l : Fle F H) {x : D} {v : V} (hx : D.flat 0 x = true) (h : DR w F x v) : flatV v = true ∧ ∀ (y : D) (u : V), D.flat 0 y = true → DR w F y u → eqV u v = D.eqv y x := by
  cases x with
  | tup xs => simp [D.flat] at hx
  | lst xs => simp [D.flat] at hx
  | dic xs => simp [D.flat] at hx
  | ins c xs => simp [D.flat] at hx
  | scr xs => simp [D.flat] at hx
  | non =>
    simp only [DR] at h
    subst h
    refine ⟨rfl, fun y u hy hu => ?_⟩
    cases y <;> simp_all [D.flat, DR, eqV, D.eqv]
  | bl b =>
    simp only [DR] at h
    subst h
    refine ⟨rfl, fun y u hy hu => ?_⟩
    cases y <;> simp_all [D.flat, DR, eqV, D.eqv, D.isTrueI]
  | int b =>
    simp only [DR] at h
    subst h
    refine ⟨rfl, fun y u hy hu => ?_⟩
    cases y <;> simp_all [D.flat, DR, eqV, D.eqv, D.isTrueI]
  | str b =>
    simp only [DR] at h
    obtain ⟨h, _⟩ := h
    subst h
    refine ⟨rfl, fun y u hy hu => ?_⟩
    cases y <;> simp_all [D.flat, DR, eqV, D.eqv]
theorem flats0_V {F H : Hp} (l : Fle F H) {x : D} {v : V} (hx : D.flat 0 x = true) (h : DR w F x v) : ∀ {ys : List D} {us : List V}, D.flats 0 ys = true → DRs w F ys us → us.all flatV = true ∧ inV v us = ys.any fun y => D.eqv y x
  | [], _, _, hr => by
    simp only [DRs] at hr
    subst hr
    exact ⟨rfl, rfl⟩
  | y :: ys, _, hy, hr => by
    simp only [DRs] at hr
    obtain ⟨u, r, e, h1, h2⟩ := hr
    subst e
    simp only [D.flats, Bool.and_eq_true] at hy
    obtain ⟨k1, k2⟩ := flats0_V l hx h hy.2 h2
    refine ⟨?_, ?_⟩
    · rw [List.all_cons, (flat0_V l hy.1 h1).1, k1]
      rfl
    · unfold inV at k2 ⊢
      rw [List.any_cons, List.any_cons, k2, (flat0_V l hx h).2 y u hy.1 h1]
theorem top_dr {F H : Hp} {x : D} {v : V} (hx : D.flat 0 x = true) (h : Top w F H x v) : DR w F x v := by
  cases x with
  | lst xs => simp [D.flat] at hx
  | ins c fs => simp [D.flat] at hx
  | _ => exact h

/-- a rule for an operation of two values -/
def Prim2 (w : Wr) (f : D → D → Option Vl) (r : R2) : Prop := ∀ (F G H : Hp) (μ : List Addr) (M : Mem) (dx dy : D) (vx vy : V) (z : Vl) (Q : VK),
  GR w F G H μ M → Top w F H dx vx → Top w F H dy vy → f dx dy = some z → Wish w F G μ M z Q → r vx vy H Q
theorem bool2_some {b : Bool} {z : Vl} (h : bool2 b = some z) : z = .d (.bl b) := (Option.some.inj h).symm
theorem prim_opII (o : Op2) {F G H : Hp} {μ : List Addr} {M : Mem} {i j : Int} {z : Vl} {Q : VK} (g : GR w F G H μ M) (h : opII o i j = some z) (k : Wish w F G μ M z Q) : rOp w.K o (.int i) (.int j) H Q := by
  have dpi : ∀ n : Int, Dp w.K H (.int n) (.int n) := fun n => .int n
  have shi : ∀ n : Int, SeqAt.shaped (.int n) = true := fun n => rfl
  cases o with
  | add =>
    cases Option.some.inj h
    exact .inl ⟨i, j, rfl, rfl, k.int g⟩
  | sub =>
    cases Option.some.inj h
    exact ⟨i, j, rfl, rfl, k.int g⟩
  | mul =>
    simp only [opII] at h
    split at h
    · rename_i hc
      cases Option.some.inj h
      exact .inl ⟨i, j, rfl, rfl, of_decide_eq_true (p := i.natAbs.log2 + j.natAbs.log2 < 1000000) hc, k.int g⟩
    · cases h
  | fdiv =>
    simp only [opII] at h
    split at h
    · rename_i hc
      cases Option.some.inj h
      obtain ⟨h1, h2⟩ := Bool.and_eq_true_iff.mp hc
      exact ⟨i, j, rfl, rfl, ⟨of_decide_eq_true h1, of_decide_eq_true h2⟩, k.int g⟩
    · cases h
  | mod =>
    simp only [opII] at h
    split at h
    · rename_i hc
      cases Option.some.inj h
      exact ⟨i, j, rfl, rfl, hc, k.int g⟩
    · cases h
  | pow =>
    simp only [opII] at h
    split at h
    · rename_i hc
      cases Option.some.inj h
      obtain ⟨h1, h2⟩ := Bool.and_eq_true_iff.mp hc
      obtain ⟨h2, h3⟩ := Bool.and_eq_true_iff.mp h2
      exact ⟨i, j, rfl, rfl, ⟨of_decide_eq_true h1, of_decide_eq_true h2, of_decide_eq_true h3⟩, k.int g⟩
    · cases h
  | eq =>
    cases bool2_some h
    exact ⟨_, _, dpi i, dpi j, shi i, shi j, by simp only [PyData.eqv]; exact k.bl g⟩
  | ne =>
    cases bool2_some h
    exact ⟨_, _, dpi i, dpi j, shi i, shi j, by simp only [PyData.eqv]; exact k.bl g⟩
  | lt =>
    cases bool2_some h
    exact .inl ⟨i, j, rfl, rfl, k.bl g⟩
  | le =>
    cases bool2_some h
    exact .inl ⟨i, j, rfl, rfl, k.bl g⟩
  | gt =>
    cases bool2_some h
    exact .inl ⟨i, j, rfl, rfl, k.bl g⟩
  | ge =>
    cases bool2_some h
    exact .inl ⟨i, j, rfl, rfl, k.bl g⟩
  | inn => simp [opII, cmpI] at h
  | nin => simp [opII, cmpI] at h
theorem prim_eq {F G H : Hp} {μ : List Addr} {M : Mem} {x y : D} {vx vy : V} {Q : VK} (g : GR w F G H μ M) (tx : Top w F H x vx) (ty : Top w F H y vy) (hx : D.flat D.deep x = true) (hy : D.flat D.deep y = true)
    (k : Q (.bl (D.eqv x y)) H) : rEqD w.K vx vy H Q := by
  obtain ⟨p1, s1⟩ := shaped_top g.sub hx tx
  obtain ⟨p2, s2⟩ := shaped_top g.sub hy ty
  exact ⟨_, _, p1, p2, s1, s2, by rw [eqv_py _ _ _ _ hx hy]; exact k⟩
theorem prim_ne {F G H : Hp} {μ : List Addr} {M : Mem} {x y : D} {vx vy : V} {Q : VK} (g : GR w F G H μ M) (tx : Top w F H x vx) (ty : Top w F H y vy) (hx : D.flat D.deep x = true) (hy : D.flat D.deep y = true)
    (k : Q (.bl (!D.eqv x y)) H) : rNeD w.K vx vy H Q := by
  obtain ⟨p1, s1⟩ := shaped_top g.sub hx tx
  obtain ⟨p2, s2⟩ := shaped_top g.sub hy ty
  exact ⟨_, _, p1, p2, s1, s2, by rw [eqv_py _ _ _ _ hx hy]; exact k⟩
theorem flats_at : ∀ {n : Nat} {xs : List D} {y : D}, D.flats n xs = true → y ∈ xs → D.flat n y = true
  | n, [], y, _, h => by cases h
  | n, x :: xs, y, hf, h => by
    simp only [D.flats, Bool.and_eq_true] at hf
    rcases List.mem_cons.mp h with e | e
    · rw [e]
      exact hf.1
    · exact flats_at hf.2 e
theorem any_py {x : D} (hx : D.flat D.deep x = true) : ∀ {ys : List D}, D.flats D.deep ys = true → ((D.pys ys).any fun z => PyData.eqv z x.py) = ys.any fun y => D.eqv y x
  | [], _ => rfl
  | y :: ys, h => by
    simp only [D.flats, Bool.and_eq_true] at h
    simp only [D.pys, List.any_cons]
    rw [any_py hx h.2, eqv_py _ _ _ _ h.1 hx]
theorem flats_up : ∀ {n : Nat} {xs : List D}, D.flats n xs = true → D.flat (n + 1) (.lst xs) = true := fun h => by simp only [D.flat]; exact h
theorem shaped_list {F H : Hp} (l : Fle F H) {xs : List D} {v : V} (hx : D.flats D.deep xs = true) (h : Top w F H (.lst xs) v) : Dp w.K H v (.list (D.pys xs)) ∧ SeqAt.shaped (.list (D.pys xs)) = true := by
  obtain ⟨h1, h2⟩ := dp_top (n := D.deep + 1) l (flats_up hx) h
  simp only [D.py] at h1 h2
  refine ⟨h1, Bool.and_eq_true_iff.mpr ⟨h2, decide_eq_true ?_⟩⟩
  have := depths_py _ _ hx
  simp only [PyData.depth]
  unfold D.deep at this
  omega
theorem prim_op2 (o : Op2) : Prim2 w (op2 o) (rOp w.K o) := by
  intro F G H μ M dx dy vx vy z Q g tx ty h k
  unfold op2 at h
  split at h
  · -- ints
    cases tx.int
    cases ty.int
    exact prim_opII _ g h k
  · -- texts
    rename_i x y
    obtain ⟨e1, o1⟩ := tx.str
    obtain ⟨e2, o2⟩ := ty.str
    subst e1 e2
    split at h
    · rename_i hc
      cases Option.some.inj h
      exact .inr (.inl ⟨x, y, rfl, rfl, hc, k.str g (okS_add o1 o2 hc)⟩)
    · cases h
  · rename_i xs ys
    obtain ⟨a, vs, e1, h1, z1, r1⟩ := tx.lst
    obtain ⟨b, us, e2, h2, z2, r2⟩ := ty.lst
    subst e1 e2
    split at h
    · rename_i hc
      cases Option.some.inj h
      refine .inr (.inr (.inl ⟨a, b, vs, us, rfl, rfl, h1, h2, by rw [← r1.length, ← r2.length]; exact hc, k.lst g (by rw [List.length_append]; exact hc) (DRs.app w r1 r2)⟩))
    · cases h
  · rename_i xs ys
    obtain ⟨a, vs, e1, h1, z1, r1⟩ := tx.tup g.sub
    obtain ⟨b, us, e2, h2, z2, r2⟩ := ty.tup g.sub
    subst e1 e2
    split at h
    · rename_i hc
      cases Option.some.inj h
      obtain ⟨hne, hz⟩ := Bool.and_eq_true_iff.mp hc
      have hz := of_decide_eq_true hz
      have hvs : vs ≠ [] := fun z => by
        subst z
        have := r1.length
        cases xs with
        | nil => cases hne
        | cons _ _ => cases this
      refine .inr (.inr (.inr ⟨a, b, vs, us, rfl, rfl, h1, h2, hvs, by rw [← r1.length, ← r2.length]; exact hz, fun e => ?_, fun _ => ?_⟩))
      · subst e
        have hy : ys = [] := by
          have := r2.length
          cases ys with
          | nil => rfl
          | cons _ _ => cases this
        subst hy
        rw [List.append_nil] at k
        have tx' : DR w F (.tup xs) (.ref a) := tx
        exact k.d g tx'
      · exact k.tup g (by rw [List.length_append]; exact hz) (DRs.app w r1 r2)
    · cases h
  · rename_i xs n
    obtain ⟨a, vs, e1, h1, z1, r1⟩ := tx.lst
    cases ty.int
    subst e1
    split at h
    · rename_i hc
      cases Option.some.inj h
      obtain ⟨c1, hc⟩ := Bool.and_eq_true_iff.mp hc
      obtain ⟨c2, c3⟩ := Bool.and_eq_true_iff.mp hc
      have c3 := of_decide_eq_true c3
      have hl : (List.replicate n.toNat xs).flatten.length ≤ sizeLine := by
        rw [List.length_flatten, List.map_replicate, List.sum_replicate_nat, Nat.mul_comm]
        exact c3
      exact .inr ⟨a, n, vs, rfl, rfl, h1, of_decide_eq_true c1, of_decide_eq_true c2, by rw [← r1.length]; exact c3, k.lst g hl (DRs.rep w r1 n.toNat)⟩
    · cases h
  · rename_i x y _ _
    split at h
    · rename_i hc
      obtain ⟨c1, c2⟩ := Bool.and_eq_true_iff.mp hc
      cases bool2_some h
      exact prim_eq g tx ty c1 c2 (k.bl g)
    · cases h
  · split at h
    · rename_i hc
      obtain ⟨c1, c2⟩ := Bool.and_eq_true_iff.mp hc
      cases bool2_some h
      exact prim_ne g tx ty c1 c2 (k.bl g)
    · cases h
  · rename_i x y
    obtain ⟨e1, o1⟩ := tx.str
    obtain ⟨e2, o2⟩ := ty.str
    subst e1 e2
    cases bool2_some h
    exact .inl ⟨x, y, rfl, rfl, k.bl g⟩
  · rename_i x y
    obtain ⟨e1, o1⟩ := tx.str
    obtain ⟨e2, o2⟩ := ty.str
    subst e1 e2
    cases bool2_some h
    exact .inl ⟨x, y, rfl, rfl, k.bl g⟩
  · split at h
    · rename_i hc
      obtain ⟨c1, c2⟩ := Bool.and_eq_true_iff.mp hc
      cases bool2_some h
      obtain ⟨p1, s1⟩ := shaped_top g.sub c1 tx
      obtain ⟨p2, s2⟩ := shaped_list g.sub c2 ty
      exact .inr (.inl ⟨_, _, p1, p2, s1, s2, by rw [any_py c1 c2]; exact k.bl g⟩)
    · cases h
  · split at h
    · rename_i hc
      obtain ⟨c1, c2⟩ := Bool.and_eq_true_iff.mp hc
      cases bool2_some h
      obtain ⟨p1, s1⟩ := shaped_top g.sub c1 tx
      obtain ⟨p2, s2⟩ := shaped_list g.sub c2 ty
      exact .inr (.inl ⟨_, _, p1, p2, s1, s2, by rw [any_py c1 c2]; exact k.bl g⟩)
    · cases h
  · split at h
    · rename_i hc
      obtain ⟨c1, c2⟩ := Bool.and_eq_true_iff.mp hc
      cases bool2_some h
      obtain ⟨b, us, e2, h2, z2, r2⟩ := ty.tup g.sub
      subst e2
      have d1 := top_dr c1 tx
      obtain ⟨f1, f2⟩ := flats0_V g.sub c1 d1 c2 r2
      exact .inr (.inr ⟨b, us, rfl, .inr h2, (flat0_V g.sub c1 d1).1, f1, by rw [if_neg (by decide), f2]; exact k.bl g⟩)
    · cases h
  · split at h
    · rename_i hc
      obtain ⟨c1, c2⟩ := Bool.and_eq_true_iff.mp hc
      cases bool2_some h
      obtain ⟨b, us, e2, h2, z2, r2⟩ := ty.tup g.sub
      subst e2
      have d1 := top_dr c1 tx
      obtain ⟨f1, f2⟩ := flats0_V g.sub c1 d1 c2 r2
      exact .inr (.inr ⟨b, us, rfl, .inr h2, (flat0_V g.sub c1 d1).1, f1, by rw [if_pos rfl, f2]; exact k.bl g⟩)
    · cases h
  · rename_i x y _ _ _ _ _
    obtain ⟨e1, o1⟩ := tx.str
    obtain ⟨e2, o2⟩ := ty.str
    subst e1 e2
    cases o <;> first | (simp [cmpS] at h; done) | (cases bool2_some h; exact .inr ⟨x, y, rfl, rfl, k.bl g⟩)
  · cases h
end
end Pd

/-! Pd5: built-in functions, subscripts, slices, methods, isinstance by values. -/
namespace Pd
open PySem PySem.Spec L2

/-! ### sorting -/
theorem insI_perm (x : Int) : ∀ l : List Int, (insI x l).Perm (x :: l)
  | [] => .refl _
  | y :: r => by
    unfold insI
    split
    · exact .refl _
    · exact ((insI_perm x r).cons y).trans (.swap x y r)
theorem isortI_perm : ∀ l : List Int, (isortI l).Perm l
  | [] => .refl _
  | x :: r => by
    unfold isortI
    exact (insI_perm x _).trans ((isortI_perm r).cons x)
theorem insI_sorted (x : Int) : ∀ l : List Int, l.Pairwise (· ≤ ·) → (insI x l).Pairwise (· ≤ ·)
  | [], _ => by simp [insI]
  | y :: r, h => by
    unfold insI
    split
    · rename_i hxy
      refine List.Pairwise.cons (fun z hz => ?_) h
      rcases List.mem_cons.mp hz with e | e
      · rw [e]; exact hxy
      · exact Int.le_trans hxy ((List.pairwise_cons.mp h).1 z e)
    · rename_i hxy
      refine List.Pairwise.cons (fun z hz => ?_) (insI_sorted x r (List.pairwise_cons.mp h).2)
      rcases List.mem_cons.mp ((insI_perm x r).mem_iff.mp hz) with e | e
      · rw [e]; omega
      · exact (List.pairwise_cons.mp h).1 z e
theorem isortI_sorted : ∀ l : List Int, (isortI l).Pairwise (· ≤ ·)
  | [] => by simp [isortI]
  | x :: r => by
    unfold isortI
    exact insI_sorted x _ (isortI_sorted r)
theorem isortI_eq {a l : List Int} (p : a.Perm l) (h : a.Pairwise (· ≤ ·)) : a = isortI l :=
  (p.trans (isortI_perm l).symm).eq_of_pairwise (fun _ _ _ _ h1 h2 => Int.le_antisymm h1 h2) h (isortI_sorted l)
/-- not greater, as texts -/
def leS (x y : Str) : Prop := strLt y x = false
theorem leS_total (x y : Str) : leS x y ∨ leS y x := by
  unfold leS strLt
  rcases Decidable.em (y.cps.toList < x.cps.toList) with h | h
  · right
    exact decide_eq_false (fun h2 => List.lt_asymm h h2)
  · left
    exact decide_eq_false h
theorem leS_anti {x y : Str} (h1 : leS x y) (h2 : leS y x) : x = y := by
  have a := of_decide_eq_false (p := y.cps.toList < x.cps.toList) h1
  have b := of_decide_eq_false (p := x.cps.toList < y.cps.toList) h2
  have e : x.cps.toList = y.cps.toList := List.le_antisymm (List.not_lt.mp a) (List.not_lt.mp b)
  obtain ⟨⟨x⟩⟩ := x
  obtain ⟨⟨y⟩⟩ := y
  have e' : x = y := e
  rw [e']
theorem leS_trans {x y z : Str} (h1 : leS x y) (h2 : leS y z) : leS x z := by
  have a := of_decide_eq_false (p := y.cps.toList < x.cps.toList) h1
  have b := of_decide_eq_false (p := z.cps.toList < y.cps.toList) h2
  exact decide_eq_false (List.not_lt.mpr (List.le_trans (List.not_lt.mp a) (List.not_lt.mp b)))
theorem insS_perm (x : Str) : ∀ l : List Str, (insS x l).Perm (x :: l)
  | [] => .refl _
  | y :: r => by
    unfold insS
    split
    · exact ((insS_perm x r).cons y).trans (.swap x y r)
    · exact .refl _
theorem isortS_perm : ∀ l : List Str, (isortS l).Perm l
  | [] => .refl _
  | x :: r => by
    unfold isortS
    exact (insS_perm x _).trans ((isortS_perm r).cons x)
theorem insS_sorted (x : Str) : ∀ l : List Str, l.Pairwise leS → (insS x l).Pairwise leS
  | [], _ => by simp [insS]
  | y :: r, h => by
    unfold insS
    split
    · rename_i hyx
      refine List.Pairwise.cons (fun z hz => ?_) (insS_sorted x r (List.pairwise_cons.mp h).2)
      rcases List.mem_cons.mp ((insS_perm x r).mem_iff.mp hz) with e | e
      · rw [e]
        rcases leS_total y x with q | q
        · exact q
        · unfold leS at q
          rw [hyx] at q
          cases q
      · exact (List.pairwise_cons.mp h).1 z e
    · rename_i hyx
      have hxy : leS x y := by
        unfold leS
        cases e : strLt y x with
        | false => rfl
        | true => exact absurd e hyx
      refine List.Pairwise.cons (fun z hz => ?_) h
      rcases List.mem_cons.mp hz with e | e
      · rw [e]; exact hxy
      · exact leS_trans hxy ((List.pairwise_cons.mp h).1 z e)
theorem isortS_sorted : ∀ l : List Str, (isortS l).Pairwise leS
  | [] => by simp [isortS]
  | x :: r => by
    unfold isortS
    exact insS_sorted x _ (isortS_sorted r)
theorem ltCps_eq (x y : List Nat) : ltCps x y = decide (x < y) := by
  induction x generalizing y with
  | nil => cases y <;> simp [ltCps]
  | cons a r ih =>
    cases y with
    | nil => simp [ltCps]
    | cons b s =>
      unfold ltCps
      rw [ih]
      by_cases h1 : a < b
      · simp [h1, List.cons_lt_cons_iff]
      · by_cases h2 : a = b
        · subst h2
          simp [List.cons_lt_cons_iff]
        · simp [h1, h2, List.cons_lt_cons_iff]

theorem rising_le : ∀ (p : Str) (l : List Str), PyProof.Rows.risingS p l = true → (p :: l).Pairwise leS
  | p, [], _ => by simp
  | p, x :: r, h => by
    unfold PyProof.Rows.risingS at h
    obtain ⟨h1, h2⟩ := Bool.and_eq_true_iff.mp h
    have ih := rising_le x r h2
    have hpx : leS p x := by
      unfold leS strLt
      rw [← ltCps_eq]
      cases e : ltCps x.cps.toList p.cps.toList with
      | false => rfl
      | true => rw [e] at h1; cases h1
    refine List.Pairwise.cons (fun z hz => ?_) ih
    rcases List.mem_cons.mp hz with e | e
    · rw [e]; exact hpx
    · exact leS_trans hpx ((List.pairwise_cons.mp ih).1 z e)
theorem sortedS_le : ∀ l : List Str, PyProof.Rows.sortedS l = true → l.Pairwise leS
  | [], _ => by simp
  | x :: r, h => rising_le x r h
theorem isortS_eq {a l : List Str} (p : a.Perm l) (h : PyProof.Rows.sortedS a = true) : a = isortS l :=
  (p.trans (isortS_perm l).symm).eq_of_pairwise (fun _ _ _ _ h1 h2 => leS_anti h1 h2) (sortedS_le a h) (isortS_sorted l)
theorem foldl_max (r : List Int) : ∀ x : Int, (r.foldl (fun a b => if a < b then b else a) x = x ∨ r.foldl (fun a b => if a < b then b else a) x ∈ r) ∧ x ≤ r.foldl (fun a b => if a < b then b else a) x ∧ ∀ y ∈ r, y ≤ r.foldl (fun a b => if a < b then b else a) x := by
  induction r with
  | nil => intro x; simp
  | cons z r ih =>
    intro x
    simp only [List.foldl_cons]
    obtain ⟨h1, h2, h3⟩ := ih (if x < z then z else x)
    by_cases hz : x < z
    · rw [if_pos hz] at h1 h2 h3 ⊢
      refine ⟨.inr ?_, by omega, fun y hy => ?_⟩
      · rcases h1 with e | e
        · rw [e]; exact List.mem_cons_self
        · exact List.mem_cons_of_mem _ e
      · rcases List.mem_cons.mp hy with e | e
        · rw [e]; exact h2
        · exact h3 y e
    · rw [if_neg hz] at h1 h2 h3 ⊢
      refine ⟨?_, h2, fun y hy => ?_⟩
      · rcases h1 with e | e
        · exact .inl e
        · exact .inr (List.mem_cons_of_mem _ e)
      · rcases List.mem_cons.mp hy with e | e
        · rw [e]; omega
        · exact h3 y e
theorem foldl_min (r : List Int) : ∀ x : Int, (r.foldl (fun a b => if b < a then b else a) x = x ∨ r.foldl (fun a b => if b < a then b else a) x ∈ r) ∧ r.foldl (fun a b => if b < a then b else a) x ≤ x ∧ ∀ y ∈ r, r.foldl (fun a b => if b < a then b else a) x ≤ y := by
  induction r with
  | nil => intro x; simp
  | cons z r ih =>
    intro x
    simp only [List.foldl_cons]
    obtain ⟨h1, h2, h3⟩ := ih (if z < x then z else x)
    by_cases hz : z < x
    · rw [if_pos hz] at h1 h2 h3 ⊢
      refine ⟨.inr ?_, by omega, fun y hy => ?_⟩
      · rcases h1 with e | e
        · rw [e]; exact List.mem_cons_self
        · exact List.mem_cons_of_mem _ e
      · rcases List.mem_cons.mp hy with e | e
        · rw [e]; exact h2
        · exact h3 y e
    · rw [if_neg hz] at h1 h2 h3 ⊢
      refine ⟨?_, h2, fun y hy => ?_⟩
      · rcases h1 with e | e
        · exact .inl e
        · exact .inr (List.mem_cons_of_mem _ e)
      · rcases List.mem_cons.mp hy with e | e
        · rw [e]; omega
        · exact h3 y e
theorem maxL_mem : ∀ {l : List Int}, l ≠ [] → maxL l ∈ l
  | [], h => absurd rfl h
  | x :: r, _ => by
    show r.foldl (fun a b => if a < b then b else a) x ∈ x :: r
    rcases (foldl_max r x).1 with e | e
    · rw [e]; exact List.mem_cons_self
    · exact List.mem_cons_of_mem _ e
theorem maxL_le : ∀ {l : List Int} {y : Int}, y ∈ l → y ≤ maxL l
  | [], _, h => by cases h
  | x :: r, y, h => by
    unfold maxL
    rcases List.mem_cons.mp h with e | e
    · rw [e]; exact (foldl_max r x).2.1
    · exact (foldl_max r x).2.2 y e
theorem minL_mem : ∀ {l : List Int}, l ≠ [] → minL l ∈ l
  | [], h => absurd rfl h
  | x :: r, _ => by
    show r.foldl (fun a b => if b < a then b else a) x ∈ x :: r
    rcases (foldl_min r x).1 with e | e
    · rw [e]; exact List.mem_cons_self
    · exact List.mem_cons_of_mem _ e
theorem minL_le : ∀ {l : List Int} {y : Int}, y ∈ l → minL l ≤ y
  | [], _, h => by cases h
  | x :: r, y, h => by
    unfold minL
    rcases List.mem_cons.mp h with e | e
    · rw [e]; exact (foldl_min r x).2.1
    · exact (foldl_min r x).2.2 y e

section
variable {w : Wr}
/-! ### built-in functions -/
def Tops (w : Wr) (F H : Hp) : List D → List V → Prop
  | [], vs => vs = []
  | x :: xs, vs => ∃ v r, vs = v :: r ∧ Top w F H x v ∧ Tops w F H xs r
theorem Tops.one {F H : Hp} {x : D} {vs : List V} (h : Tops w F H [x] vs) : ∃ v, vs = [v] ∧ Top w F H x v := by
  obtain ⟨v, r, e, t, h⟩ := h
  have h' : r = [] := h
  subst h'
  exact ⟨v, e, t⟩
theorem Tops.two {F H : Hp} {x y : D} {vs : List V} (h : Tops w F H [x, y] vs) : ∃ v u, vs = [v, u] ∧ Top w F H x v ∧ Top w F H y u := by
  obtain ⟨v, r, e, t, h⟩ := h
  obtain ⟨u, e2, t2⟩ := h.one
  subst e2
  exact ⟨v, u, e, t, t2⟩
def biFn : Bi → Value
  | .len => .builtin "len" | .tuple => .type "tuple" | .list => .type "list" | .sum => .builtin "sum" | .max => .builtin "max" | .min => .builtin "min"
  | .abs => .builtin "abs" | .sorted => .builtin "sorted" | .all => .builtin "all" | .any => .builtin "any" | .int => .type "int" | .str => .type "str"
abbrev RN := List V → Hp → VK → Prop
def rLenSeq (K : PySem.W.Frag) : RN := fun xs H Q => ∃ p ys, xs = [.ref p] ∧ (SqL K H p ys ∨ SqT K H p ys) ∧ Q (.int ys.length) H
def rLenStr : RN := fun xs H Q => ∃ z, xs = [.str z] ∧ z.length ≤ sizeLine ∧ Q (.int z.length) H
def rTupOf (K : PySem.W.Frag) : RN := fun xs H Q => ∃ p ys, xs = [.ref p] ∧ ((SqL K H p ys ∧ ∀ l, H l = none → Q (.ref l) (upd H l (.tup ys))) ∨ (SqT K H p ys ∧ Q (.ref p) H))
def rLstOf (K : PySem.W.Frag) : RN := fun xs H Q => ∃ p ys, xs = [.ref p] ∧ (SqL K H p ys ∨ SqT K H p ys) ∧ ∀ l, H l = none → Q (.ref l) (upd H l (.lst ys))
def rMax2 : RN := fun xs H Q => ∃ i j, xs = [.int i, .int j] ∧ Q (.int (if j > i then j else i)) H
def rMin2 : RN := fun xs H Q => ∃ i j, xs = [.int i, .int j] ∧ Q (.int (if j < i then j else i)) H
def rAbs : RN := fun xs H Q => ∃ i, xs = [.int i] ∧ Q (.int (if i < 0 then -i else i)) H
def rInt1 : RN := fun xs H Q => (∃ i, xs = [.int i] ∧ Q (.int i) H) ∨ ∃ k, xs = [.bl k] ∧ Q (.int (if k then 1 else 0)) H
def rNot : RN := fun _ _ _ => False
def rBi (K : PySem.W.Frag) : Bi → RN
  | .len => fun xs H Q => rLenSeq K xs H Q ∨ rLenStr xs H Q
  | .tuple => rTupOf K
  | .list => rLstOf K
  | .sum => rSum K
  | .max => fun xs H Q => rMax K xs H Q ∨ rMax2 xs H Q
  | .min => fun xs H Q => rMin K xs H Q ∨ rMin2 xs H Q
  | .abs => rAbs
  | .sorted => fun xs H Q => rSortedI K xs H Q ∨ rSortedS K xs H Q
  | .all => rAll K
  | .any => rAny K
  | .int => rInt1
  | .str => rNot
theorem biR {X : Cx} (hc : X.calm = true) (b : Bi) : CallR X (biFn b) (rBi X.K b) := by
  cases b with
  | len => exact call_len_seq.or call_len_str
  | tuple => exact call_tuple_of
  | list => exact call_list_of
  | sum => exact cr_sum hc
  | max => exact (cr_max hc).or (call_max2 hc)
  | min => exact (cr_min hc).or (call_min2 hc)
  | abs => exact call_abs
  | sorted => exact cr_sortedI.or cr_sortedS
  | all => exact cr_all hc
  | any => exact cr_any hc
  | int => exact call_int1
  | str => exact fun _ _ _ _ _ _ _ _ _ h => h.elim
def PrimN (w : Wr) (f : List D → Option Vl) (r : RN) : Prop := ∀ (F G H : Hp) (μ : List Addr) (M : Mem) (ds : List D) (vs : List V) (z : Vl) (Q : VK),
  GR w F G H μ M → Tops w F H ds vs → f ds = some z → Wish w F G μ M z Q → r vs H Q
theorem isortI_len (l : List Int) : (isortI l).length = l.length := (isortI_perm l).length_eq
theorem isortS_len (l : List Str) : (isortS l).length = l.length := (isortS_perm l).length_eq
theorem ints_len : ∀ {xs : List D} {ns : List Int}, D.ints? xs = some ns → ns.length = xs.length
  | [], ns, e => by cases e; rfl
  | x :: xs, ns, e => by
    cases x with
    | int i =>
      simp only [D.ints?, Option.map_eq_some_iff] at e
      obtain ⟨ms, e1, e2⟩ := e
      subst e2
      simp [ints_len e1]
    | _ => simp [D.ints?] at e
theorem strs_len : ∀ {xs : List D} {ns : List Str}, D.strs? xs = some ns → ns.length = xs.length
  | [], ns, e => by cases e; rfl
  | x :: xs, ns, e => by
    cases x with
    | str i =>
      simp only [D.strs?, Option.map_eq_some_iff] at e
      obtain ⟨ms, e1, e2⟩ := e
      subst e2
      simp [strs_len e1]
    | _ => simp [D.strs?] at e
theorem prim_bi (b : Bi) : PrimN w (bi b) (rBi w.K b) := by
  intro F G H μ M ds vs z Q g t h k
  unfold bi at h
  split at h
  · obtain ⟨v, e, t⟩ := t.one
    obtain ⟨a, us, e1, h1, z1, r1⟩ := t.lst
    subst e e1
    cases Option.some.inj h
    exact .inl ⟨a, us, rfl, .inl (.of h1), by rw [← r1.length]; exact k.int g⟩
  · obtain ⟨v, e, t⟩ := t.one
    obtain ⟨a, us, e1, h1, z1, r1⟩ := t.tup g.sub
    subst e e1
    cases Option.some.inj h
    exact .inl ⟨a, us, rfl, .inr h1, by rw [← r1.length]; exact k.int g⟩
  · obtain ⟨v, e, t⟩ := t.one
    obtain ⟨a, e1, h1⟩ := t.scr g.sub
    subst e e1
    cases Option.some.inj h
    exact .inl ⟨a, _, rfl, .inl h1, by rw [List.length_map]; exact k.int g⟩
  · obtain ⟨v, e, t⟩ := t.one
    obtain ⟨e1, o1⟩ := t.str
    subst e e1
    cases Option.some.inj h
    exact .inr ⟨_, rfl, okS_len o1, k.int g⟩
  · obtain ⟨v, e, t⟩ := t.one
    obtain ⟨a, us, e1, h1, z1, r1⟩ := t.lst
    subst e e1
    cases Option.some.inj h
    exact ⟨a, us, rfl, .inl ⟨.of h1, k.tup g z1 r1⟩⟩
  · obtain ⟨v, e, t⟩ := t.one
    have t' : DR w F (.tup _) v := t
    obtain ⟨a, us, e1, h1, z1, r1⟩ := t.tup g.sub
    subst e e1
    cases Option.some.inj h
    exact ⟨a, us, rfl, .inr ⟨h1, k.d g t'⟩⟩
  · obtain ⟨v, e, t⟩ := t.one
    obtain ⟨a, us, e1, h1, z1, r1⟩ := t.lst
    subst e e1
    cases Option.some.inj h
    exact ⟨a, us, rfl, .inl (.of h1), k.lst g z1 r1⟩
  · obtain ⟨v, e, t⟩ := t.one
    obtain ⟨a, us, e1, h1, z1, r1⟩ := t.tup g.sub
    subst e e1
    cases Option.some.inj h
    exact ⟨a, us, rfl, .inr h1, k.lst g z1 r1⟩
  · obtain ⟨v, e, t⟩ := t.one
    obtain ⟨a, us, e1, h1, z1, r1⟩ := t.lst
    subst e e1
    obtain ⟨ns, e2, e3⟩ := Option.map_eq_some_iff.mp h
    subst e3
    have e4 := DRs.ints w r1 e2
    subst e4
    exact ⟨a, ns, rfl, .of h1, k.int g⟩
  · obtain ⟨v, e, t⟩ := t.one
    obtain ⟨a, us, e1, h1, z1, r1⟩ := t.lst
    subst e e1
    obtain ⟨ns, e2, e3⟩ := Option.bind_eq_some_iff.mp h
    have e4 := DRs.ints w r1 e2
    subst e4
    split at e3
    · cases e3
    · rename_i hne
      cases Option.some.inj e3
      have hne' : ns ≠ [] := fun q => hne (by rw [q]; rfl)
      refine .inl ⟨a, ns, rfl, .of h1, List.length_pos_iff.mpr hne', fun m hm hb => ?_⟩
      have em : m = maxL ns := Int.le_antisymm (maxL_le hm) (hb _ (maxL_mem hne'))
      rw [em]
      exact k.int g
  · obtain ⟨v, e, t⟩ := t.one
    obtain ⟨a, us, e1, h1, z1, r1⟩ := t.lst
    subst e e1
    obtain ⟨ns, e2, e3⟩ := Option.bind_eq_some_iff.mp h
    have e4 := DRs.ints w r1 e2
    subst e4
    split at e3
    · cases e3
    · rename_i hne
      cases Option.some.inj e3
      have hne' : ns ≠ [] := fun q => hne (by rw [q]; rfl)
      refine .inl ⟨a, ns, rfl, .of h1, List.length_pos_iff.mpr hne', fun m hm hb => ?_⟩
      have em : m = minL ns := Int.le_antisymm (hb _ (minL_mem hne')) (minL_le hm)
      rw [em]
      exact k.int g
  · obtain ⟨v, u, e, t1, t2⟩ := t.two
    cases t1.int
    cases t2.int
    subst e
    cases Option.some.inj h
    exact .inr ⟨_, _, rfl, k.int g⟩
  · obtain ⟨v, u, e, t1, t2⟩ := t.two
    cases t1.int
    cases t2.int
    subst e
    cases Option.some.inj h
    exact .inr ⟨_, _, rfl, k.int g⟩
  · obtain ⟨v, e, t1⟩ := t.one
    cases t1.int
    subst e
    cases Option.some.inj h
    exact ⟨_, rfl, k.int g⟩
  · obtain ⟨v, e, t⟩ := t.one
    obtain ⟨a, us, e1, h1, z1, r1⟩ := t.lst
    subst e e1
    cases Option.some.inj h
    simp only [DRs] at r1
    subst r1
    refine .inl ⟨a, [], rfl, .of h1, fun ns' p hp _ hn => ?_⟩
    have e0 : ns' = [] := hp.eq_nil
    subst e0
    exact k.lst g (Nat.zero_le _) (DRs.nil w) p hn
  · rename_i i xs
    obtain ⟨v, e, t⟩ := t.one
    obtain ⟨a, us, e1, h1, z1, r1⟩ := t.lst
    subst e e1
    obtain ⟨ns, e2, e3⟩ := Option.map_eq_some_iff.mp h
    subst e3
    have e4 := DRs.ints w r1 (ns := i :: ns) (by simp only [D.ints?, e2]; rfl)
    subst e4
    refine .inl ⟨a, i :: ns, rfl, .of h1, fun ns' p hp hs hn => ?_⟩
    rw [isortI_eq hp hs]
    refine k.lst g ?_ (DRs.ofInts w _) p hn
    rw [List.length_map, isortI_len]
    have e5 := ints_len e2
    simp only [List.length_cons] at z1 ⊢
    omega
  · rename_i i xs
    obtain ⟨v, e, t⟩ := t.one
    obtain ⟨a, us, e1, h1, z1, r1⟩ := t.lst
    subst e e1
    obtain ⟨ns, e2, e3⟩ := Option.bind_eq_some_iff.mp h
    split at e3
    · rename_i hlt
      cases Option.some.inj e3
      obtain ⟨e4, e5⟩ := DRs.strs w r1 (ns := i :: ns) (by simp only [D.strs?, e2]; rfl)
      subst e4
      refine .inr ⟨a, i :: ns, rfl, .of h1, by simp only [List.length_cons]; omega, fun ns' p hp hs hn => ?_⟩
      rw [isortS_eq hp hs]
      refine k.lst g ?_ (DRs.ofStrs w _ fun s hs => e5 s ((isortS_perm _).mem_iff.mp hs)) p hn
      rw [List.length_map, isortS_len]
      have e6 := strs_len e2
      simp only [List.length_cons] at z1 ⊢
      omega
    · cases e3
  · obtain ⟨v, e, t⟩ := t.one
    obtain ⟨a, us, e1, h1, z1, r1⟩ := t.lst
    subst e e1
    obtain ⟨ns, e2, e3⟩ := Option.map_eq_some_iff.mp h
    subst e3
    have e4 := DRs.bls w r1 e2
    subst e4
    exact ⟨a, ns, rfl, .of h1, k.bl g⟩
  · obtain ⟨v, e, t⟩ := t.one
    obtain ⟨a, us, e1, h1, z1, r1⟩ := t.lst
    subst e e1
    obtain ⟨ns, e2, e3⟩ := Option.map_eq_some_iff.mp h
    subst e3
    have e4 := DRs.bls w r1 e2
    subst e4
    exact ⟨a, ns, rfl, .of h1, k.bl g⟩
  · obtain ⟨v, e, t1⟩ := t.one
    cases t1.int
    subst e
    cases Option.some.inj h
    exact .inl ⟨_, rfl, k.int g⟩
  · obtain ⟨v, e, t1⟩ := t.one
    cases t1.bl
    subst e
    cases Option.some.inj h
    exact .inr ⟨_, rfl, k.int g⟩
  · cases h

/-! ### subscripts, slices -/
theorem atI_rel {F : Hp} {xs : List D} {vs : List V} {i : Int} {x : D} (r : DRs w F xs vs) (h : atI xs i = some x) : ∃ v, atI vs i = some v ∧ DR w F x v := by
  unfold atI at h ⊢
  rw [← DRs.length w r]
  obtain ⟨j, e1, e2⟩ := Option.bind_eq_some_iff.mp h
  obtain ⟨v, e3, d⟩ := DRs.get w r e2
  exact ⟨v, by rw [e1]; exact e3, d⟩
theorem okS_one {c : Nat} (h : c < 0x110000) : okS ⟨#[c]⟩ = true := by
  refine Bool.and_eq_true_iff.mpr ⟨?_, decide_eq_true ?_⟩
  · unfold PyData.strOk
    simp [h]
  · show 1 ≤ sizeLine
    rw [sizeLine_eq]
    omega
theorem okS_cp {z : Str} (h : okS z = true) {c : Nat} (hc : c ∈ z.cps.toList) : c < 0x110000 := by
  have h1 := okS_strOk h
  unfold PyData.strOk at h1
  rw [← Array.all_toList] at h1
  exact of_decide_eq_true (List.all_eq_true.mp h1 c hc)
theorem atI_mem {α : Type} {xs : List α} {i : Int} {x : α} (h : atI xs i = some x) : x ∈ xs := by
  unfold atI at h
  obtain ⟨j, _, e2⟩ := Option.bind_eq_some_iff.mp h
  exact List.mem_of_getElem? e2
theorem prim_idx : Prim2 w idx (rIx w.K) := by
  intro F G H μ M dx dy vx vy z Q g tx ty h k
  unfold idx at h
  split at h
  · rename_i xs i
    cases ty.int
    obtain ⟨a, us, e1, h1, z1, r1⟩ := tx.lst
    subst e1
    obtain ⟨x, e2, e3⟩ := Option.map_eq_some_iff.mp h
    subst e3
    obtain ⟨v, e4, d⟩ := atI_rel r1 e2
    exact .inl ⟨a, us, i, v, rfl, rfl, .of h1, e4, k.d g d⟩
  · rename_i xs i
    cases ty.int
    obtain ⟨a, us, e1, h1, z1, r1⟩ := tx.tup g.sub
    subst e1
    obtain ⟨x, e2, e3⟩ := Option.map_eq_some_iff.mp h
    subst e3
    obtain ⟨v, e4, d⟩ := atI_rel r1 e2
    exact .inr (.inl ⟨a, us, i, v, rfl, rfl, h1, e4, k.d g d⟩)
  · rename_i ns i
    cases ty.int
    obtain ⟨a, e1, h1⟩ := tx.scr g.sub
    subst e1
    obtain ⟨x, e2, e3⟩ := Option.map_eq_some_iff.mp h
    subst e3
    refine .inl ⟨a, _, i, .int x, rfl, rfl, h1, ?_, k.int g⟩
    unfold atI at e2 ⊢
    rw [List.length_map]
    obtain ⟨j, e5, e6⟩ := Option.bind_eq_some_iff.mp e2
    rw [e5]
    show (ns.map V.int)[j]? = _
    rw [List.getElem?_map, e6]
    rfl
  · rename_i s i
    cases ty.int
    obtain ⟨e1, o1⟩ := tx.str
    subst e1
    obtain ⟨c, e2, e3⟩ := Option.map_eq_some_iff.mp h
    subst e3
    exact .inr (.inr ⟨s, i, c, rfl, rfl, okS_len o1, e2, k.str g (okS_one (okS_cp o1 (atI_mem e2)))⟩)
  · cases h
def rSlAny (K : PySem.W.Frag) : V → Option Int → Option Int → Hp → VK → Prop := fun x lo hi H Q => rSlL K x lo hi H Q ∨ rSlA K x lo hi H Q ∨ rSlS x lo hi H Q
theorem slAny {X : Cx} : SlR X (rSlAny X.K) := sl_list.or (sl_tupA.or sl_str)
theorem cutD_len {α : Type} (xs : List α) (lo hi : Option Int) : (cutD xs lo hi).length ≤ xs.length := by
  unfold cutD
  rw [List.length_take, List.length_drop]
  omega
theorem cut_rel {F : Hp} {xs : List D} {vs : List V} (r : DRs w F xs vs) (lo hi : Option Int) : DRs w F (cutD xs lo hi) (cutV vs lo hi) := by
  unfold cutD cutV
  rw [← DRs.length w r]
  exact DRs.take w _ (DRs.drop w _ r)
theorem cut_mem {α : Type} {xs : List α} {lo hi : Option Int} {x : α} (h : x ∈ cutD xs lo hi) : x ∈ xs := List.mem_of_mem_drop (List.mem_of_mem_take h)
theorem prim_slice {F G H : Hp} {μ : List Addr} {M : Mem} {x : D} {v : V} {lo hi : Option Int} {z : Vl} {Q : VK} (g : GR w F G H μ M) (t : Top w F H x v) (h : slice x lo hi = some z) (k : Wish w F G μ M z Q) : rSlAny w.K v lo hi H Q := by
  unfold slice at h
  split at h
  · obtain ⟨a, us, e1, h1, z1, r1⟩ := t.lst
    subst e1
    cases Option.some.inj h
    exact .inl ⟨a, us, rfl, .of h1, k.lst g (Nat.le_trans (cutD_len _ _ _) z1) (cut_rel r1 _ _)⟩
  · rename_i xs
    have t' : DR w F (.tup _) v := t
    obtain ⟨a, us, e1, h1, z1, r1⟩ := t.tup g.sub
    subst e1
    cases Option.some.inj h
    refine .inr (.inl ⟨a, us, rfl, h1, fun hw => ?_, fun _ => k.tup g (Nat.le_trans (cutD_len _ _ _) z1) (cut_rel r1 _ _)⟩)
    have e : cutD xs lo hi = xs := by
      unfold cutD
      rw [← DRs.length w r1] at hw
      rw [hw.1, hw.2, List.drop_zero, Nat.sub_zero, List.take_length]
    rw [e] at k
    exact k.d g t'
  · rename_i s
    obtain ⟨e1, o1⟩ := t.str
    subst e1
    cases Option.some.inj h
    refine .inr (.inr ⟨s, rfl, okS_len o1, k.str g ?_⟩)
    refine Bool.and_eq_true_iff.mpr ⟨?_, decide_eq_true ?_⟩
    · unfold PyData.strOk
      rw [← Array.all_toList, List.toList_toArray]
      exact List.all_eq_true.mpr fun c hc => decide_eq_true (okS_cp o1 (cut_mem hc))
    · show (cutD s.cps.toList lo hi).toArray.size ≤ sizeLine
      rw [List.size_toArray]
      refine Nat.le_trans (cutD_len _ _ _) ?_
      rw [Array.length_toList]
      exact okS_len o1
  · cases h

/-! ### isinstance -/
def tyName : Ty → String
  | .int => "int" | .bool => "bool" | .str => "str" | .list => "list" | .tuple => "tuple" | .dict => "dict" | .cls _ => "?"
def dName : D → String
  | .non => "NoneType" | .bl _ => "bool" | .int _ => "int" | .str _ => "str" | .lst _ => "list" | .tup _ => "tuple" | .dic _ => "dict" | _ => "?"
def Ty.blt : Ty → Bool
  | .cls _ => false
  | _ => true
theorem ty_of {F H : Hp} (l : Fle F H) {x : D} {v : V} (hx : x.plainTy = true) (t : Top w F H x v) : TyX w.K H v (.type (dName x)) := by
  cases x with
  | non => cases t.non; exact .base .non
  | bl b => cases t.bl; exact .base (.bl b)
  | int i => cases t.int; exact .base (.int i)
  | str s => obtain ⟨e, _⟩ := t.str; subst e; exact .base (.str s)
  | lst xs =>
    obtain ⟨a, us, e1, h1, z1, r1⟩ := t.lst
    subst e1
    exact .base (.lst h1)
  | tup xs =>
    obtain ⟨a, us, e1, h1, z1, r1⟩ := t.tup l
    subst e1
    rcases h1 with (h1 | ⟨o, h1⟩) | ⟨o, its, n, h1, h2, _⟩
    · exact .base (.tup h1)
    · exact .fTuple h1
    · exact .kTuple h1 h2
  | dic kvs =>
    have t' : DR w F (.dic kvs) v := t
    simp only [DR] at t'
  | ins c fs => cases hx
  | scr ns => cases hx
theorem kit_has {K : PySem.W.Frag} {x : D} {t : Ty} (hx : x.plainTy = true) (ht : t.blt = true) : PySem.W.kitOne K (.type (dName x)) (.type (tyName t)) = some (t.has x) := by
  cases t with
  | cls c => cases ht
  | _ => cases x <;> first | (cases hx; done) | exact kit_ty (by simp only [dName, tyName, Ty.has]; decide +kernel)
theorem kit_any {K : PySem.W.Frag} {x : D} (hx : x.plainTy = true) : ∀ ts : List Ty, ts.all Ty.blt = true → PySem.W.kitAny K (.type (dName x)) (ts.map fun t => .type (tyName t)) = some (ts.any fun t => t.has x)
  | [], _ => rfl
  | t :: ts, h => by
    obtain ⟨h1, h2⟩ := Bool.and_eq_true_iff.mp h
    have ih := kit_any (K := K) hx ts h2
    refine kitAny_cons (kit_has hx h1) (fun e => ?_) (fun e => ?_)
    · rw [List.any_cons, e, Bool.false_or]
      exact ih
    · rw [List.any_cons, e, Bool.true_or]
end
end Pd

/-! Pd6: readings by the evaluator; each construct's reading follows. -/
namespace Pd
open PySem PySem.Spec L2

section
variable (w : Wr)
/-- the dict of an exception holds these fields -/
def ExcR (F H : Hp) (fs : List (Str × D)) (dd : Addr) : Prop := ∃ gs, H dd = some (.xd gs) ∧ ∀ f x, fs.lookup f = some x → ∃ v, gs.lookup f = some v ∧ DR w F x v
/-- an outcome leads to what is wanted -/
def Out {α β : Type} (F G : Hp) (μ : List Addr) (σ : L2.St) (rel : Hp → Hp → α → β → Prop) (r : R α) (Q : β → Hp → Prop) (W : WX) : Prop := match r with
  | .ok a M => ∀ F' H b, Fle F F' → GR w F' G H μ M → rel F' H a b → Q b H
  | .exc c fs M => ∀ F' H dd, Fle F F' → GR w F' G H μ M → ExcR w F' H fs dd → W (.ref (w.ca c)) (some dd) σ H
  | .no => False
def VRs (F : Hp) (μ : List Addr) : List Vl → List V → Prop
  | [], vs => vs = []
  | x :: xs, vs => ∃ v r, vs = v :: r ∧ VR w F μ x v ∧ VRs F μ xs r
abbrev relV (G : Hp) (μ : List Addr) : Hp → Hp → Vl → V → Prop := fun F H x v => RR w F G μ H x v
abbrev relA (μ : List Addr) : Hp → Hp → List Vl → List V → Prop := fun F _ xs vs => VRs w F μ xs vs
abbrev relB : Hp → Hp → Bool → Bool → Prop := fun _ _ a b => a = b
def tE (W : WX) (m : Vars → Mem → R Vl) : TE := fun σ H Q => ∃ F G μ vs M, GR w F G H μ M ∧ SR w F μ vs σ ∧ Out w F G μ σ (relV w G μ) (m vs M) Q W
def tA (W : WX) (m : Vars → Mem → R (List Vl)) : TA := fun σ H Q => ∃ F G μ vs M, GR w F G H μ M ∧ SR w F μ vs σ ∧ Out w F G μ σ (relA w μ) (m vs M) Q W
def tT (W : WX) (m : Vars → Mem → R Bool) : TT := fun σ H Q => ∃ F G μ vs M, GR w F G H μ M ∧ SR w F μ vs σ ∧ Out w F G μ σ relB (m vs M) Q W
end

section
variable {w : Wr} {α β γ δ : Type} {F F' G H : Hp} {μ : List Addr} {σ : L2.St} {rel : Hp → Hp → α → β → Prop} {rel' : Hp → Hp → γ → δ → Prop} {r : R α} {Q Q' : β → Hp → Prop} {W : WX}
theorem Out.le (l : Fle F F') (h : Out w F G μ σ rel r Q W) : Out w F' G μ σ rel r Q W := by
  cases r with
  | ok a M => exact fun F2 H b l2 => h F2 H b (l.trans l2)
  | exc c fs M => exact fun F2 H b l2 => h F2 H b (l.trans l2)
  | no => exact h
theorem Out.imp (h : Out w F G μ σ rel r Q W) (i : ∀ b H, Q b H → Q' b H) : Out w F G μ σ rel r Q' W := by
  cases r with
  | ok a M => exact fun F2 H b l2 g k => i _ _ (h F2 H b l2 g k)
  | exc c fs M => exact h
  | no => exact h
theorem Out.bind1 {f : α → Mem → R γ} {Q : δ → Hp → Prop} (h : Out w F G μ σ rel' (r.bind f) Q W) :
    Out w F G μ σ rel r (fun b H => ∃ a M F', Fle F F' ∧ GR w F' G H μ M ∧ rel F' H a b ∧ r = .ok a M ∧ Out w F' G μ σ rel' (f a M) Q W) W := by
  cases r with
  | ok a M => exact fun F2 H b l2 g k => ⟨a, M, F2, l2, g, k, rfl, Out.le l2 h⟩
  | exc c fs M => exact h
  | no => exact h
theorem Out.lift {o : Option α} {M : Mem} (h : Out w F G μ σ rel (R.lift o M) Q W) : ∃ a, o = some a ∧ Out w F G μ σ rel (.ok a M) Q W := by
  cases o with
  | some a => exact ⟨a, rfl, h⟩
  | none => exact h.elim
theorem VRs.le (l : Fle F F') {xs : List Vl} {vs : List V} (h : VRs w F μ xs vs) : VRs w F' μ xs vs := by
  induction xs generalizing vs with
  | nil => exact h
  | cons x xs ih =>
    obtain ⟨v, r, e, h1, h2⟩ := h
    exact ⟨v, r, e, h1.le l, ih h2⟩
theorem PE.imp {X : Cx} {e : Expr} {t t' : TE} (h : PE X e t) (i : ∀ σ H Q, t' σ H Q → t σ H Q) : PE X e t' := ⟨fun pins s σ H Q I hw => h.run pins s σ H Q I (i σ H Q hw)⟩
theorem PT.imp {X : Cx} {e : Expr} {t t' : TT} (h : PT X e t) (i : ∀ σ H Q, t' σ H Q → t σ H Q) : PT X e t' := ⟨fun pins s σ H Q I hw => h.run pins s σ H Q I (i σ H Q hw)⟩
theorem PW.imp {X : Cx} {e : Expr} {t t' : TT} (h : PW X e t) (i : ∀ σ H Q, t' σ H Q → t σ H Q) : PW X e t' := ⟨fun wh pins s σ H Q I hw => h.run wh pins s σ H Q I (i σ H Q hw)⟩
theorem PA.imp {X : Cx} {e : List Expr} {t t' : TA} (h : PA X e t) (i : ∀ σ H Q, t' σ H Q → t σ H Q) : PA X e t' := ⟨fun pos pins s σ H Q I hw => h.run pos pins s σ H Q I (i σ H Q hw)⟩
theorem PS.imp {X : Cx} {e : Stmt} {t t' : TS} (h : PS X e t) (i : ∀ D σ H, t' D σ H → t D σ H) : PS X e t' := ⟨fun pins s σ H D I hw => h.run pins s σ H D I (i D σ H hw)⟩
theorem PSs.imp {X : Cx} {e : List Stmt} {t t' : TS} (h : PSs X e t) (i : ∀ D σ H, t' D σ H → t D σ H) : PSs X e t' := ⟨fun pins s σ H D I hw => h.run pins s σ H D I (i D σ H hw)⟩
theorem der_frz (M : Mem) (x : Vl) : der M (frz x) = der M x := by cases x <;> rfl
end

section
variable {w : Wr} {W : WX} {σ : L2.St} {H : Hp}
/-- a part is evaluated, its outcome stands frozen -/
theorem tE.step {ma : Vars → Mem → R Vl} {γ δ : Type} {F G : Hp} {μ : List Addr} {vs : Vars} {M : Mem} {rel' : Hp → Hp → γ → δ → Prop} {f : Vl → Mem → R γ} {Q : δ → Hp → Prop} {P : VK}
    (g : GR w F G H μ M) (s : SR w F μ vs σ) (h : Out w F G μ σ rel' ((ma vs M).bind f) Q W)
    (k : ∀ v H1 x M1 F1, GR w F1 G H1 μ M1 → SR w F1 μ vs σ → Fle F F1 → VR w F1 μ (frz x) v → ma vs M = .ok x M1 → Out w F1 G μ σ rel' (f x M1) Q W → P v H1) : tE w W ma σ H P := by
  refine ⟨F, G, μ, vs, M, g, s, (h.bind1 (rel := relV w G μ)).imp fun v H1 ⟨x, M1, F1, l1, g1, r1, e1, h1⟩ => ?_⟩
  obtain ⟨F2, l2, g2, r2⟩ := g1.frz r1
  exact k v H1 x M1 F2 g2 ((s.le l1).le l2) (l1.trans l2) r2 e1 (h1.le l2)
theorem tT.step {ma : Vars → Mem → R Bool} {γ δ : Type} {F G : Hp} {μ : List Addr} {vs : Vars} {M : Mem} {rel' : Hp → Hp → γ → δ → Prop} {f : Bool → Mem → R γ} {Q : δ → Hp → Prop} {P : Bool → Hp → Prop}
    (g : GR w F G H μ M) (s : SR w F μ vs σ) (h : Out w F G μ σ rel' ((ma vs M).bind f) Q W)
    (k : ∀ v H1 M1 F1, GR w F1 G H1 μ M1 → SR w F1 μ vs σ → Fle F F1 → Out w F1 G μ σ rel' (f v M1) Q W → P v H1) : tT w W ma σ H P := by
  refine ⟨F, G, μ, vs, M, g, s, (h.bind1 (rel := relB)).imp fun v H1 ⟨x, M1, F1, l1, g1, r1, _, h1⟩ => ?_⟩
  cases r1
  exact k _ H1 M1 F1 g1 (s.le l1) l1 h1
theorem tA.step {ma : Vars → Mem → R (List Vl)} {γ δ : Type} {F G : Hp} {μ : List Addr} {vs : Vars} {M : Mem} {rel' : Hp → Hp → γ → δ → Prop} {f : List Vl → Mem → R γ} {Q : δ → Hp → Prop} {P : List V → Hp → Prop}
    (g : GR w F G H μ M) (s : SR w F μ vs σ) (h : Out w F G μ σ rel' ((ma vs M).bind f) Q W)
    (k : ∀ us H1 xs M1 F1, GR w F1 G H1 μ M1 → SR w F1 μ vs σ → Fle F F1 → VRs w F1 μ xs us → ma vs M = .ok xs M1 → Out w F1 G μ σ rel' (f xs M1) Q W → P us H1) : tA w W ma σ H P := by
  refine ⟨F, G, μ, vs, M, g, s, (h.bind1 (rel := relA w μ)).imp fun v H1 ⟨x, M1, F1, l1, g1, r1, e1, h1⟩ => ?_⟩
  exact k v H1 x M1 F1 g1 (s.le l1) l1 r1 e1 h1
/-- what an outcome that is there leads to -/
theorem Out.here {α β : Type} {F G : Hp} {μ : List Addr} {M : Mem} {rel : Hp → Hp → α → β → Prop} {a : α} {Q : β → Hp → Prop} {b : β} (h : Out w F G μ σ rel (.ok a M) Q W) (g : GR w F G H μ M) (r : rel F H a b) : Q b H := h F H b Fle.refl g r
theorem Out.wish {F G : Hp} {μ : List Addr} {M : Mem} {z : Vl} {Q : VK} (h : Out w F G μ σ (relV w G μ) (.ok z M) Q W) : Wish w F G μ M z Q := h

theorem imp_var {i : Nat} {Q : VK} (h : tE w W (fun vs M => match vs[i]? with
    | some (some x) => .ok x M
    | _ => .no) σ H Q) : tVar i σ H Q := by
  obtain ⟨F, G, μ, vs, M, g, s, h⟩ := h
  cases e : vs[i]? with
  | none => simp only [e] at h; exact h.elim
  | some o =>
    cases o with
    | none => simp only [e] at h; exact h.elim
    | some x =>
      simp only [e] at h
      obtain ⟨v, e1, r⟩ := s.at_ i x e
      refine ⟨v, e1, Out.here h g ?_⟩
      cases x with
      | d x => exact r
      | loc n => exact r
      | new x => exact r.elim
theorem imp_k {d : D} {v : V} {Q : VK} (hd : ∀ F : Hp, DR w F d v) (h : tE w W (fun _ M => .ok (.d d) M) σ H Q) : tC v σ H Q := by
  obtain ⟨F, G, μ, vs, M, g, s, h⟩ := h
  exact Out.here h g (hd F)
theorem imp_op2 {ma mb : Vars → Mem → R Vl} {f : D → D → Option Vl} {r : R2} (hr : Prim2 w f r) {Q : VK}
    (h : tE w W (fun vs M => (ma vs M).bind fun x M1 => (mb vs M1).bind fun y M2 => R.lift ((der M2 x).bind fun x => (der M2 y).bind fun y => f x y) M2) σ H Q) : tOp r (tE w W ma) (tE w W mb) σ H Q := by
  obtain ⟨F, G, μ, vs, M, g, s, h⟩ := h
  refine tE.step g s h fun v H1 x M1 F1 g1 s1 l1 r1 _ h1 => ?_
  refine tE.step g1 s1 h1 fun u H2 y M2 F2 g2 s2 l2 r2 _ h2 => ?_
  obtain ⟨z, e, h3⟩ := h2.lift
  obtain ⟨dx, ex, e⟩ := Option.bind_eq_some_iff.mp e
  obtain ⟨dy, ey, e⟩ := Option.bind_eq_some_iff.mp e
  exact hr F2 G H2 μ M2 dx dy v u z Q g2 (top_of g2 (r1.le l2) (by rw [der_frz]; exact ex)) (top_of g2 r2 (by rw [der_frz]; exact ey)) e h3.wish
theorem imp_chain {ma mb mc : Vars → Mem → R Vl} {f p : D → D → Option Vl} {r r' : R2} (hr : Prim2 w f r) (hr' : Prim2 w p r') {Q : VK}
    (h : tE w W (fun vs M => (ma vs M).bind fun x M1 => (mb vs M1).bind fun y M2 =>
      match (der M2 x).bind fun x => (der M2 y).bind fun y => (f x y).bind asB with
      | some true => (mc vs M2).bind fun z M3 => R.lift ((der M3 y).bind fun y => (der M3 z).bind fun z => p y z) M3
      | some false => .ok (.d (.bl false)) M2
      | none => .no) σ H Q) : tChain r r' (tE w W ma) (tE w W mb) (tE w W mc) σ H Q := by
  obtain ⟨F, G, μ, vs, M, g, s, h⟩ := h
  refine tE.step g s h fun v H1 x M1 F1 g1 s1 l1 r1 _ h1 => ?_
  refine tE.step g1 s1 h1 fun u H2 y M2 F2 g2 s2 l2 r2 _ h2 => ?_
  cases e : ((der M2 x).bind fun x => (der M2 y).bind fun y => (f x y).bind asB) with
  | none => rw [e] at h2; exact h2.elim
  | some b =>
    rw [e] at h2
    obtain ⟨dx, ex, e⟩ := Option.bind_eq_some_iff.mp e
    obtain ⟨dy, ey, e⟩ := Option.bind_eq_some_iff.mp e
    obtain ⟨z, ez, eb⟩ := Option.bind_eq_some_iff.mp e
    have hz : z = .d (.bl b) := by
      unfold asB at eb
      split at eb
      · cases eb; rfl
      · cases eb
    subst hz
    refine hr F2 G H2 μ M2 dx dy v u _ _ g2 (top_of g2 (r1.le l2) (by rw [der_frz]; exact ex)) (top_of g2 r2 (by rw [der_frz]; exact ey)) ez fun F3 H3 t l3 g3 r3 => ?_
    have et : t = .bl b := by
      have r3' : DR w F3 (.bl b) t := r3
      simpa only [DR] using r3'
    refine ⟨b, et, ?_⟩
    cases b with
    | false =>
      rw [if_neg (by decide)]
      exact Out.here (h2.le l3) g3 (by show DR w F3 (.bl false) (.bl false); simp only [DR])
    | true =>
      rw [if_pos rfl]
      refine tE.step g3 (s2.le l3) (h2.le l3) fun t2 H4 zz M4 F4 g4 s4 l4 r4 _ h4 => ?_
      obtain ⟨z2, e, h5⟩ := h4.lift
      obtain ⟨dy', ey', e⟩ := Option.bind_eq_some_iff.mp e
      obtain ⟨dz, ez, e⟩ := Option.bind_eq_some_iff.mp e
      exact hr' F4 G H4 μ M4 dy' dz u t2 z2 Q g4 (top_of g4 ((r2.le l3).le l4) (by rw [der_frz]; exact ey')) (top_of g4 r4 (by rw [der_frz]; exact ez)) e h5.wish
/-- an expression whose outcome is a bool, as a test -/
theorem imp_test {m : Vars → Mem → R Vl} (hm : ∀ vs M z M', m vs M = .ok z M' → ∃ b, z = .d (.bl b)) {Q : Bool → Hp → Prop}
    (h : tT w W (fun vs M => (m vs M).bind fun x M1 => R.lift ((der M1 x).bind D.truth) M1) σ H Q) : tE w W m σ H fun x H' => ∃ k, x = .bl k ∧ Q k H' := by
  obtain ⟨F, G, μ, vs, M, g, s, h⟩ := h
  refine tE.step g s h fun v H1 x M1 F1 g1 s1 l1 r1 e1 h1 => ?_
  obtain ⟨b, eb⟩ := hm _ _ _ _ e1
  subst eb
  obtain ⟨z, e, h2⟩ := h1.lift
  have ez : b = z := Option.some.inj e
  subst ez
  have r1' : DR w F1 (.bl b) v := r1
  simp only [DR] at r1'
  exact ⟨b, r1', Out.here h2 g1 rfl⟩
theorem tru_of {F G : Hp} {μ : List Addr} {M : Mem} (g : GR w F G H μ M) {x : D} {v : V} {b : Bool} (t : Top w F H x v) (e : x.truth = some b) : TruV w.K v H b := by
  unfold D.truth at e
  split at e
  · cases t.non; cases e; exact rfl
  · cases t.bl; cases e; exact rfl
  · cases t.int; cases e; exact rfl
  · rename_i s
    obtain ⟨e1, o1⟩ := t.str
    subst e1
    cases e
    refine ⟨okS_len o1, ?_⟩
    cases hs : s.length with
    | zero => rfl
    | succ n => rfl
  · rename_i xs
    obtain ⟨a, us, e1, h1, z1, r1⟩ := t.lst
    subst e1
    cases e
    refine .inl ⟨us, .of h1, ?_⟩
    have := r1.length
    cases xs <;> cases us <;> first | rfl | cases this
  · rename_i xs
    obtain ⟨a, us, e1, h1, z1, r1⟩ := t.tup g.sub
    subst e1
    cases e
    refine .inr (.inl ⟨us, h1, ?_⟩)
    have := r1.length
    cases xs <;> cases us <;> first | rfl | cases this
  · cases e
theorem imp_truth {m : Vars → Mem → R Vl} {Q : Bool → Hp → Prop}
    (h : tT w W (fun vs M => (m vs M).bind fun x M1 => R.lift ((der M1 x).bind D.truth) M1) σ H Q) : tE w W m σ H fun x H' => ∃ k, TruV w.K x H' k ∧ Q k H' := by
  obtain ⟨F, G, μ, vs, M, g, s, h⟩ := h
  refine tE.step g s h fun v H1 x M1 F1 g1 s1 l1 r1 e1 h1 => ?_
  obtain ⟨b, e, h2⟩ := h1.lift
  obtain ⟨d, ed, eb⟩ := Option.bind_eq_some_iff.mp e
  exact ⟨b, tru_of g1 (top_of g1 r1 (by rw [der_frz]; exact ed)) eb, Out.here h2 g1 rfl⟩
theorem asB_some {x : Vl} {b : Bool} (h : asB x = some b) : x = .d (.bl b) := by
  unfold asB at h
  split at h
  · cases h; rfl
  · cases h
theorem imp_andV {ma mb : Vars → Mem → R Vl} {Q : VK} (h : tE w W (fun vs M => (ma vs M).bind fun x M1 => match asB x with
        | some true => mb vs M1
        | some false => .ok (.d (.bl false)) M1
        | none => .no) σ H Q) : tAndV (tE w W ma) (tE w W mb) σ H Q := by
  obtain ⟨F, G, μ, vs, M, g, s, h⟩ := h
  refine tE.step g s h fun v H1 x M1 F1 g1 s1 l1 r1 _ h1 => ?_
  cases e : asB x with
  | none => rw [e] at h1; exact h1.elim
  | some b =>
    rw [e] at h1
    have ex := asB_some e
    subst ex
    have r1' : DR w F1 (.bl b) v := r1
    simp only [DR] at r1'
    refine ⟨b, r1', ?_⟩
    cases b with
    | true =>
      rw [if_pos rfl]
      exact ⟨F1, G, μ, vs, M1, g1, s1, h1⟩
    | false =>
      rw [if_neg (by decide)]
      exact Out.here h1 g1 (by show DR w F1 (.bl false) (.bl false); simp only [DR])
theorem imp_orV {ma mb : Vars → Mem → R Vl} {Q : VK} (h : tE w W (fun vs M => (ma vs M).bind fun x M1 => match asB x with
        | some false => mb vs M1
        | some true => .ok (.d (.bl true)) M1
        | none => .no) σ H Q) : tOrV (tE w W ma) (tE w W mb) σ H Q := by
  obtain ⟨F, G, μ, vs, M, g, s, h⟩ := h
  refine tE.step g s h fun v H1 x M1 F1 g1 s1 l1 r1 _ h1 => ?_
  cases e : asB x with
  | none => rw [e] at h1; exact h1.elim
  | some b =>
    rw [e] at h1
    have ex := asB_some e
    subst ex
    have r1' : DR w F1 (.bl b) v := r1
    simp only [DR] at r1'
    refine ⟨b, r1', ?_⟩
    cases b with
    | false =>
      rw [if_neg (by decide)]
      exact ⟨F1, G, μ, vs, M1, g1, s1, h1⟩
    | true =>
      rw [if_pos rfl]
      exact Out.here h1 g1 (by show DR w F1 (.bl true) (.bl true); simp only [DR])
theorem imp_and {ma mb : Vars → Mem → R Bool} {Q : Bool → Hp → Prop} (h : tT w W (fun vs M => (ma vs M).bind fun x M1 => if x then mb vs M1 else .ok false M1) σ H Q) : tAnd (tT w W ma) (tT w W mb) σ H Q := by
  obtain ⟨F, G, μ, vs, M, g, s, h⟩ := h
  refine tT.step g s h fun v H1 M1 F1 g1 s1 l1 h1 => ?_
  cases v with
  | true =>
    rw [if_pos rfl] at h1 ⊢
    exact ⟨F1, G, μ, vs, M1, g1, s1, h1⟩
  | false =>
    rw [if_neg (by decide)] at h1 ⊢
    exact Out.here h1 g1 rfl
theorem imp_or {ma mb : Vars → Mem → R Bool} {Q : Bool → Hp → Prop} (h : tT w W (fun vs M => (ma vs M).bind fun x M1 => if x then .ok true M1 else mb vs M1) σ H Q) : tOr (tT w W ma) (tT w W mb) σ H Q := by
  obtain ⟨F, G, μ, vs, M, g, s, h⟩ := h
  refine tT.step g s h fun v H1 M1 F1 g1 s1 l1 h1 => ?_
  cases v with
  | true =>
    rw [if_pos rfl] at h1 ⊢
    exact Out.here h1 g1 rfl
  | false =>
    rw [if_neg (by decide)] at h1 ⊢
    exact ⟨F1, G, μ, vs, M1, g1, s1, h1⟩
theorem imp_not {ma : Vars → Mem → R Bool} {Q : Bool → Hp → Prop} (h : tT w W (fun vs M => (ma vs M).bind fun x M1 => .ok (!x) M1) σ H Q) : tNot (tT w W ma) σ H Q := by
  obtain ⟨F, G, μ, vs, M, g, s, h⟩ := h
  refine tT.step g s h fun v H1 M1 F1 g1 s1 l1 h1 => ?_
  exact Out.here h1 g1 rfl
theorem imp_ife {mc : Vars → Mem → R Bool} {ma mb : Vars → Mem → R Vl} {Q : VK} (h : tE w W (fun vs M => (mc vs M).bind fun x M1 => if x then ma vs M1 else mb vs M1) σ H Q) : tIf (tT w W mc) (tE w W ma) (tE w W mb) σ H Q := by
  obtain ⟨F, G, μ, vs, M, g, s, h⟩ := h
  refine tT.step g s h fun v H1 M1 F1 g1 s1 l1 h1 => ?_
  cases v with
  | true =>
    rw [if_pos rfl] at h1 ⊢
    exact ⟨F1, G, μ, vs, M1, g1, s1, h1⟩
  | false =>
    rw [if_neg (by decide)] at h1 ⊢
    exact ⟨F1, G, μ, vs, M1, g1, s1, h1⟩
theorem imp_nil {Q : List V → Hp → Prop} (h : tA w W (fun _ M => .ok [] M) σ H Q) : tNil σ H Q := by
  obtain ⟨F, G, μ, vs, M, g, s, h⟩ := h
  exact Out.here h g rfl
theorem imp_cons {ma : Vars → Mem → R Vl} {mr : Vars → Mem → R (List Vl)} {Q : List V → Hp → Prop} (h : tA w W (fun vs M => (ma vs M).bind fun y M1 => (mr vs M1).bind fun ys M2 => .ok (frz y :: ys) M2) σ H Q) : tCons (tE w W ma) (tA w W mr) σ H Q := by
  obtain ⟨F, G, μ, vs, M, g, s, h⟩ := h
  refine tE.step g s h fun v H1 x M1 F1 g1 s1 l1 r1 _ h1 => ?_
  refine tA.step g1 s1 h1 fun us H2 ys M2 F2 g2 s2 l2 r2 _ h2 => ?_
  exact Out.here h2 g2 ⟨v, us, rfl, r1.le l2, r2⟩
/-- a slot's content as data -/
theorem GR.toD {F G : Hp} {μ : List Addr} {M M' : Mem} (g : GR w F G H μ M) {x : Vl} {v : V} {d : D} (r : VR w F μ x v) (e : toD M x = some (d, M')) : ∃ F', Fle F F' ∧ GR w F' G H μ M' ∧ DR w F' d v := by
  cases x with
  | d y => cases e; exact ⟨F, Fle.refl, g, r⟩
  | new y => exact r.elim
  | loc n =>
    obtain ⟨a, ea, ev⟩ := r
    subst ev
    simp only [Pd.toD] at e
    split at e
    · rename_i c hc
      cases e
      exact g.freezeCell hc ea
    · cases e
theorem GR.toDs {G : Hp} {μ : List Addr} : ∀ {xs : List Vl} {vs : List V} {F : Hp} {M M' : Mem} {ds : List D}, GR w F G H μ M → VRs w F μ xs vs → toDs M xs = some (ds, M') → ∃ F', Fle F F' ∧ GR w F' G H μ M' ∧ DRs w F' ds vs
  | [], _, F, M, M', ds, g, r, e => by
    cases e
    have r' : _ = [] := r
    subst r'
    exact ⟨F, Fle.refl, g, DRs.nil w⟩
  | x :: xs, _, F, M, M', ds, g, r, e => by
    obtain ⟨v, us, ev, r1, r2⟩ := r
    subst ev
    unfold Pd.toDs at e
    obtain ⟨⟨d, M1⟩, e1, e2⟩ := Option.bind_eq_some_iff.mp e
    obtain ⟨⟨ds', M2⟩, e3, e4⟩ := Option.map_eq_some_iff.mp e2
    cases e4
    obtain ⟨F1, l1, g1, d1⟩ := g.toD r1 e1
    obtain ⟨F2, l2, g2, d2⟩ := GR.toDs g1 (r2.le l1) e3
    exact ⟨F2, l1.trans l2, g2, DRs.cons w (d1.le w l2) d2⟩
theorem le1000 {n : Nat} (h : n ≤ 1000) : n ≤ sizeLine := by
  rw [sizeLine_eq]
  omega
theorem imp_tup {m : Vars → Mem → R (List Vl)} {Q : VK} (h : tE w W (fun vs M => (m vs M).bind fun xs M1 => match toDs M1 xs with
      | some (ds, M2) => if ds.length ≤ 1000 then .ok (.d (.tup ds)) M2 else .no
      | none => .no) σ H Q) : tTup (tA w W m) σ H Q := by
  obtain ⟨F, G, μ, vs, M, g, s, h⟩ := h
  refine tA.step g s h fun us H1 xs M1 F1 g1 s1 l1 r1 _ h1 => ?_
  cases e : toDs M1 xs with
  | none => rw [e] at h1; exact h1.elim
  | some p =>
    obtain ⟨ds, M2⟩ := p
    rw [e] at h1
    obtain ⟨F2, l2, g2, d2⟩ := g1.toDs r1 e
    simp only at h1
    by_cases hl : ds.length ≤ 1000
    · rw [if_pos hl] at h1
      exact ⟨by rw [← d2.length]; exact le1000 hl, ((h1.le l2).wish).tup g2 (le1000 hl) d2⟩
    · rw [if_neg hl] at h1
      exact h1.elim
theorem imp_lst {m : Vars → Mem → R (List Vl)} {Q : VK} (h : tE w W (fun vs M => (m vs M).bind fun xs M1 => match toDs M1 xs with
      | some (ds, M2) => if ds.length ≤ 1000 then .ok (.new (.lst ds)) M2 else .no
      | none => .no) σ H Q) : tLst (tA w W m) σ H Q := by
  obtain ⟨F, G, μ, vs, M, g, s, h⟩ := h
  refine tA.step g s h fun us H1 xs M1 F1 g1 s1 l1 r1 _ h1 => ?_
  cases e : toDs M1 xs with
  | none => rw [e] at h1; exact h1.elim
  | some p =>
    obtain ⟨ds, M2⟩ := p
    rw [e] at h1
    obtain ⟨F2, l2, g2, d2⟩ := g1.toDs r1 e
    simp only at h1
    by_cases hl : ds.length ≤ 1000
    · rw [if_pos hl] at h1
      exact ⟨by rw [← d2.length]; exact le1000 hl, ((h1.le l2).wish).lst g2 (le1000 hl) d2⟩
    · rw [if_neg hl] at h1
      exact h1.elim
theorem tops_of {F G : Hp} {μ : List Addr} {M : Mem} (g : GR w F G H μ M) : ∀ {xs : List Vl} {vs : List V} {ds : List D}, VRs w F μ xs vs → ders M xs = some ds → Tops w F H ds vs
  | [], _, ds, r, e => by cases e; exact r
  | x :: xs, _, ds, r, e => by
    obtain ⟨v, us, ev, r1, r2⟩ := r
    subst ev
    unfold ders at e
    obtain ⟨d, e1, e2⟩ := Option.bind_eq_some_iff.mp e
    obtain ⟨ds', e3, e4⟩ := Option.map_eq_some_iff.mp e2
    subst e4
    exact ⟨v, us, rfl, top_of g r1 e1, tops_of g r2 e3⟩
theorem imp_bi {m : Vars → Mem → R (List Vl)} {f : List D → Option Vl} {r : RN} (hr : PrimN w f r) {Q : VK} (h : tE w W (fun vs M => (m vs M).bind fun xs M1 => R.lift ((ders M1 xs).bind fun ds => f ds) M1) σ H Q) : tCB r (tA w W m) σ H Q := by
  obtain ⟨F, G, μ, vs, M, g, s, h⟩ := h
  refine tA.step g s h fun us H1 xs M1 F1 g1 s1 l1 r1 _ h1 => ?_
  obtain ⟨z, e, h2⟩ := h1.lift
  obtain ⟨ds, e1, e2⟩ := Option.bind_eq_some_iff.mp e
  exact hr F1 G H1 μ M1 ds us z Q g1 (tops_of g1 r1 e1) e2 h2.wish
end
end Pd

/-! Pd7: subscripts, slices, methods, calls, isinstance, what is walked, comprehensions. -/
namespace Pd
open PySem PySem.Spec L2

section
variable {w : Wr} {W : WX} {σ : L2.St} {H : Hp}
/-! ### slices -/
def tO (w : Wr) (W : WX) (m : Vars → Mem → R (Option Int)) : TO := fun σ H Q => ∃ F G μ vs M, GR w F G H μ M ∧ SR w F μ vs σ ∧ Out w F G μ σ (fun _ _ a b => a = b) (m vs M) Q W
theorem imp_opt0 {r : Vars → Mem → R Vl} {Q : Option Int → Hp → Prop} (h : tO w W (fun vs M => optI (r vs M) true M) σ H Q) : tNoPart σ H Q := by
  obtain ⟨F, G, μ, vs, M, g, s, h⟩ := h
  exact h F H none Fle.refl g rfl
theorem imp_opt1 {r : Vars → Mem → R Vl} {Q : Option Int → Hp → Prop} (h : tO w W (fun vs M => optI (r vs M) false M) σ H Q) : tPart (tE w W r) σ H Q := by
  obtain ⟨F, G, μ, vs, M, g, s, h⟩ := h
  refine tE.step g s (show Out w F G μ σ _ ((r vs M).bind _) Q W from h) fun v H1 x M1 F1 g1 s1 l1 r1 _ h1 => ?_
  cases x with
  | d x =>
    cases x with
    | int i =>
      have r1' : DR w F1 (.int i) v := r1
      simp only [DR] at r1'
      exact ⟨i, r1', h1 F1 H1 (some i) Fle.refl g1 rfl⟩
    | _ => exact h1.elim
  | _ => exact h1.elim
theorem imp_sl {ma : Vars → Mem → R Vl} {ml mh : Vars → Mem → R (Option Int)} {Q : VK} (h : tE w W (fun vs M => (ma vs M).bind fun x M1 => (ml vs M1).bind fun l M2 => (mh vs M2).bind fun u M3 =>
      R.lift ((der M3 x).bind fun x => slice x l u) M3) σ H Q) : tSl (rSlAny w.K) (tE w W ma) (tO w W ml) (tO w W mh) σ H Q := by
  obtain ⟨F, G, μ, vs, M, g, s, h⟩ := h
  refine tE.step g s h fun v H1 x M1 F1 g1 s1 l1 r1 _ h1 => ?_
  refine ⟨F1, G, μ, vs, M1, g1, s1, (h1.bind1 (rel := fun _ _ a b => a = b)).imp fun lo H2 ⟨lo', M2, F2, l2, g2, e2, _, h2⟩ => ?_⟩
  subst e2
  refine ⟨F2, G, μ, vs, M2, g2, s1.le l2, (h2.bind1 (rel := fun _ _ a b => a = b)).imp fun hi H3 ⟨hi', M3, F3, l3, g3, e3, _, h3⟩ => ?_⟩
  subst e3
  obtain ⟨z, e, h4⟩ := h3.lift
  obtain ⟨d, ed, e⟩ := Option.bind_eq_some_iff.mp e
  exact prim_slice g3 (top_of g3 ((r1.le l2).le l3) (by rw [der_frz]; exact ed)) e h4.wish

/-! ### methods -/
def bmId : Bm → String
  | .append => "list.append" | .extend => "list.extend" | .pop => "list.pop" | .reverse => "list.reverse" | .insert => "list.insert" | .index => "list.index" | .count => "list.count" | .join => "str.join"
abbrev RM := V → List V → Hp → VK → Prop
def rInsert : RM := fun x vs H Q => ∃ (l : Addr) (xs : List V) (i : Int) (y : V), x = .ref l ∧ vs = [.int i, y] ∧ H l = some (.lst xs) ∧ xs.length < sizeLine ∧ 0 ≤ i ∧ i < 2 ^ 63 ∧ Q .non (upd H l (.lst (xs.take i.toNat ++ [y] ++ xs.drop i.toNat)))
def rNoM : RM := fun _ _ _ _ => False
/-- how often an equal one stands in a list -/
def rCountD (K : PySem.W.Frag) : RM := fun x xs H Q => ∃ (a : Addr) (y : V) (d : PyData) (ds : List PyData), x = V.ref a ∧ xs = [y] ∧ Dp K H (V.ref a) (.list ds) ∧ Dp K H y d ∧
  SeqAt.shaped (.list ds) = true ∧ SeqAt.shaped d = true ∧ Q (.int ((ds.countP fun z => PyData.eqv z d : Nat) : Int)) H
theorem mt_countD {X : Cx} (hu : X.A.units + 65 < cLine) : MtR X "list.count" (rCountD X.K) := by
  intro pins s σ H x xs v us Q I rx rxs h
  obtain ⟨a, y, d, ds, rfl, rfl, hl, hy, sl, sd, q⟩ := h
  cases rx
  cases rxs with
  | cons ry rt =>
    rename_i uy ut
    cases rt
    obtain ⟨bs, r1⟩ := Dp.reads I d y uy hy ry
    have lay : PyData.canLayAll0 ds = true := SeqAt.canLay_of_shaped sl
    have room : X.A.units + 1 + min (PyData.depthAll ds) d.depth < cLine := PyProof.Rows.room_in_shaped sd hu
    cases hl with
    | lst hs ha =>
      obtain ⟨its, rv, ⟨⟨cls, dd, data, sls⟩, n, ho, hc, hdn, hdt⟩, hlen⟩ := I.list hs
      simp only at hc hdt
      subst hc hdt
      obtain ⟨as, h4⟩ := Dp.readsAll I ds _ its ha rv
      have mp : its.map (SeqAt.readOf s.heap) = ds := SeqAt.readsAll_map ds its as lay h4
      refine call_meets PySem.F.slot_list_count ⟨_, ho, rfl⟩ PySem.F.entry_list_count (PySem.F.args_list_count_2 _ _)
        (SeqAt.list_countAt a its.toArray n dd sls uy fun u => PyData.eqv (SeqAt.readOf s.heap u) d) ⟨ho, SeqAt.items_eqAt (vs := its.toArray) (show ReadsAll s.heap its.toArray.toList ds as from h4) r1 lay (SeqAt.canLay_of_shaped sd) room, ?_⟩
      have ec : its.toArray.toList.countP (fun u => PyData.eqv (SeqAt.readOf s.heap u) d) = ds.countP fun z => PyData.eqv z d := by
        rw [← mp, List.countP_map]
        rfl
      refine ⟨.int ((ds.countP fun z => PyData.eqv z d : Nat) : Int), H, I.tok _, ⟨s.toks, ?_⟩, q⟩
      rw [ec]
def rBm (K : PySem.W.Frag) : Bm → RM
  | .append => rAppend
  | .extend => rExtend
  | .pop => fun x xs H Q => rPop x xs H Q ∨ rPopAt x xs H Q
  | .reverse => rReverse
  | .insert => rInsert
  | .index => rIndexD K
  | .count => rCountD K
  | _ => rNoM
theorem bmR {X : Cx} (hu : X.A.units + 65 < cLine) (m : Bm) : MtR X (bmId m) (rBm X.K m) := by
  cases m with
  | append => exact mt_append
  | extend => exact mt_extend
  | pop => exact MtR.or mt_pop mt_popAt
  | reverse => exact mt_reverse
  | insert => exact mt_insert
  | index => exact mt_indexD hu
  | count => exact mt_countD hu
  | join => exact fun _ _ _ _ _ _ _ _ _ _ _ _ h => h.elim
theorem drs_one {F : Hp} {x : D} {vs : List V} (h : DRs w F [x] vs) : ∃ v, vs = [v] ∧ DR w F x v := by
  simp only [DRs] at h
  obtain ⟨v, r, e, d, h⟩ := h
  subst h
  exact ⟨v, e, d⟩
theorem drs_two {F : Hp} {x y : D} {vs : List V} (h : DRs w F [x, y] vs) : ∃ v u, vs = [v, u] ∧ DR w F x v ∧ DR w F y u := by
  simp only [DRs] at h
  obtain ⟨v, r, e, d, v2, r2, e2, d2, h⟩ := h
  subst h
  subst e2
  exact ⟨v, v2, e, d, d2⟩
theorem drs_nil {F : Hp} {vs : List V} (h : DRs w F [] vs) : vs = [] := by simpa only [DRs] using h
theorem dropLast_rel {F : Hp} {xs : List D} {vs : List V} (h : DRs w F xs vs) : DRs w F xs.dropLast vs.dropLast := by
  rw [List.dropLast_eq_take, List.dropLast_eq_take, ← h.length]
  exact DRs.take w _ h
theorem prim_bmM {F G : Hp} {μ : List Addr} {M : Mem} {m : Bm} {n : Nat} {xs ys : List D} {ds : List D} {d : D} {v : V} {us : List V} {Q : VK} (g : GR w F G H μ M) (hn : M[n]? = some ⟨true, .lst xs⟩) (rv : VR w F μ (.loc n) v)
    (rd : DRs w F ds us) (e : bmM m xs ds = some (ys, d)) (k : ∀ F' H' u, Fle F F' → GR w F' G H' μ (M.set n ⟨true, .lst ys⟩) → DR w F' d u → Q u H') : rBm w.K m v us H Q := by
  obtain ⟨a, ea, ev⟩ := rv
  subst ev
  obtain ⟨b, e1, h1, _⟩ := g.cell n _ hn
  rw [ea] at e1
  cases e1
  obtain ⟨f, kg, o, ho, r⟩ := h1 rfl
  obtain ⟨vs, eo, z, rx⟩ := r
  subst eo
  have wr : ∀ (ws : List V) (hz : ys.length ≤ sizeLine) (hr : DRs w F ys ws), GR w F G (upd H a (.lst ws)) μ (M.set n ⟨true, .lst ys⟩) := fun ws hz hr => g.write hn ea ⟨ws, rfl, hz, hr⟩
  have non : DR w F .non .non := by simp only [DR]
  unfold bmM at e
  split at e
  · rename_i y
    obtain ⟨u, eu, du⟩ := drs_one rd
    subst eu
    split at e
    · rename_i hl
      cases Option.some.inj e
      have hz : (xs ++ [y]).length ≤ sizeLine := by rw [List.length_append, List.length_singleton]; omega
      exact ⟨a, vs, u, rfl, rfl, ho, by rw [← rx.length]; exact hl, k F _ _ Fle.refl (wr _ hz (DRs.app w rx (DRs.cons w du (DRs.nil w)))) non⟩
    · cases e
  · obtain ⟨u, eu, du⟩ := drs_one rd
    subst eu
    simp only [DR] at du
    obtain ⟨b, us2, e2, h2, z2, r2⟩ := du
    subst e2
    split at e
    · rename_i hl
      cases Option.some.inj e
      exact ⟨a, b, vs, us2, rfl, rfl, ho, g.sub _ _ h2, by rw [← rx.length, ← r2.length]; exact hl, k F _ _ Fle.refl (wr _ (by rw [List.length_append]; exact hl) (DRs.app w rx r2)) non⟩
    · cases e
  · have eu := drs_nil rd
    subst eu
    obtain ⟨y, e1, e2⟩ := Option.map_eq_some_iff.mp e
    cases e2
    obtain ⟨u, e3, du⟩ := DRs.get w rx e1
    exact .inl ⟨a, vs, u, rfl, rfl, ho, by rw [← rx.length]; exact e3, k F _ _ Fle.refl (wr _ (Nat.le_trans (by rw [List.length_dropLast]; omega) z) (dropLast_rel rx)) du⟩
  · obtain ⟨u, eu, du⟩ := drs_one rd
    subst eu
    simp only [DR] at du
    subst du
    split at e
    · rename_i hc
      obtain ⟨c1, c2⟩ := Bool.and_eq_true_iff.mp hc
      obtain ⟨kk, e1, e2⟩ := Option.bind_eq_some_iff.mp e
      obtain ⟨y, e3, e4⟩ := Option.map_eq_some_iff.mp e2
      cases e4
      obtain ⟨u, e5, du⟩ := DRs.get w rx e3
      exact .inr ⟨a, vs, _, kk, u, rfl, rfl, ho, of_decide_eq_true c1, of_decide_eq_true c2, by rw [← rx.length]; exact e1, e5,
        k F _ _ Fle.refl (wr _ (Nat.le_trans (len_erase _ _) z) (DRs.erase w _ rx)) du⟩
    · cases e
  · have eu := drs_nil rd
    subst eu
    cases Option.some.inj e
    exact ⟨a, vs, rfl, rfl, ho, k F _ _ Fle.refl (wr _ (by rw [List.length_reverse]; exact z) (DRs.rev w rx)) non⟩
  · obtain ⟨u, u2, eu, du, du2⟩ := drs_two rd
    subst eu
    simp only [DR] at du
    subst du
    split at e
    · rename_i hc
      obtain ⟨c1, hc⟩ := Bool.and_eq_true_iff.mp hc
      obtain ⟨c2, c3⟩ := Bool.and_eq_true_iff.mp hc
      have c1 := of_decide_eq_true c1
      cases Option.some.inj e
      refine ⟨a, vs, _, u2, rfl, rfl, ho, by rw [← rx.length]; exact c1, of_decide_eq_true c2, of_decide_eq_true c3, k F _ _ Fle.refl (wr _ ?_ (DRs.app w (DRs.app w (DRs.take w _ rx) (DRs.cons w du2 (DRs.nil w))) (DRs.drop w _ rx))) non⟩
      simp only [List.length_append, List.length_take, List.length_drop, List.length_singleton]
      omega
    · cases e
  · cases e
theorem tyV_lst {F G : Hp} {μ : List Addr} {M : Mem} {x : Vl} {v : V} {xs : List D} (g : GR w F G H μ M) (r : VR w F μ x v) (e : der M x = some (.lst xs)) : tyV w.K "list" v H := by
  obtain ⟨a, us, e1, h1, _, _⟩ := (top_of g r e).lst
  subst e1
  exact .inl ⟨rfl, us, .of h1⟩
theorem mut_ok {F G : Hp} {μ : List Addr} {M : Mem} {m : Bm} {x : Vl} {v : V} {ds : List D} {us : List V} {Q : VK} (g : GR w F G H μ M) (rv : VR w F μ x v) (rd : DRs w F ds us) (h : Out w F G μ σ (relV w G μ) (mutate m M x ds) Q W) : rBm w.K m v us H Q := by
  unfold mutate at h
  split at h
  · rename_i n
    split at h
    · rename_i xs hn
      split at h
      · rename_i ys d e
        exact prim_bmM g hn rv rd e fun F' H' u l g' r => h F' H' u l g' r
      · exact h.elim
    · exact h.elim
  · exact h.elim
theorem find_rel {y : D} : ∀ {xs : List D} {k : Nat}, findD y xs = some k → ∃ z, xs[k]? = some z ∧ D.eqv z y = true ∧ ∀ (m : Nat) (z' : D), m < k → xs[m]? = some z' → D.eqv z' y = false := fun {xs k} h => by
  unfold findD at h
  obtain ⟨hk, h1, h2⟩ := List.findIdx?_eq_some_iff_getElem.mp h
  refine ⟨xs[k], List.getElem?_eq_getElem hk, h1, fun m z' hm hz => ?_⟩
  have := h2 m hm
  rw [List.getElem?_eq_getElem (Nat.lt_trans hm hk)] at hz
  cases hz
  cases hb : D.eqv xs[m] y with
  | false => rfl
  | true => exact absurd hb this
theorem py_get {xs : List D} {k : Nat} {z : D} (h : xs[k]? = some z) : (D.pys xs)[k]? = some z.py := by
  rw [pys_map, List.getElem?_map, h]
  rfl
theorem py_got {xs : List D} {k : Nat} {z : PyData} (h : (D.pys xs)[k]? = some z) : ∃ x, xs[k]? = some x ∧ z = x.py := by
  rw [pys_map, List.getElem?_map] at h
  obtain ⟨x, e1, e2⟩ := Option.map_eq_some_iff.mp h
  exact ⟨x, e1, e2.symm⟩
theorem prim_index {F G : Hp} {μ : List Addr} {M : Mem} {x : D} {v : V} {ds : List D} {us : List V} {z : Vl} {Q : VK} (g : GR w F G H μ M) (t : Top w F H x v) (ts : Tops w F H ds us) (e : bmP .index x ds = some z) (k : Wish w F G μ M z Q) : rIndexD w.K v us H Q := by
  have e : ixP x ds = some z := e
  unfold ixP at e
  split at e
  · rename_i xs y _
    obtain ⟨u, eu, tu⟩ := ts.one
    subst eu
    split at e
    · rename_i hc
      obtain ⟨c1, c2⟩ := Bool.and_eq_true_iff.mp hc
      obtain ⟨j, e1, e2⟩ := Option.map_eq_some_iff.mp e
      subst e2
      obtain ⟨p1, s1⟩ := shaped_list g.sub c2 t
      obtain ⟨p2, s2⟩ := shaped_top g.sub c1 tu
      obtain ⟨a, ws, ev, _⟩ := t.lst
      subst ev
      obtain ⟨z0, f1, f2, f3⟩ := find_rel e1
      refine ⟨a, u, y.py, D.pys xs, j, z0.py, rfl, rfl, p1, p2, s1, s2, py_get f1, ?_, fun m z' hm hz => ?_, k.int g⟩
      · rw [eqv_py _ _ _ _ (flats_at c2 (List.mem_of_getElem? f1)) c1]
        exact f2
      · obtain ⟨x', g1, g2⟩ := py_got hz
        subst g2
        rw [eqv_py _ _ _ _ (flats_at c2 (List.mem_of_getElem? g1)) c1]
        exact f3 m x' hm g1
    · cases e
  · cases e
theorem count_py {y : D} (hy : D.flat D.deep y = true) : ∀ {xs : List D}, D.flats D.deep xs = true → (D.pys xs).countP (fun z => PyData.eqv z y.py) = xs.countP fun x => D.eqv x y
  | [], _ => rfl
  | x :: xs, h => by
    simp only [D.flats, Bool.and_eq_true] at h
    show (x.py :: D.pys xs).countP _ = _
    rw [List.countP_cons, List.countP_cons, count_py hy h.2, eqv_py _ _ _ _ h.1 hy]
theorem prim_count {F G : Hp} {μ : List Addr} {M : Mem} {x : D} {v : V} {ds : List D} {us : List V} {z : Vl} {Q : VK} (g : GR w F G H μ M) (t : Top w F H x v) (ts : Tops w F H ds us) (e : bmP .count x ds = some z) (k : Wish w F G μ M z Q) : rCountD w.K v us H Q := by
  have e : cntP x ds = some z := e
  unfold cntP at e
  split at e
  · rename_i xs y _
    obtain ⟨u, eu, tu⟩ := ts.one
    subst eu
    split at e
    · rename_i hc
      obtain ⟨c1, c2⟩ := Bool.and_eq_true_iff.mp hc
      cases Option.some.inj e
      obtain ⟨p1, s1⟩ := shaped_list g.sub c2 t
      obtain ⟨p2, s2⟩ := shaped_top g.sub c1 tu
      obtain ⟨a, ws, ev, _⟩ := t.lst
      subst ev
      refine ⟨a, u, y.py, D.pys xs, rfl, rfl, p1, p2, s1, s2, ?_⟩
      rw [count_py c1 c2]
      exact k.int g
    · cases e
  · cases e
end
end Pd

/-! Pd8: methods, calls, isinstance, what is walked, comprehensions: their readings follow. -/
namespace Pd
open PySem PySem.Spec L2

mutual
theorem D.same_eq : ∀ x y : D, D.same x y = true → x = y
  | .non, y, h => by cases y <;> simp_all [D.same]
  | .bl _, y, h => by cases y <;> simp_all [D.same]
  | .int _, y, h => by cases y <;> simp_all [D.same]
  | .str _, y, h => by cases y <;> simp_all [D.same]
  | .scr _, y, h => by cases y <;> simp_all [D.same]
  | .tup xs, y, h => by
    cases y with
    | tup ys => simp only [D.same] at h; rw [D.sames_eq xs ys h]
    | _ => simp [D.same] at h
  | .lst xs, y, h => by
    cases y with
    | lst ys => simp only [D.same] at h; rw [D.sames_eq xs ys h]
    | _ => simp [D.same] at h
  | .dic xs, y, h => by
    cases y with
    | dic ys => simp only [D.same] at h; rw [D.samek_eq xs ys h]
    | _ => simp [D.same] at h
  | .ins c xs, y, h => by
    cases y with
    | ins d ys =>
      simp only [D.same, Bool.and_eq_true, beq_iff_eq] at h
      rw [h.1, D.samef_eq xs ys h.2]
    | _ => simp [D.same] at h
theorem D.sames_eq : ∀ x y : List D, D.sames x y = true → x = y
  | [], [], _ => rfl
  | [], _ :: _, h => by simp [D.sames] at h
  | _ :: _, [], h => by simp [D.sames] at h
  | x :: xs, y :: ys, h => by
    simp only [D.sames, Bool.and_eq_true] at h
    rw [D.same_eq x y h.1, D.sames_eq xs ys h.2]
theorem D.samek_eq : ∀ x y : List (D × D), D.samek x y = true → x = y
  | [], [], _ => rfl
  | [], _ :: _, h => by simp [D.samek] at h
  | _ :: _, [], h => by simp [D.samek] at h
  | (a, x) :: xs, (b, y) :: ys, h => by
    simp only [D.samek, Bool.and_eq_true] at h
    rw [D.same_eq a b h.1, D.same_eq x y h.2.1, D.samek_eq xs ys h.2.2]
theorem D.samef_eq : ∀ x y : List (Str × D), D.samef x y = true → x = y
  | [], [], _ => rfl
  | [], _ :: _, h => by simp [D.samef] at h
  | _ :: _, [], h => by simp [D.samef] at h
  | (a, x) :: xs, (b, y) :: ys, h => by
    simp only [D.samef, Bool.and_eq_true, beq_iff_eq] at h
    rw [h.1, D.same_eq x y h.2.1, D.samef_eq xs ys h.2.2]
end
mutual
theorem D.same_refl : ∀ x : D, D.same x x = true
  | .non => by simp [D.same]
  | .bl _ => by simp [D.same]
  | .int _ => by simp [D.same]
  | .str _ => by simp [D.same]
  | .scr _ => by simp [D.same]
  | .tup xs => by simp only [D.same]; exact D.sames_refl xs
  | .lst xs => by simp only [D.same]; exact D.sames_refl xs
  | .dic xs => by simp only [D.same]; exact D.samek_refl xs
  | .ins c xs => by simp only [D.same, Bool.and_eq_true]; exact ⟨by simp, D.samef_refl xs⟩
theorem D.sames_refl : ∀ x : List D, D.sames x x = true
  | [] => by simp [D.sames]
  | x :: xs => by simp only [D.sames, Bool.and_eq_true]; exact ⟨D.same_refl x, D.sames_refl xs⟩
theorem D.samek_refl : ∀ x : List (D × D), D.samek x x = true
  | [] => by simp [D.samek]
  | (a, x) :: xs => by simp only [D.samek, Bool.and_eq_true]; exact ⟨D.same_refl a, D.same_refl x, D.samek_refl xs⟩
theorem D.samef_refl : ∀ x : List (Str × D), D.samef x x = true
  | [] => by simp [D.samef]
  | (a, x) :: xs => by simp only [D.samef, Bool.and_eq_true]; exact ⟨by simp, D.same_refl x, D.samef_refl xs⟩
end

section
variable {w : Wr} {W : WX} {σ : L2.St} {H : Hp}
/-- a method that changes its list -/
theorem imp_bmMut {m : Bm} {mo : Vars → Mem → R Vl} {ma : Vars → Mem → R (List Vl)} {Q : VK} (hm : m.mut = true)
    (h : tE w W (fun vs M => (mo vs M).bind fun x M1 => if bmTy m (der M1 x) then ((ma vs M1).bind fun xs M2 =>
      if m.mut then (match toDs M2 xs with
        | some (ds, M3) => mutate m M3 (frz x) ds
        | none => .no)
      else R.lift ((der M2 x).bind fun x => (ders M2 xs).bind fun ds => bmP m x ds) M2) else .no) σ H Q) : tBM w.K "list" (rBm w.K m) (tE w W mo) (tA w W ma) σ H Q := by
  obtain ⟨F, G, μ, vs, M, g, s, h⟩ := h
  refine tE.step g s h fun v H1 x M1 F1 g1 s1 l1 r1 _ h1 => ?_
  cases e : der M1 x with
  | none => rw [e] at h1; exact h1.elim
  | some d =>
    rw [e] at h1
    cases d with
    | lst xs =>
      by_cases hb : bmTy m (some (.lst xs)) = true
      · rw [if_pos hb] at h1
        refine ⟨tyV_lst g1 r1 (by rw [der_frz]; exact e), tA.step g1 s1 h1 fun us H2 ys M2 F2 g2 s2 l2 r2 _ h2 => ?_⟩
        rw [if_pos hm] at h2
        cases et : toDs M2 ys with
        | none => rw [et] at h2; exact h2.elim
        | some p =>
          obtain ⟨ds, M3⟩ := p
          rw [et] at h2
          obtain ⟨F3, l3, g3, d3⟩ := g2.toDs r2 et
          exact mut_ok g3 ((r1.le l2).le l3) d3 (h2.le l3)
      · rw [if_neg hb] at h1
        exact h1.elim
    | str z =>
      have hb : bmTy m (some (.str z)) ≠ true := by cases m <;> simp [bmTy, Bm.mut] at hm ⊢
      rw [if_neg hb] at h1
      exact h1.elim
    | _ => exact h1.elim
theorem imp_bmMut0 {m : Bm} {mo : Vars → Mem → R Vl} {Q : VK} (hm : m.mut = true)
    (h : tE w W (fun vs M => (mo vs M).bind fun x M1 => if bmTy m (der M1 x) then (((fun _ M => .ok [] M : Vars → Mem → R (List Vl)) vs M1).bind fun xs M2 =>
      if m.mut then (match toDs M2 xs with
        | some (ds, M3) => mutate m M3 (frz x) ds
        | none => .no)
      else R.lift ((der M2 x).bind fun x => (ders M2 xs).bind fun ds => bmP m x ds) M2) else .no) σ H Q) : tBM0 w.K "list" (rBm w.K m) (tE w W mo) σ H Q := by
  obtain ⟨F, G, μ, vs, M, g, s, h⟩ := h
  obtain ⟨F', G', μ', vs', M', g', s', h'⟩ := imp_bmMut (mo := mo) (ma := fun _ M => .ok [] M) hm ⟨F, G, μ, vs, M, g, s, h⟩
  refine ⟨F', G', μ', vs', M', g', s', h'.imp fun x H1 ⟨t, q⟩ => ⟨t, ?_⟩⟩
  exact imp_nil q
theorem imp_index {mo : Vars → Mem → R Vl} {ma : Vars → Mem → R (List Vl)} {Q : VK}
    (h : tE w W (fun vs M => (mo vs M).bind fun x M1 => if bmTy .index (der M1 x) then ((ma vs M1).bind fun xs M2 =>
      if Bm.index.mut then (match toDs M2 xs with
        | some (ds, M3) => mutate .index M3 (frz x) ds
        | none => .no)
      else R.lift ((der M2 x).bind fun x => (ders M2 xs).bind fun ds => bmP .index x ds) M2) else .no) σ H Q) : tBM w.K "list" (rBm w.K .index) (tE w W mo) (tA w W ma) σ H Q := by
  obtain ⟨F, G, μ, vs, M, g, s, h⟩ := h
  refine tE.step g s h fun v H1 x M1 F1 g1 s1 l1 r1 _ h1 => ?_
  cases e : der M1 x with
  | none => rw [e] at h1; exact h1.elim
  | some d =>
    rw [e] at h1
    cases d with
    | lst xs =>
      rw [if_pos (show bmTy .index (some (.lst xs)) = true from rfl)] at h1
      refine ⟨tyV_lst g1 r1 (by rw [der_frz]; exact e), tA.step g1 s1 h1 fun us H2 ys M2 F2 g2 s2 l2 r2 _ h2 => ?_⟩
      rw [if_neg (show ¬ Bm.index.mut = true by decide)] at h2
      obtain ⟨z, e2, h3⟩ := h2.lift
      obtain ⟨d, e3, e4⟩ := Option.bind_eq_some_iff.mp e2
      obtain ⟨ds, e5, e6⟩ := Option.bind_eq_some_iff.mp e4
      exact prim_index g2 (top_of g2 (r1.le l2) (by rw [der_frz]; exact e3)) (tops_of g2 r2 e5) e6 h3.wish
    | _ => exact h1.elim
theorem imp_count {mo : Vars → Mem → R Vl} {ma : Vars → Mem → R (List Vl)} {Q : VK}
    (h : tE w W (fun vs M => (mo vs M).bind fun x M1 => if bmTy .count (der M1 x) then ((ma vs M1).bind fun xs M2 =>
      if Bm.count.mut then (match toDs M2 xs with
        | some (ds, M3) => mutate .count M3 (frz x) ds
        | none => .no)
      else R.lift ((der M2 x).bind fun x => (ders M2 xs).bind fun ds => bmP .count x ds) M2) else .no) σ H Q) : tBM w.K "list" (rBm w.K .count) (tE w W mo) (tA w W ma) σ H Q := by
  obtain ⟨F, G, μ, vs, M, g, s, h⟩ := h
  refine tE.step g s h fun v H1 x M1 F1 g1 s1 l1 r1 _ h1 => ?_
  cases e : der M1 x with
  | none => rw [e] at h1; exact h1.elim
  | some d =>
    rw [e] at h1
    cases d with
    | lst xs =>
      rw [if_pos (show bmTy .count (some (.lst xs)) = true from rfl)] at h1
      refine ⟨tyV_lst g1 r1 (by rw [der_frz]; exact e), tA.step g1 s1 h1 fun us H2 ys M2 F2 g2 s2 l2 r2 _ h2 => ?_⟩
      rw [if_neg (show ¬ Bm.count.mut = true by decide)] at h2
      obtain ⟨z, e2, h3⟩ := h2.lift
      obtain ⟨d, e3, e4⟩ := Option.bind_eq_some_iff.mp e2
      obtain ⟨ds, e5, e6⟩ := Option.bind_eq_some_iff.mp e4
      exact prim_count g2 (top_of g2 (r1.le l2) (by rw [der_frz]; exact e3)) (tops_of g2 r2 e5) e6 h3.wish
    | _ => exact h1.elim
/-- what a text's join asks -/
def rJoin (K : PySem.W.Frag) : RM := fun x xs H Q => ∃ a p, ∃ ys : List Str, x = .str a ∧ xs = [.ref p] ∧ (SqL K H p (ys.map V.str) ∨ SqT K H p (ys.map V.str)) ∧
    (ys.map (·.length)).sum + ys.length * a.length ≤ 16777216 ∧ Q (.str (Txt.join a ys)) H
theorem okS_join {a : Str} (ha : okS a = true) : ∀ ys : List Str, (∀ y ∈ ys, okS y = true) → (ys.map (·.length)).sum + ys.length * a.length ≤ 16777216 → okS (Str.join a ys) = true
  | [], _, _ => by
    show okS Str.empty = true
    decide +kernel
  | [y], h, _ => h y (List.mem_singleton.mpr rfl)
  | x :: y :: r, h, hz => by
    simp only [List.map_cons, List.sum_cons, List.length_cons] at hz
    have hs : sizeLine = 16777216 := sizeLine_eq
    have e1 : (r.length + 1 + 1) * a.length = (r.length + 1) * a.length + a.length := by rw [Nat.succ_mul]
    have ih := okS_join ha (y :: r) (fun z hz => h z (List.mem_cons_of_mem _ hz)) (by simp only [List.map_cons, List.sum_cons, List.length_cons]; omega)
    have hl : (Str.join a (y :: r)).length ≤ ((y :: r).map (·.length)).sum + (y :: r).length * a.length := by
      clear ih hz h
      generalize hn : y :: r = l
      clear hn
      induction l with
      | nil => exact Nat.zero_le _
      | cons p l ih =>
        cases l with
        | nil => simp [Str.join]
        | cons q l =>
          have e : (Str.join a (p :: q :: l)).length = p.length + a.length + (Str.join a (q :: l)).length := by
            show (p ++ a ++ Str.join a (q :: l)).cps.size = _
            show (p.cps ++ a.cps ++ (Str.join a (q :: l)).cps).size = _
            rw [Array.size_append, Array.size_append]
            rfl
          rw [e]
          simp only [List.map_cons, List.sum_cons, List.length_cons] at ih ⊢
          have e2 : (l.length + 1 + 1) * a.length = (l.length + 1) * a.length + a.length := by rw [Nat.succ_mul]
          omega
    simp only [List.map_cons, List.sum_cons, List.length_cons] at hl
    have hx := okS_len (h x List.mem_cons_self)
    have hla : (x ++ a).length = x.length + a.length := by
      show (x.cps ++ a.cps).size = _
      rw [Array.size_append]
      rfl
    exact okS_add (okS_add (h x List.mem_cons_self) ha (by omega)) ih (by omega)
theorem imp_join {mo ma : Vars → Mem → R Vl} {Q : VK}
    (h : tE w W (fun vs M => (mo vs M).bind fun x M1 => if bmTy .join (der M1 x) then (((fun vs M => (ma vs M).bind fun y M1 => R.bind (.ok [] M1) fun ys M2 => .ok (frz y :: ys) M2 : Vars → Mem → R (List Vl)) vs M1).bind fun xs M2 =>
      if Bm.join.mut then (match toDs M2 xs with
        | some (ds, M3) => mutate .join M3 (frz x) ds
        | none => .no)
      else R.lift ((der M2 x).bind fun x => (ders M2 xs).bind fun ds => bmP .join x ds) M2) else .no) σ H Q) : tM1 (rJoin w.K) (tE w W mo) (tE w W ma) σ H Q := by
  obtain ⟨F, G, μ, vs, M, g, s, h⟩ := h
  refine tE.step g s h fun v H1 x M1 F1 g1 s1 l1 r1 _ h1 => ?_
  cases e : der M1 x with
  | none => rw [e] at h1; exact h1.elim
  | some d =>
    rw [e] at h1
    cases d with
    | str a =>
      rw [if_pos (show bmTy .join (some (.str a)) = true from rfl)] at h1
      obtain ⟨e1, o1⟩ := (top_of g1 r1 (by rw [der_frz]; exact e)).str
      subst e1
      refine ⟨⟨a, rfl⟩, ?_⟩
      have h1' : Out w F1 G μ σ (relV w G μ) ((ma vs M1).bind fun y M2 => (R.ok [frz y] M2 : R (List Vl)).bind fun xs M2 =>
          if Bm.join.mut then (match toDs M2 xs with
            | some (ds, M3) => mutate .join M3 (frz x) ds
            | none => .no)
          else R.lift ((der M2 x).bind fun x => (ders M2 xs).bind fun ds => bmP .join x ds) M2) Q W := by
        dsimp only at h1
        cases hma : ma vs M1 with
        | ok y M2 => rw [hma] at h1; exact h1
        | exc c fs M2 => rw [hma] at h1; exact h1
        | no => rw [hma] at h1; exact h1
      refine tE.step g1 s1 h1' fun u H2 y M2 F2 g2 s2 l2 r2 _ h2 => ?_
      have h2' : Out w F2 G μ σ (relV w G μ) (R.lift ((der M2 x).bind fun x => (ders M2 [frz y]).bind fun ds => bmP .join x ds) M2) Q W := h2
      obtain ⟨z, e2, h3⟩ := h2'.lift
      obtain ⟨d, e3, e4⟩ := Option.bind_eq_some_iff.mp e2
      obtain ⟨ds, e5, e6⟩ := Option.bind_eq_some_iff.mp e4
      have ts := tops_of (w := w) (xs := [frz y]) (vs := [u]) g2 ⟨u, [], rfl, r2, rfl⟩ e5
      have e6 : joinP d ds = some z := e6
      unfold joinP at e6
      split at e6
      · rename_i a' ys
        have ta := top_of g2 (r1.le l2) (by rw [der_frz]; exact e3)
        obtain ⟨ea, oa⟩ := ta.str
        cases ea
        obtain ⟨u', eu, tu⟩ := ts.one
        cases eu
        obtain ⟨p, us, ep, hp, zp, rp⟩ := tu.lst
        subst ep
        obtain ⟨ss, f1, f2⟩ := Option.bind_eq_some_iff.mp e6
        obtain ⟨k1, k2⟩ := DRs.strs w rp f1
        subst k1
        split at f2
        · rename_i hsz
          cases Option.some.inj f2
          exact ⟨_, p, ss, rfl, rfl, .inl (.of hp), hsz, by rw [TL.join_eq]; exact h3.wish.str g2 (okS_join oa ss k2 hsz)⟩
        · cases f2
      · cases e6
    | _ => exact h1.elim

/-! ### calls of own defs -/
/-- what a def promises by the evaluator: np arguments -/
def spC (w : Wr) (np : Nat) (C : List Vl → Mem → R Vl) : Sp := fun vs H Q E => vs.length = np ∧ ∃ F G μ M args, GR w F G H μ M ∧ VRs w F μ args vs ∧ Out w F G μ [] (relV w G μ) (C args M) Q (fun c d _ H => E c d H)
theorem VRs.length {F : Hp} {μ : List Addr} : ∀ {xs : List Vl} {vs : List V}, VRs w F μ xs vs → xs.length = vs.length
  | [], _, h => by
    have h' : _ = [] := h
    subst h'
    rfl
  | x :: xs, _, h => by
    obtain ⟨v, r, e, _, h2⟩ := h
    subst e
    simp [VRs.length h2]
theorem VRs.app {F : Hp} {μ : List Addr} : ∀ {xs : List Vl} {vs : List V} {ys : List Vl} {us : List V}, VRs w F μ xs vs → VRs w F μ ys us → VRs w F μ (xs ++ ys) (vs ++ us)
  | [], _, _, _, h, k => by
    have h' : _ = [] := h
    subst h'
    exact k
  | x :: xs, _, _, _, h, k => by
    obtain ⟨v, r, e, h1, h2⟩ := h
    subst e
    exact ⟨v, r ++ _, rfl, h1, VRs.app h2 k⟩
theorem Out.unSt {α β : Type} {F G : Hp} {μ : List Addr} {σ' : L2.St} {rel : Hp → Hp → α → β → Prop} {r : R α} {Q : β → Hp → Prop} {W' : WX} (h : Out w F G μ σ rel r Q W) (i : ∀ c d H, W c d σ H → W' c d σ' H) : Out w F G μ σ' rel r Q W' := by
  cases r with
  | ok a M => exact h
  | exc c fs M => exact fun F' H dd l g x => i _ _ _ (h F' H dd l g x)
  | no => exact h
theorem imp_call {ma : Vars → Mem → R (List Vl)} {C C' : List Vl → Mem → R Vl} {np : Nat} {dvs : List V} {Q : VK} (dfl : List Vl)
    (hn : ∀ vs M xs M1, ma vs M = .ok xs M1 → xs.length + dvs.length = np) (hd : ∀ F μ, VRs w F μ dfl dvs) (hC : ∀ vs M xs M1, ma vs M = .ok xs M1 → C xs M1 = C' (xs ++ dfl) M1)
    (h : tE w W (fun vs M => (ma vs M).bind fun xs M1 => C xs M1) σ H Q) : tCallSD (spC w np C') dvs (WE W) (tA w W ma) σ H Q := by
  obtain ⟨F, G, μ, vs, M, g, s, h⟩ := h
  refine tA.step g s h fun us H1 xs M1 F1 g1 s1 l1 r1 e1 h1 => ?_
  refine ⟨?_, F1, G, μ, M1, xs ++ dfl, g1, r1.app (hd F1 μ), ?_⟩
  · rw [List.length_append, ← r1.length]
    exact hn _ _ _ _ e1
  · rw [← hC _ _ _ _ e1]
    exact h1.unSt fun c d H q => q
/-! ### isinstance -/
def tTys : List Ty → TA
  | [] => tNil
  | t :: r => tCons (tC (.ty (tyName t))) (tTys r)
theorem tys_run (ts : List Ty) (Q : List V → Hp → Prop) (h : Q (ts.map fun t => .ty (tyName t)) H) : tTys ts σ H Q := by
  induction ts generalizing Q with
  | nil => exact h
  | cons t r ih => exact ih (fun xs H2 => Q (.ty (tyName t) :: xs) H2) h
theorem imp_isi1 {t : Ty} {ma : Vars → Mem → R Vl} {Q : VK} (ht : t.blt = true) (h : tE w W (fun vs M => (ma vs M).bind fun x M1 => R.lift ((der M1 x).bind (isi [t])) M1) σ H Q) :
    tCB (rIsi w.K) (tCons (tE w W ma) (tTys [t])) σ H Q := by
  obtain ⟨F, G, μ, vs, M, g, s, h⟩ := h
  refine tE.step g s h fun v H1 x M1 F1 g1 s1 l1 r1 _ h1 => tys_run [t] _ ?_
  obtain ⟨z, e, h2⟩ := h1.lift
  obtain ⟨d, ed, e⟩ := Option.bind_eq_some_iff.mp e
  unfold isi at e
  split at e
  · rename_i hp
    cases Option.some.inj e
    have k := kit_has (K := w.K) hp ht
    rw [List.any_cons, List.any_nil, Bool.or_false] at h2
    exact ⟨v, .ty (tyName t), _, _, _, rfl, .ty _, ty_of g1.sub hp (top_of g1 r1 (by rw [der_frz]; exact ed)), k, h2.wish.bl g1⟩
  · cases e
theorem tys_cls (ts : List Ty) : Paired ClsV (ts.map fun t => V.ty (tyName t)) (ts.map fun t => Value.type (tyName t)) := by
  induction ts with
  | nil => exact .nil
  | cons t r ih => exact .cons (.ty _) ih
theorem imp_isiT {ts : List Ty} {ma : Vars → Mem → R Vl} {Q : VK} (ht : ts.all Ty.blt = true) (hl : ts.length ≤ 1000) (h : tE w W (fun vs M => (ma vs M).bind fun x M1 => R.lift ((der M1 x).bind (isi ts)) M1) σ H Q) :
    tCB (rIsiT w.K) (tCons (tE w W ma) (tCons (tTup (tTys ts)) tNil)) σ H Q := by
  obtain ⟨F, G, μ, vs, M, g, s, h⟩ := h
  refine tE.step g s h fun v H1 x M1 F1 g1 s1 l1 r1 _ h1 => tys_run ts _ ?_
  obtain ⟨z, e, h2⟩ := h1.lift
  obtain ⟨d, ed, e⟩ := Option.bind_eq_some_iff.mp e
  unfold isi at e
  split at e
  · rename_i hp
    cases Option.some.inj e
    refine ⟨by rw [List.length_map]; exact le1000 hl, fun p hn => ?_⟩
    have g2 := g1.grow (o := .tup (ts.map fun t => V.ty (tyName t))) hn
    exact ⟨v, p, _, _, ts.map fun t => .type (tyName t), _, rfl, upd_same, tys_cls ts, ty_of g2.sub hp (top_of g2 r1 (by rw [der_frz]; exact ed)), kit_any hp ts ht, h2.wish.bl g2⟩
  · cases e
end
end Pd

/-! Pd9: what is walked, comprehensions. -/
namespace Pd
open PySem PySem.Spec L2

section
variable {w : Wr} {W : WX} {σ : L2.St} {H : Hp} {μ : List Addr}
theorem pre_get {μ μ' : List Addr} (p : μ <+: μ') {n : Nat} {a : Addr} (e : μ[n]? = some a) : μ'[n]? = some a := by
  obtain ⟨t, e1⟩ := p
  rw [← e1, List.getElem?_append_left (List.getElem?_eq_some_iff.mp e).1]
  exact e
/-- a row's items are drawn as they stand -/
def ItOk (w : Wr) (μ : List Addr) (J : It) (xs : List D) (gd : Gd) (F : Hp) : Prop :=
  xs.length ≤ sizeLine ∧ ∀ (i : Nat) (F' G' H' : Hp) (μ' : List Addr) (M' : Mem), Fle F F' → μ <+: μ' → GR w F' G' H' μ' M' → chkG gd M' = true →
    (∀ x, xs[i]? = some x → J.go i H' ∧ ∀ v H2, J.yld i H' v H2 → ∃ F2, Fle F' F2 ∧ GR w F2 G' H2 μ' M' ∧ DR w F2 x v) ∧ (xs[i]? = none → J.stop i H')
abbrev relI (w : Wr) (μ : List Addr) : Hp → Hp → List D × Gd → It → Prop := fun F _ p J => ItOk w μ J p.1 p.2 F
def tI (w : Wr) (W : WX) (m : Vars → Mem → R (List D × Gd)) : TI := fun σ H R => ∃ F G μ vs M, GR w F G H μ M ∧ SR w F μ vs σ ∧ Out w F G μ σ (relI w μ) (m vs M) R W
def SqK (K : PySem.W.Frag) (k : Bool) (H : Hp) (a : Addr) (us : List V) : Prop := match k with
  | false => SqL K H a us
  | true => SqT K H a us
/-- a list or tuple at a value, as long as what must stay stays -/
def Sq (w : Wr) (μ : List Addr) (k : Bool) (xs : List D) (gd : Gd) (F : Hp) (a : Addr) : Prop :=
  xs.length ≤ sizeLine ∧ ∀ (F' G' H' : Hp) (μ' : List Addr) (M' : Mem), Fle F F' → μ <+: μ' → GR w F' G' H' μ' M' → chkG gd M' = true → ∃ us, SqK w.K k H' a us ∧ DRs w F' xs us
theorem chk_app {g g' : Gd} {M : Mem} (h : chkG (g ++ g') M = true) : chkG g M = true ∧ chkG g' M = true := by
  unfold chkG at h ⊢
  rw [List.all_append, Bool.and_eq_true] at h
  exact h
theorem seq_ok {F G : Hp} {M : Mem} (g : GR w F G H μ M) {x : Vl} {v : V} (r : VR w F μ x v) {k : Bool} {xs : List D} {gd : Gd} (e : seqOf M x = some (k, xs, gd)) : ∃ a, v = .ref a ∧ Sq w μ k xs gd F a ∧ chkG gd M = true := by
  unfold seqOf at e
  split at e
  · cases e
    have r' : DR w F (.lst xs) v := r
    simp only [DR] at r'
    obtain ⟨a, us, e1, h1, z, d⟩ := r'
    exact ⟨a, e1, ⟨z, fun F' G' H' μ' M' l pf g' _ => ⟨us, .of (g'.sub _ _ (l _ _ h1)), d.le w l⟩⟩, rfl⟩
  · exact r.elim
  · cases e
    have r' : DR w F (.tup xs) v := r
    simp only [DR] at r'
    obtain ⟨a, us, e1, h1, z, d⟩ := r'
    exact ⟨a, e1, ⟨z, fun F' G' H' μ' M' l pf g' _ => ⟨us, SqT.le g'.sub (SqT.le l h1), d.le w l⟩⟩, rfl⟩
  · rename_i n
    obtain ⟨a, ea, ev⟩ := r
    subst ev
    split at e
    · rename_i l ys hn
      cases e
      refine ⟨a, rfl, ?_⟩
      obtain ⟨b, e1, h1, h2⟩ := g.cell n _ hn
      rw [ea] at e1
      cases e1
      cases l with
      | false =>
        obtain ⟨_, q⟩ := h2 rfl
        simp only [DR] at q
        obtain ⟨a', us, e1, h1, z, d⟩ := q
        cases e1
        exact ⟨⟨z, fun F' G' H' μ' M' l pf g' _ => ⟨us, .of (g'.sub _ _ (l _ _ h1)), d.le w l⟩⟩, rfl⟩
      | true =>
        obtain ⟨_, _, o, ho, us, eo, z, d⟩ := h1 rfl
        refine ⟨⟨z, fun F' G' H' μ' M' l pf g' hc => ?_⟩, ?_⟩
        · have hc1 : chk1 M' (n, ⟨true, .lst xs⟩) = true := by
            have q : ((chk1 M' (n, ⟨true, .lst xs⟩)) && true) = true := hc
            rw [Bool.and_true] at q
            exact q
          unfold chk1 at hc1
          split at hc1
          · rename_i c hcn
            obtain ⟨c1, c2⟩ := Bool.and_eq_true_iff.mp hc1
            have ed := D.same_eq _ _ c2
            obtain ⟨b, e1, k1, _⟩ := g'.cell n c hcn
            rw [pre_get pf ea] at e1
            cases e1
            obtain ⟨_, _, o', ho', q⟩ := k1 c1
            rw [← ed] at q
            obtain ⟨us', eo', _, d'⟩ := q
            subst eo'
            exact ⟨us', .of ho', d'⟩
          · cases hc1
        · show ((chk1 M (n, ⟨true, .lst xs⟩)) && true) = true
          rw [Bool.and_true]
          unfold chk1
          rw [hn]
          simp [D.same_refl]
    · cases e
  · cases e
theorem it_list {xs : List D} {gd : Gd} {F : Hp} {a : Addr} (s : Sq w μ false xs gd F a) : ItOk w μ (Itl w.K a) xs gd F := by
  refine ⟨s.1, fun i F' G' H' μ' M' l pf g hc => ?_⟩
  obtain ⟨us, hs, d⟩ := s.2 F' G' H' μ' M' l pf g hc
  refine ⟨fun x hx => ?_, fun hn => ⟨us, hs, ?_⟩⟩
  · obtain ⟨v, hv, dv⟩ := DRs.get w d hx
    refine ⟨⟨us, v, hs, hv⟩, fun u H2 hy => ?_⟩
    obtain ⟨e1, e2⟩ := hy
    subst e1
    have := (e2 us hs).symm.trans hv
    cases this
    exact ⟨F', Fle.refl, g, dv⟩
  · have := List.getElem?_eq_none_iff.mp hn
    rw [← d.length]
    exact this
theorem it_tup {xs : List D} {gd : Gd} {F : Hp} {a : Addr} (s : Sq w μ true xs gd F a) : ItOk w μ (Itt w.K a) xs gd F := by
  refine ⟨s.1, fun i F' G' H' μ' M' l pf g hc => ?_⟩
  obtain ⟨us, hs, d⟩ := s.2 F' G' H' μ' M' l pf g hc
  refine ⟨fun x hx => ?_, fun hn => ⟨us, hs, ?_⟩⟩
  · obtain ⟨v, hv, dv⟩ := DRs.get w d hx
    refine ⟨⟨us, v, hs, hv⟩, fun u H2 hy => ?_⟩
    obtain ⟨e1, e2⟩ := hy
    subst e1
    have := (e2 us hs).symm.trans hv
    cases this
    exact ⟨F', Fle.refl, g, dv⟩
  · have := List.getElem?_eq_none_iff.mp hn
    rw [← d.length]
    exact this
theorem it_str {z : Str} {F : Hp} (h : okS z = true) : ItOk w μ (Its z) (chars z) [] F := by
  have hl : (chars z).length = z.cps.size := by unfold chars; rw [List.length_map, Array.length_toList]
  refine ⟨by rw [hl]; exact okS_len h, fun i F' G' H' μ' M' l pf g hc => ⟨fun x hx => ?_, fun hn => ?_⟩⟩
  · have hi : i < z.cps.size := by rw [← hl]; exact (List.getElem?_eq_some_iff.mp hx).1
    refine ⟨hi, fun v H2 hy => ?_⟩
    obtain ⟨e, c, ec, ev⟩ := hy
    subst e ev
    have ex : x = .str ⟨#[c]⟩ := by
      unfold chars at hx
      rw [List.getElem?_map, Array.getElem?_toList, ec] at hx
      exact (Option.some.inj hx).symm
    subst ex
    refine ⟨F', Fle.refl, g, ?_⟩
    simp only [DR]
    exact ⟨trivial, okS_one (okS_cp h (List.mem_of_getElem? (by rw [Array.getElem?_toList]; exact ec)))⟩
  · have := List.getElem?_eq_none_iff.mp hn
    rw [hl] at this
    exact this
theorem it_rng {lo hi : Int} {F : Hp} (h : rngOk lo hi = true) : ItOk w μ (Itr lo (hi - lo).toNat) (rangeD lo hi) [] F := by
  unfold rngOk at h
  simp only [Bool.and_eq_true, decide_eq_true_eq] at h
  have hl : (rangeD lo hi).length = (hi - lo).toNat := by unfold rangeD; rw [List.length_map, List.length_range]
  refine ⟨by rw [hl]; exact h.2.2.2.2, fun i F' G' H' μ' M' l pf g hc => ⟨fun x hx => ?_, fun hn => ?_⟩⟩
  · have hi' : i < (hi - lo).toNat := by rw [← hl]; exact (List.getElem?_eq_some_iff.mp hx).1
    refine ⟨hi', fun v H2 hy => ?_⟩
    obtain ⟨e, ev⟩ := hy
    subst e ev
    have ex : x = .int (lo + (i : Nat)) := by
      unfold rangeD at hx
      rw [List.getElem?_map, List.getElem?_range hi'] at hx
      exact (Option.some.inj hx).symm
    subst ex
    refine ⟨F', Fle.refl, g, ?_⟩
    simp only [DR]
  · have := List.getElem?_eq_none_iff.mp hn
    rw [hl] at this
    exact this
/-- a pair that is made at a turn -/
theorem pair_new {F G : Hp} {M : Mem} (g : GR w F G H μ M) {p : Addr} (hp : H p = none) {x y : D} {u v : V} (hx : DR w F x u) (hy : DR w F y v) : ∃ F2, Fle F F2 ∧ GR w F2 G (upd H p (.tup [u, v])) μ M ∧ DR w F2 (.tup [x, y]) (.ref p) := by
  obtain ⟨f, q, m⟩ := g.away hp
  refine ⟨upd F p (.tup [u, v]), Fle.upd f, (g.grow hp).freeze f q m upd_same, ?_⟩
  simp only [DR]
  exact ⟨p, [u, v], rfl, .of upd_same, by show 2 ≤ sizeLine; decide, DRs.cons w (hx.le w (Fle.upd f)) (DRs.cons w (hy.le w (Fle.upd f)) (DRs.nil w))⟩
theorem enumFrom_len : ∀ (xs : List D) (k : Nat), (enumFrom k xs).length = xs.length
  | [], _ => rfl
  | x :: xs, k => by simp [enumFrom, enumFrom_len xs]
theorem enumFrom_get : ∀ (xs : List D) (k i : Nat) (y : D), (enumFrom k xs)[i]? = some y → ∃ x, xs[i]? = some x ∧ y = .tup [.int ((k + i : Nat) : Int), x]
  | [], _, _, _, h => by simp [enumFrom] at h
  | x :: xs, k, 0, y, h => by
    simp [enumFrom] at h
    exact ⟨x, rfl, h.symm⟩
  | x :: xs, k, i + 1, y, h => by
    simp only [enumFrom, List.getElem?_cons_succ] at h
    obtain ⟨z, e1, e2⟩ := enumFrom_get xs (k + 1) i y h
    refine ⟨z, by simpa using e1, ?_⟩
    rw [e2]
    have e3 : k + 1 + i = k + (i + 1) := by omega
    rw [e3]
theorem it_enum {xs : List D} {gd : Gd} {F : Hp} {a : Addr} (s : Sq w μ false xs gd F a) : ItOk w μ (Ite w.K a) (enumFrom 0 xs) gd F := by
  refine ⟨by rw [enumFrom_len]; exact s.1, fun i F' G' H' μ' M' l pf g hc => ?_⟩
  obtain ⟨us, hs, d⟩ := s.2 F' G' H' μ' M' l pf g hc
  refine ⟨fun y hy => ?_, fun hn => ⟨us, hs, ?_⟩⟩
  · obtain ⟨x, hx, ey⟩ := enumFrom_get xs 0 i y hy
    subst ey
    obtain ⟨v, hv, dv⟩ := DRs.get w d hx
    refine ⟨⟨us, v, hs, hv⟩, fun u H2 hy => ?_⟩
    obtain ⟨p, x', e1, hp, e2, e3⟩ := hy
    subst e1 e2
    have := (e3 us hs).symm.trans hv
    cases this
    have e0 : ((0 + i : Nat) : Int) = (i : Nat) := by rw [Nat.zero_add]
    rw [e0]
    exact pair_new g hp (by simp only [DR]) dv
  · have := List.getElem?_eq_none_iff.mp hn
    rw [enumFrom_len] at this
    rw [← d.length]
    exact this
theorem zipD_len : ∀ (xs ys : List D), (zipD xs ys).length = min xs.length ys.length
  | [], _ => by simp [zipD]
  | _ :: _, [] => by simp [zipD]
  | x :: xs, y :: ys => by simp [zipD, zipD_len xs ys]
theorem zipD_get : ∀ (xs ys : List D) (i : Nat) (z : D), (zipD xs ys)[i]? = some z → ∃ x y, xs[i]? = some x ∧ ys[i]? = some y ∧ z = .tup [x, y]
  | [], _, _, _, h => by simp [zipD] at h
  | _ :: _, [], _, _, h => by simp [zipD] at h
  | x :: xs, y :: ys, 0, z, h => by
    simp [zipD] at h
    exact ⟨x, y, rfl, rfl, h.symm⟩
  | x :: xs, y :: ys, i + 1, z, h => by
    simp only [zipD, List.getElem?_cons_succ] at h
    obtain ⟨a, b, e1, e2, e3⟩ := zipD_get xs ys i z h
    exact ⟨a, b, by simpa using e1, by simpa using e2, e3⟩
theorem it_zip {xs ys : List D} {gd gd' : Gd} {F : Hp} {a b : Addr} (s : Sq w μ false xs gd F a) (t : Sq w μ false ys gd' F b) : ItOk w μ (Itz w.K a b) (zipD xs ys) (gd ++ gd') F := by
  refine ⟨by rw [zipD_len]; exact Nat.le_trans (Nat.min_le_left _ _) s.1, fun i F' G' H' μ' M' l pf g hc => ?_⟩
  obtain ⟨hc1, hc2⟩ := chk_app hc
  obtain ⟨us, hs, d⟩ := s.2 F' G' H' μ' M' l pf g hc1
  obtain ⟨vs, ht, d2⟩ := t.2 F' G' H' μ' M' l pf g hc2
  refine ⟨fun z hz => ?_, fun hn => ⟨us, vs, hs, ht, ?_⟩⟩
  · obtain ⟨x, y, hx, hy, ez⟩ := zipD_get xs ys i z hz
    subst ez
    obtain ⟨u, hu, du⟩ := DRs.get w d hx
    obtain ⟨v, hv, dv⟩ := DRs.get w d2 hy
    refine ⟨⟨us, vs, u, v, hs, ht, hu, hv⟩, fun q H2 hy => ?_⟩
    obtain ⟨p, x', y', e1, hp, e2, e3, e4⟩ := hy
    subst e1 e2
    have q1 := (e3 us hs).symm.trans hu
    have q2 := (e4 vs ht).symm.trans hv
    cases q1
    cases q2
    exact pair_new g hp du dv
  · have := List.getElem?_eq_none_iff.mp hn
    rw [zipD_len] at this
    rw [← d.length, ← d2.length]
    omega
theorem it_zipT {xs ys : List D} {gd gd' : Gd} {F : Hp} {a b : Addr} (s : Sq w μ true xs gd F a) (t : Sq w μ true ys gd' F b) : ItOk w μ (RZ.ItzT w.K a b) (zipD xs ys) (gd ++ gd') F := by
  refine ⟨by rw [zipD_len]; exact Nat.le_trans (Nat.min_le_left _ _) s.1, fun i F' G' H' μ' M' l pf g hc => ?_⟩
  obtain ⟨hc1, hc2⟩ := chk_app hc
  obtain ⟨us, hs, d⟩ := s.2 F' G' H' μ' M' l pf g hc1
  obtain ⟨vs, ht, d2⟩ := t.2 F' G' H' μ' M' l pf g hc2
  refine ⟨fun z hz => ?_, fun hn => ⟨us, vs, hs, ht, ?_⟩⟩
  · obtain ⟨x, y, hx, hy, ez⟩ := zipD_get xs ys i z hz
    subst ez
    obtain ⟨u, hu, du⟩ := DRs.get w d hx
    obtain ⟨v, hv, dv⟩ := DRs.get w d2 hy
    refine ⟨⟨us, vs, u, v, hs, ht, hu, hv⟩, fun q H2 hy => ?_⟩
    obtain ⟨p, x', y', e1, hp, e2, e3, e4⟩ := hy
    subst e1 e2
    have q1 := (e3 us hs).symm.trans hu
    have q2 := (e4 vs ht).symm.trans hv
    cases q1
    cases q2
    exact pair_new g hp du dv
  · have := List.getElem?_eq_none_iff.mp hn
    rw [zipD_len] at this
    rw [← d.length, ← d2.length]
    omega

/-! ### the readings of what is walked -/
def iAny (K : PySem.W.Frag) (te : TE) : TI := fun σ H R => te σ H fun x H1 => (∃ a, x = .ref a ∧ (∃ xs, SqL K H1 a xs) ∧ R (Itl K a) H1) ∨ (∃ a, x = .ref a ∧ (∃ xs, SqT K H1 a xs) ∧ R (Itt K a) H1) ∨ ∃ z, x = .str z ∧ R (Its z) H1
theorem sq_now {F G : Hp} {M : Mem} {k : Bool} {xs : List D} {gd : Gd} {a : Addr} (s : Sq w μ k xs gd F a) (g : GR w F G H μ M) (hc : chkG gd M = true) : ∃ us, SqK w.K k H a us := by
  obtain ⟨us, h, _⟩ := s.2 F G H μ M Fle.refl List.prefix_rfl g hc
  exact ⟨us, h⟩
theorem imp_iter {m : Vars → Mem → R Vl} {R' : It → Hp → Prop} (h : tI w W (fun vs M => (m vs M).bind fun x M1 => R.lift (iterOf M1 (frz x)) M1) σ H R') : iAny w.K (tE w W m) σ H R' := by
  obtain ⟨F, G, μ, vs, M, g, s, h⟩ := h
  refine tE.step g s h fun v H1 x M1 F1 g1 s1 l1 r1 _ h1 => ?_
  obtain ⟨p, e, h2⟩ := h1.lift
  have viaSeq : (seqOf M1 (frz x)).map (·.2) = some p → (∃ a, v = .ref a ∧ (∃ xs, SqL w.K H1 a xs) ∧ R' (Itl w.K a) H1) ∨ (∃ a, v = .ref a ∧ (∃ xs, SqT w.K H1 a xs) ∧ R' (Itt w.K a) H1) ∨ ∃ z, v = .str z ∧ R' (Its z) H1 := fun e => by
    obtain ⟨⟨k, xs, gd⟩, e1, e2⟩ := Option.map_eq_some_iff.mp e
    subst e2
    obtain ⟨a, ev, sq, hc⟩ := seq_ok g1 r1 e1
    subst ev
    cases k with
    | false => exact .inl ⟨a, rfl, sq_now sq g1 hc, h2 F1 H1 _ Fle.refl g1 (it_list sq)⟩
    | true => exact .inr (.inl ⟨a, rfl, sq_now sq g1 hc, h2 F1 H1 _ Fle.refl g1 (it_tup sq)⟩)
  unfold iterOf at e
  split at e
  · rename_i z hz
    rw [hz] at r1
    have r1' : DR w F1 (.str z) v := r1
    simp only [DR] at r1'
    obtain ⟨ev, ok⟩ := r1'
    subst ev
    cases e
    exact .inr (.inr ⟨z, rfl, h2 F1 H1 _ Fle.refl g1 (it_str ok)⟩)
  · exact viaSeq e
theorem imp_rng1 {mb : Vars → Mem → R Vl} {R' : It → Hp → Prop} (h : tI w W (fun vs M => (R.ok (.d (.int 0)) M : R Vl).bind fun x M1 => (mb vs M1).bind fun y M2 => match x, y with
      | .d (.int l), .d (.int h) => if rngOk l h then .ok (rangeD l h, []) M2 else .no
      | _, _ => .no) σ H R') : iRng1 (tCons (tE w W mb) tNil) σ H R' := by
  obtain ⟨F, G, μ, vs, M, g, s, h⟩ := h
  have h' : Out w F G μ σ (relI w μ) ((mb vs M).bind fun y M2 => match y with
      | .d (.int h) => if rngOk 0 h then .ok (rangeD 0 h, []) M2 else .no
      | _ => .no) R' W := by
    dsimp only [R.bind] at h
    cases e : mb vs M with
    | ok y M2 =>
      rw [e] at h
      cases y with
      | d y => cases y <;> exact h
      | _ => exact h
    | exc c fs M2 => rw [e] at h; exact h
    | no => rw [e] at h; exact h
  refine tE.step g s h' fun v H1 x M1 F1 g1 s1 l1 r1 _ h1 => ?_
  cases x with
  | d x =>
    cases x with
    | int i =>
      have r1' : DR w F1 (.int i) v := r1
      simp only [DR] at r1'
      subst r1'
      by_cases hr : rngOk 0 i = true
      · simp only [hr, if_true] at h1
        have hr' := hr
        unfold rngOk at hr'
        simp only [Bool.and_eq_true, decide_eq_true_eq] at hr'
        refine ⟨i, rfl, hr'.2.2.1, hr'.2.2.2.1, ?_⟩
        have := h1 F1 H1 _ Fle.refl g1 (it_rng hr)
        rw [Int.sub_zero] at this
        exact this
      · simp only [hr] at h1
        exact h1.elim
    | _ => exact h1.elim
  | _ => exact h1.elim
theorem imp_rng2 {ma mb : Vars → Mem → R Vl} {R' : It → Hp → Prop} (h : tI w W (fun vs M => (ma vs M).bind fun x M1 => (mb vs M1).bind fun y M2 => match x, y with
      | .d (.int l), .d (.int h) => if rngOk l h then .ok (rangeD l h, []) M2 else .no
      | _, _ => .no) σ H R') : iRng2 (tCons (tE w W ma) (tCons (tE w W mb) tNil)) σ H R' := by
  obtain ⟨F, G, μ, vs, M, g, s, h⟩ := h
  refine tE.step g s h fun v H1 x M1 F1 g1 s1 l1 r1 _ h1 => ?_
  refine tE.step g1 s1 h1 fun u H2 y M2 F2 g2 s2 l2 r2 _ h2 => ?_
  split at h2
  · rename_i l h' _ _
    have r1' : DR w F1 (.int l) v := r1
    simp only [DR] at r1'
    subst r1'
    have r2' : DR w F2 (.int h') u := r2
    simp only [DR] at r2'
    subst r2'
    by_cases hr : rngOk l h' = true
    · rw [if_pos hr] at h2
      have hr' := hr
      unfold rngOk at hr'
      simp only [Bool.and_eq_true, decide_eq_true_eq] at hr'
      exact ⟨l, h', rfl, ⟨hr'.1, hr'.2.1, hr'.2.2.1, hr'.2.2.2.1⟩, h2 F2 H2 _ Fle.refl g2 (it_rng hr)⟩
    · rw [if_neg hr] at h2
      exact h2.elim
  · exact h2.elim
end
end Pd

/-! PdA: targets and comprehensions. -/
namespace Pd
open PySem PySem.Spec L2

section
variable {w : Wr} {W : WX} {μ : List Addr}
mutual
/-- a target's reading -/
def tgT (K : PySem.W.Frag) : T → TG
  | .n i => gName i
  | .t r => gTup K (tgLen r) (tgTs K r)
  | _ => fun _ _ _ _ => False
def tgTs (K : PySem.W.Frag) : T → TGs
  | .t0 => gNil
  | .tc a r => gCons (tgT K a) (tgTs K r)
  | _ => fun _ _ _ _ => False
def tgLen : T → Nat
  | .tc _ r => tgLen r + 1
  | _ => 0
end
mutual
theorem bind_ok {F H : Hp} (l : Fle F H) : ∀ (t : T) (x : D) (v : V) (vs vs' : Vars) (σ : L2.St) (Q : L2.St → Hp → Prop), SR w F μ vs σ → DR w F x v → bindT t x vs = some vs' → (∀ σ', SR w F μ vs' σ' → Q σ' H) → tgT w.K t v σ H Q
  | .n i, x, v, vs, vs', σ, Q, s, d, e, k => by
    simp only [bindT] at e
    split at e
    · cases e
      simp only [tgT]
      exact k _ (s.set (x := .d x) d)
    · cases e
  | .t r, .tup xs, v, vs, vs', σ, Q, s, d, e, k => by
    simp only [bindT] at e
    simp only [DR] at d
    obtain ⟨a, us, e1, h1, z, d⟩ := d
    subst e1
    simp only [tgT]
    have hl := binds_len r xs vs vs' e
    refine ⟨a, us, rfl, SqT.le l h1, by rw [← d.length]; exact hl, ?_⟩
    exact binds_ok l r xs us vs vs' σ Q s d e k
  | .t0, x, v, vs, vs', σ, Q, s, d, e, k => by simp [bindT] at e
  | .tc a r, x, v, vs, vs', σ, Q, s, d, e, k => by simp [bindT] at e
  | .t r, .non, v, vs, vs', σ, Q, s, d, e, k => by simp [bindT] at e
  | .t r, .bl _, v, vs, vs', σ, Q, s, d, e, k => by simp [bindT] at e
  | .t r, .int _, v, vs, vs', σ, Q, s, d, e, k => by simp [bindT] at e
  | .t r, .str _, v, vs, vs', σ, Q, s, d, e, k => by simp [bindT] at e
  | .t r, .lst _, v, vs, vs', σ, Q, s, d, e, k => by simp [bindT] at e
  | .t r, .dic _, v, vs, vs', σ, Q, s, d, e, k => by simp [bindT] at e
  | .t r, .ins _ _, v, vs, vs', σ, Q, s, d, e, k => by simp [bindT] at e
  | .t r, .scr _, v, vs, vs', σ, Q, s, d, e, k => by simp [bindT] at e
theorem binds_ok {F H : Hp} (l : Fle F H) : ∀ (t : T) (xs : List D) (us : List V) (vs vs' : Vars) (σ : L2.St) (Q : L2.St → Hp → Prop), SR w F μ vs σ → DRs w F xs us → bindTs t xs vs = some vs' → (∀ σ', SR w F μ vs' σ' → Q σ' H) → tgTs w.K t us σ H Q
  | .t0, [], us, vs, vs', σ, Q, s, d, e, k => by
    simp only [bindTs] at e
    cases e
    have d' := drs_nil d
    subst d'
    simp only [tgTs]
    exact ⟨rfl, k σ s⟩
  | .t0, _ :: _, us, vs, vs', σ, Q, s, d, e, k => by simp [bindTs] at e
  | .tc a r, [], us, vs, vs', σ, Q, s, d, e, k => by simp [bindTs] at e
  | .tc a r, x :: xs, us, vs, vs', σ, Q, s, d, e, k => by
    simp only [bindTs] at e
    obtain ⟨v1, e1, e2⟩ := Option.bind_eq_some_iff.mp e
    simp only [DRs] at d
    obtain ⟨v, ur, eu, d1, d2⟩ := d
    subst eu
    simp only [tgTs]
    exact ⟨v, ur, rfl, bind_ok l a x v vs v1 σ _ s d1 e1 fun σ' s' => binds_ok l r xs ur v1 vs' σ' Q s' d2 e2 k⟩
  | .n i, xs, us, vs, vs', σ, Q, s, d, e, k => by cases xs <;> simp [bindTs] at e
  | .t r, xs, us, vs, vs', σ, Q, s, d, e, k => by cases xs <;> simp [bindTs] at e
theorem binds_len : ∀ (t : T) (xs : List D) (vs vs' : Vars), bindTs t xs vs = some vs' → xs.length = tgLen t
  | .t0, [], _, _, _ => rfl
  | .t0, _ :: _, _, _, e => by simp [bindTs] at e
  | .tc a r, [], _, _, e => by simp [bindTs] at e
  | .tc a r, x :: xs, vs, vs', e => by
    simp only [bindTs] at e
    obtain ⟨v1, e1, e2⟩ := Option.bind_eq_some_iff.mp e
    simp only [tgLen, List.length_cons]
    rw [binds_len r xs v1 vs' e2]
  | .n i, xs, _, _, e => by cases xs <;> simp [bindTs] at e
  | .t r, xs, _, _, e => by cases xs <;> simp [bindTs] at e
end
/-! the slots that a target stores -/
def T.slots : T → List Nat
  | .n i => [i]
  | .t r => r.slots
  | .t0 => []
  | .tc a r => a.slots ++ r.slots
theorem wipe_set {σ : L2.St} {i : Nat} {x : Option V} : ∀ {own : List Nat}, i ∈ own → wipe (σ.set i x) own = wipe σ own
  | [], h => by cases h
  | j :: own, h => by
    unfold wipe
    by_cases hj : i ∈ own
    · rw [wipe_set hj]
    · rcases List.mem_cons.mp h with e | e
      · subst e
        have : ∀ own : List Nat, i ∉ own → ∀ σ : L2.St, wipe (σ.set i x) own = (wipe σ own).set i x := by
          intro own
          induction own with
          | nil => intro _ σ; rfl
          | cons k own ih =>
            intro hk σ
            unfold wipe
            rw [ih (fun z => hk (List.mem_cons_of_mem _ z)) σ, List.set_comm _ _ (fun z => hk (by rw [z]; exact List.mem_cons_self))]
        rw [this own hj σ, List.set_set]
      · exact absurd e hj
theorem wipe_wipe {σ : L2.St} : ∀ (own own' : List Nat), (∀ i ∈ own', i ∈ own) → wipe (wipe σ own') own = wipe σ own
  | own, [], _ => rfl
  | own, i :: r, h => by
    show wipe ((wipe σ r).set i none) own = _
    rw [wipe_set (h i List.mem_cons_self), wipe_wipe own r fun j hj => h j (List.mem_cons_of_mem _ hj)]
theorem SR.wipe {F : Hp} {vs : Vars} {σ : L2.St} (s : SR w F μ vs σ) : ∀ own : List Nat, SR w F μ (wipeV vs own) (L2.wipe σ own)
  | [] => s
  | i :: r => (SR.wipe s r).unset
mutual
/-- .. and nothing else is stored -/
theorem bind_own {F H : Hp} (l : Fle F H) (own : List Nat) : ∀ (t : T) (x : D) (v : V) (vs vs' : Vars) (σ : L2.St) (Q : L2.St → Hp → Prop), (∀ i ∈ t.slots, i ∈ own) → SR w F μ vs σ → DR w F x v → bindT t x vs = some vs' →
    (∀ σ', SR w F μ vs' σ' → L2.wipe σ' own = L2.wipe σ own → Q σ' H) → tgT w.K t v σ H Q
  | .n i, x, v, vs, vs', σ, Q, ho, s, d, e, k => by
    simp only [bindT] at e
    split at e
    · cases e
      simp only [tgT]
      exact k _ (s.set (x := .d x) d) (wipe_set (ho i (by simp [T.slots])))
    · cases e
  | .t r, .tup xs, v, vs, vs', σ, Q, ho, s, d, e, k => by
    simp only [bindT] at e
    simp only [DR] at d
    obtain ⟨a, us, e1, h1, z, d⟩ := d
    subst e1
    simp only [tgT]
    have hl := binds_len (w := w) (μ := μ) r xs vs vs' e
    refine ⟨a, us, rfl, SqT.le l h1, by rw [← d.length]; exact hl, ?_⟩
    exact binds_own l own r xs us vs vs' σ Q (fun i hi => ho i (by simpa [T.slots] using hi)) s d e k
  | .t0, x, v, vs, vs', σ, Q, ho, s, d, e, k => by simp [bindT] at e
  | .tc a r, x, v, vs, vs', σ, Q, ho, s, d, e, k => by simp [bindT] at e
  | .t r, .non, v, vs, vs', σ, Q, ho, s, d, e, k => by simp [bindT] at e
  | .t r, .bl _, v, vs, vs', σ, Q, ho, s, d, e, k => by simp [bindT] at e
  | .t r, .int _, v, vs, vs', σ, Q, ho, s, d, e, k => by simp [bindT] at e
  | .t r, .str _, v, vs, vs', σ, Q, ho, s, d, e, k => by simp [bindT] at e
  | .t r, .lst _, v, vs, vs', σ, Q, ho, s, d, e, k => by simp [bindT] at e
  | .t r, .dic _, v, vs, vs', σ, Q, ho, s, d, e, k => by simp [bindT] at e
  | .t r, .ins _ _, v, vs, vs', σ, Q, ho, s, d, e, k => by simp [bindT] at e
  | .t r, .scr _, v, vs, vs', σ, Q, ho, s, d, e, k => by simp [bindT] at e
theorem binds_own {F H : Hp} (l : Fle F H) (own : List Nat) : ∀ (t : T) (xs : List D) (us : List V) (vs vs' : Vars) (σ : L2.St) (Q : L2.St → Hp → Prop), (∀ i ∈ t.slots, i ∈ own) → SR w F μ vs σ → DRs w F xs us → bindTs t xs vs = some vs' →
    (∀ σ', SR w F μ vs' σ' → L2.wipe σ' own = L2.wipe σ own → Q σ' H) → tgTs w.K t us σ H Q
  | .t0, [], us, vs, vs', σ, Q, ho, s, d, e, k => by
    simp only [bindTs] at e
    cases e
    have d' := drs_nil d
    subst d'
    simp only [tgTs]
    exact ⟨rfl, k σ s rfl⟩
  | .t0, _ :: _, us, vs, vs', σ, Q, ho, s, d, e, k => by simp [bindTs] at e
  | .tc a r, [], us, vs, vs', σ, Q, ho, s, d, e, k => by simp [bindTs] at e
  | .tc a r, x :: xs, us, vs, vs', σ, Q, ho, s, d, e, k => by
    simp only [bindTs] at e
    obtain ⟨v1, e1, e2⟩ := Option.bind_eq_some_iff.mp e
    simp only [DRs] at d
    obtain ⟨v, ur, eu, d1, d2⟩ := d
    subst eu
    simp only [tgTs]
    exact ⟨v, ur, rfl, bind_own l own a x v vs v1 σ _ (fun i hi => ho i (by simp [T.slots, hi])) s d1 e1 fun σ' s' hw =>
      binds_own l own r xs ur v1 vs' σ' Q (fun i hi => ho i (by simp [T.slots, hi])) s' d2 e2 fun σ2 s2 hw2 => k σ2 s2 (hw2.trans hw)⟩
  | .n i, xs, us, vs, vs', σ, Q, ho, s, d, e, k => by cases xs <;> simp [bindTs] at e
  | .t r, xs, us, vs, vs', σ, Q, ho, s, d, e, k => by cases xs <;> simp [bindTs] at e
end

/-! ### comprehensions -/
abbrev W0 : WX := fun _ _ _ _ => False
theorem GR.lessG {F G H : Hp} {M : Mem} {p : Addr} {o : HO} (g : GR w F (upd G p o) H μ M) (hp : G p = none) : GR w F G H μ M := by
  have le : Fle G (upd G p o) := Fle.upd hp
  refine ⟨g.sub, le.trans g.gsub, fun a u e => g.disj a u (le a u e), g.len, g.nd, fun n c e => ?_⟩
  obtain ⟨a, e1, h1, h2⟩ := g.cell n c e
  refine ⟨a, e1, fun hl => ?_, h2⟩
  obtain ⟨f, k, q⟩ := h1 hl
  refine ⟨f, ?_, q⟩
  cases z : G a with
  | none => rfl
  | some u => rw [le a u z] at k; cases k
theorem GR.moreG {F G H : Hp} {M : Mem} {p : Addr} {o : HO} (g : GR w F G H μ M) (hp : H p = none) : GR w F (upd G p o) (upd H p o) μ M := by
  obtain ⟨f, q, m⟩ := g.away hp
  have g1 := g.grow (o := o) hp
  refine ⟨g1.sub, fun a u e => ?_, fun a u e => ?_, g.len, g.nd, fun n c e => ?_⟩
  · by_cases ha : a = p
    · subst ha
      rw [upd_same] at e ⊢
      exact e
    · rw [upd_ne ha] at e
      exact g1.gsub a u e
  · by_cases ha : a = p
    · rw [ha]
      exact f
    · rw [upd_ne ha] at e
      exact g.disj a u e
  · obtain ⟨a, e1, h1, h2⟩ := g1.cell n c e
    refine ⟨a, e1, fun hl => ?_, h2⟩
    obtain ⟨f1, k1, r⟩ := h1 hl
    have ha : a ≠ p := fun z => m (by rw [← z]; exact List.mem_of_getElem? e1)
    exact ⟨f1, by rw [upd_ne ha]; exact k1, r⟩
/-- the private object is changed -/
theorem GR.setG {F G H : Hp} {M : Mem} {p : Addr} {o o' : HO} (g : GR w F (upd G p o) H μ M) (hp : G p = none) : GR w F (upd G p o') (upd H p o') μ M := by
  have fp : F p = none := g.disj p o upd_same
  have nm : p ∉ μ := fun hm => by
    obtain ⟨n, hn, e⟩ := List.getElem_of_mem hm
    have hM : n < M.length := by rw [← g.len]; exact hn
    obtain ⟨a, e1, h1, h2⟩ := g.cell n M[n] (List.getElem?_eq_getElem hM)
    rw [List.getElem?_eq_getElem hn, e] at e1
    cases e1
    cases hl : M[n].live with
    | true =>
      obtain ⟨_, k, _⟩ := h1 hl
      rw [upd_same] at k
      cases k
    | false =>
      obtain ⟨⟨u, hu⟩, _⟩ := h2 hl
      rw [fp] at hu
      cases hu
  refine ⟨fun a u e => ?_, fun a u e => ?_, fun a u e => ?_, g.len, g.nd, fun n c e => ?_⟩
  · rw [upd_ne (ne_of_none e fp)]
    exact g.sub a u e
  · by_cases ha : a = p
    · subst ha
      rw [upd_same] at e ⊢
      exact e
    · rw [upd_ne ha] at e ⊢
      exact g.gsub a u (by rw [upd_ne ha]; exact e)
  · by_cases ha : a = p
    · rw [ha]
      exact fp
    · rw [upd_ne ha] at e
      exact g.disj a u (by rw [upd_ne ha]; exact e)
  · obtain ⟨a, e1, h1, h2⟩ := g.cell n c e
    have ha : a ≠ p := fun z => nm (by rw [← z]; exact List.mem_of_getElem? e1)
    refine ⟨a, e1, fun hl => ?_, h2⟩
    obtain ⟨f1, k1, r⟩ := h1 hl
    refine ⟨f1, by rw [upd_ne ha] at k1 ⊢; exact k1, ?_⟩
    obtain ⟨u, hu, q⟩ := r
    exact ⟨u, by rw [upd_ne ha]; exact hu, q⟩
theorem imp_lc {wi : TI} {mi : Vars → Mem → R (List D × Gd)} {t : T} {mc : Vars → Mem → R Bool} {tt : TT} {me : Vars → Mem → R Vl} {own : List Nat} {σ : L2.St} {H : Hp} {Q : VK}
    (hi : ∀ σ H R, tI w W mi σ H R → wi σ H R) (ht : ∀ σ H Q, tT w W0 mc σ H Q → tt σ H Q) (ho : ∀ i ∈ t.slots, i ∈ own)
    (h : tE w W (fun vs M => (mi vs M).bind fun xs M1 => match lcGo t xs.2 mc me (wipeV vs own) xs.1 M1 with
      | .ok ys M2 => .ok (.new (.lst ys)) M2
      | _ => .no) σ H Q) : tLc wi (tgT w.K t) tt (tE w W0 me) own σ H Q := by
  obtain ⟨F, G, μ, vs, M, g, s, h⟩ := h
  refine hi σ H _ ⟨F, G, μ, vs, M, g, s, (h.bind1 (rel := relI w μ)).imp fun J H1 ⟨p, M1, F1, l1, g1, iok, _, h1⟩ => ?_⟩
  obtain ⟨xs, gd⟩ := p
  simp only at h1 iok
  cases eg : lcGo t gd mc me (wipeV vs own) xs M1 with
  | ok zs M2 =>
    rw [eg] at h1
    intro D hD
    obtain ⟨fD, gD, mD⟩ := g1.away hD
    obtain ⟨hlen, iok⟩ := iok
    have hlen : xs.length ≤ sizeLine := hlen
    have sw : SR w F1 μ (wipeV vs own) (L2.wipe σ own) := SR.wipe (s.le l1) own
    refine ⟨fun i m Hh => ∃ F' us ds M' ys, Fle F1 F' ∧ GR w F' (upd G D (.lst us)) Hh μ M' ∧ DRs w F' ds us ∧ us.length ≤ i ∧ i ≤ xs.length ∧ m = xs.length - i ∧
        lcGo t gd mc me (wipeV vs own) (xs.drop i) M' = .ok ys M2 ∧ ds ++ ys = zs,
      ⟨xs.length, F1, [], [], M1, zs, Fle.refl, g1.moreG hD, DRs.nil w, Nat.zero_le _, Nat.zero_le _, rfl, eg, rfl⟩, fun i m Hh hW => ?_⟩
    obtain ⟨F', us, ds, M', ys, l', g', dr, hul, hil, em, eg', ez⟩ := hW
    have hHD : Hh D = some (.lst us) := g'.gsub D _ upd_same
    cases hx : xs[i]? with
    | none =>
      have hge := List.getElem?_eq_none_iff.mp hx
      rw [List.drop_eq_nil_of_le hge] at eg'
      unfold lcGo at eg'
      split at eg'
      · rename_i hc
        cases eg'
        rw [List.append_nil] at ez
        subst ez
        refine .inl ⟨(iok i F' _ Hh μ M2 l' List.prefix_rfl g' hc).2 hx, h1 F' Hh _ l' (g'.lessG gD) ⟨D, .lst us, rfl, g'.disj D _ upd_same, gD, mD, hHD, us, rfl, ?_, dr⟩⟩
        rw [dr.length]
        omega
      · cases eg'
    | some x =>
      have hi' : i < xs.length := (List.getElem?_eq_some_iff.mp hx).1
      have ed : xs.drop i = x :: xs.drop (i + 1) := by
        rw [List.drop_eq_getElem_cons hi']
        rw [List.getElem?_eq_getElem hi'] at hx
        cases hx
        rfl
      rw [ed] at eg'
      unfold lcGo at eg'
      split at eg'
      · rename_i hc
        obtain ⟨hgo, hyld⟩ := (iok i F' _ Hh μ M' l' List.prefix_rfl g' hc).1 x hx
        refine .inr ⟨hgo, fun H' => ∃ F2 us2 ds2 M3 ys2, Fle F1 F2 ∧ GR w F2 (upd G D (.lst us2)) H' μ M3 ∧ DRs w F2 ds2 us2 ∧ us2.length ≤ i + 1 ∧
            lcGo t gd mc me (wipeV vs own) (xs.drop (i + 1)) M3 = .ok ys2 M2 ∧ ds2 ++ ys2 = zs, fun H' hN => ?_, fun v H' hy => ?_⟩
        · obtain ⟨F2, us2, ds2, M3, ys2, a1, a2, a3, a4, a5, a6⟩ := hN
          exact ⟨xs.length - (i + 1), by omega, F2, us2, ds2, M3, ys2, a1, a2, a3, a4, by omega, rfl, a5, a6⟩
        · obtain ⟨F2, l2, g2, dx⟩ := hyld v H' hy
          split at eg'
          · cases eg'
          · rename_i v1 hb
            refine bind_own g2.sub own t x v _ v1 _ _ ho ((sw.le l').le l2) dx hb fun σ2 s2 hw => ⟨hw.trans (wipe_wipe own own fun _ z => z), ?_⟩
            refine ht _ _ _ ⟨F2, upd G D (.lst us), μ, v1, M', g2, s2, ?_⟩
            cases ec : mc v1 M' with
            | ok b M3 =>
              rw [ec] at eg'
              intro F3 H3 b' l3 g3 eb
              have eb' : b = b' := eb
              subst eb'
              cases b with
              | true =>
                rw [if_pos rfl]
                simp only at eg'
                refine ⟨F3, upd G D (.lst us), μ, v1, M3, g3, s2.le l3, ?_⟩
                cases ee : me v1 M3 with
                | ok y M4 =>
                  rw [ee] at eg'
                  intro F4 H4 u l4 g4 r4
                  obtain ⟨F5, l5, g5, r5⟩ := g4.frz r4
                  simp only at eg'
                  split at eg'
                  · rename_i yd M5 et
                    have et' : toD M4 (frz y) = some (yd, M5) := by
                      cases y <;> exact et
                    obtain ⟨F6, l6, g6, d6⟩ := g5.toD r5 et'
                    split at eg'
                    · rename_i ys2 M6 eg2
                      cases eg'
                      have dall : Fle F' F6 := (((l2.trans l3).trans l4).trans l5).trans l6
                      refine ⟨us, g6.gsub D _ upd_same, ?_, F6, us ++ [u], ds ++ [yd], M5, ys2, l'.trans dall, g6.setG gD, DRs.app w (dr.le w dall) (DRs.cons w d6 (DRs.nil w)), ?_, eg2, ?_⟩
                      · have := hlen
                        omega
                      · rw [List.length_append, List.length_singleton]
                        omega
                      · rw [List.append_assoc]
                        exact ez
                    · cases eg'
                  · cases eg'
                | exc c fs M4 => rw [ee] at eg'; cases eg'
                | no => rw [ee] at eg'; cases eg'
              | false =>
                rw [if_neg (by decide)]
                simp only at eg'
                exact ⟨F3, us, ds, M3, ys, (l'.trans l2).trans l3, g3, dr.le w (l2.trans l3), by omega, eg', ez⟩
            | exc c fs M3 => rw [ec] at eg'; cases eg'
            | no => rw [ec] at eg'; cases eg'
      · cases eg'
  | exc c fs M2 => rw [eg] at h1; exact h1.elim
  | no => rw [eg] at h1; exact h1.elim
theorem imp_yes {σ : L2.St} {H : Hp} {Q : Bool → Hp → Prop} (h : tT w W (fun _ M => .ok true M) σ H Q) : tYes σ H Q := by
  obtain ⟨F, G, μ, vs, M, g, s, h⟩ := h
  exact Out.here h g rfl
end
end Pd

/-! PdB: enumerate of a tuple; of a list or a tuple. -/
namespace Pd
open PySem PySem.Spec L2 PyProof.Rows

/-- enumerate(v), one argument, over anything whose iterator is one new object -/
theorem enum1_meets {v : Value} {o : Obj} {HH : Heap → Prop} (B : Begins v o HH) :
    Meets (Builtin.«enumerate.__new__» ⟨[.type "enumerate", v], []⟩) (fun _ Rr s => HH s.heap ∧
      Rr (.ok (.ret (.ref (s.heap.push o).objs.size))) { s with heap := (s.heap.push o).push { cls := .type "enumerate", data := .fields #[.none, .bool false, .ref s.heap.objs.size, rawInt 0, .none, .none] } }) :=
  .of_wp fun prog w A Rr s hh => by
    obtain ⟨hp, gg, dd, tt, oo⟩ := s
    obtain ⟨hb, hr⟩ := hh
    have isub := sub_enumerate
    have step : ∀ {A' : Around} {E' : Value → Shared → Prop} {Q' : Value → Shared → Prop}, Q' (.ref hp.objs.size) ⟨hp.push o, gg, dd, tt, oo⟩ → wpAny (model prog w) A' (pyIter v) Q' E' ⟨hp, gg, dd, tt, oo⟩ :=
      fun qq => B.iter prog w _ _ ⟨hp, gg, dd, tt, oo⟩ _ hb qq
    wp_walk using step
    refine wpAny_stack_any fun st => wpAny_pure ?_
    split
    · rename_i c _ _ _ _ _
      cases (c == Value.type "enumerate") <;> (wp_walk using step; exact ⟨_, rfl, hr⟩)
    · wp_walk using step
      exact ⟨_, rfl, hr⟩
theorem enum1_call {prog : Program} {w : World} {A : Around} {E : Value → Shared → Prop} {s : Shared} {v : Value} {o : Obj} {HH : Heap → Prop} {Q : Value → Shared → Prop} (B : Begins v o HH) (hb : HH s.heap)
    (k : ∀ h', IsEnum h' (s.heap.objs.size + 1) s.heap.objs.size 0 .none → h'.get? s.heap.objs.size = some o → (∀ b u, s.heap.get? b = some u → h'.get? b = some u) → Q (.ref (s.heap.objs.size + 1)) { s with heap := h' }) :
    wpAny (model prog w) A (call (.type "enumerate") [v]) Q E s := by
  refine callType_new F.called_enumerate (by decide) (F.typeCall_enumerate_1 _) (F.newCall_enumerate_1 _) (fun obj => F.args_object_init_2 obj _) F.entry_enumerate_new (enum1_meets B) ⟨hb, ?_⟩
  have sz : (s.heap.push o).objs.size = s.heap.objs.size + 1 := Heap.size_push ..
  show _ ∧ _
  rw [sz]
  have isE : IsEnum ((s.heap.push o).push { cls := .type "enumerate", data := .fields #[.none, .bool false, .ref s.heap.objs.size, rawInt 0, .none, .none] }) (s.heap.objs.size + 1) s.heap.objs.size 0 .none := by
    have q := Heap.get?_push_size (s.heap.push o) (o := { cls := .type "enumerate", data := .fields #[.none, .bool false, .ref s.heap.objs.size, rawInt 0, .none, .none] }) rfl
    rw [sz] at q
    exact q
  exact ⟨⟨_, isE, rfl⟩, k _ isE (Heap.get?_push_of_some _ (Heap.get?_push_size _ B.free)) fun b u x => Heap.get?_push_of_some _ (Heap.get?_push_of_some _ x)⟩

/-- the tuple at a, each item in a new pair with its place -/
def IteT (K : PySem.W.Frag) (a : Addr) : It where
  go := fun i H => ∃ (xs : List V) (x : V), SqT K H a xs ∧ xs[i]? = some x
  yld := fun i H v H' => ∃ p x, v = .ref p ∧ H p = none ∧ H' = upd H p (.tup [.int (i : Nat), x]) ∧ ∀ xs, SqT K H a xs → xs[i]? = some x
  stop := fun i H => ∃ xs : List V, SqT K H a xs ∧ xs.length ≤ i
theorem turn_enumT {P : Program} {w : World} {K : PySem.W.Frag} {elts : List Expr} {kk : Nat} {tpos : Pos} (a e it : Addr) :
    Turn P w K (.Tuple elts kk tpos) (IteT K a) [e, it] e (fun i h => (∃ old, IsEnum h e it ((i : Nat) : Int) old) ∧ h.IsTupleIter it a i ∧ e ≠ it ∧ a ≠ it ∧ e ≠ a) where
  mem := List.mem_cons_self
  obj := by
    intro i h st b hb
    obtain ⟨⟨old, q1⟩, ⟨o, q2, _, q3⟩, _⟩ := st
    rcases List.mem_cons.mp hb with z | hb
    · exact ⟨_, by rw [z]; exact q1, fun v q => by
        have q' : Data.fields _ = Data.cell v := q
        cases q'⟩
    · rw [List.mem_singleton.mp hb]
      exact ⟨o, q2, fun v q => by rw [q3] at q; cases q⟩
  keep := by
    intro i h h' st k
    obtain ⟨⟨old, q1⟩, q2, ne⟩ := st
    exact ⟨⟨old, k e List.mem_cons_self _ q1⟩, q2.at fun o q => k it (List.mem_cons_of_mem _ List.mem_cons_self) o q, ne⟩
  item := by
    intro X eP ew eK hc i pins s σ H E I hf st hg
    subst eP ew eK
    obtain ⟨⟨old, q1⟩, q2, ne1, ne2, ne3⟩ := st
    obtain ⟨xs, x, sx, hx⟩ := hg
    obtain ⟨its, rv, pt, _⟩ := I.tuple sx
    obtain ⟨u, hu, ru⟩ := rv.get hx
    have le1 : e < s.heap.objs.size := Heap.lt_size q1
    have le2 : it < s.heap.objs.size := by obtain ⟨_, z, _⟩ := q2; exact Heap.lt_size z
    have T0 : s.heap.IsTuple a its.toArray := pt
    have D := Draws.tuple (prog := X.prog) (w := X.w) (A := X.A.in1) (I.ok.hd hc) it a ne2 its.toArray
    have hlt : i < its.toArray.size := by
      have z := (List.getElem?_eq_some_iff.mp hu).1
      simpa using z
    refine wpAny_pyNext_enum_itemD D q1 ⟨q2, T0⟩ hlt ne1 (by simp [ne1, ne3]) fun y h' tk hy isO st' hT hsz hk => ?_
    have ey : y = u := by
      have z : its.toArray[i]? = some u := by simpa using hu
      exact Option.some.inj (hy.symm.trans z)
    subst ey
    refine ⟨_, rfl, wpAny_letOwnedTupleGo_enum (s := { s with heap := h', toks := tk + 1 }) isO fun h2 isE sb => ?_⟩
    have hT2 : h2.get? s.heap.objs.size = some { cls := .type "tuple", data := .seq #[.int i tk, y] } := (sb.2 _ (Nat.ne_of_gt le1)).trans hT
    have okN : ObjOk X.prog X.w (upd H s.heap.objs.size (.tup [.int (i : Nat), x])) h2 s.heap.objs.size (.tup [.int (i : Nat), x]) :=
      ⟨by show 2 ≤ sizeLine; decide, [.int i tk, y], .cons ⟨_, rfl⟩ (.cons ru .nil), ⟨_, hT2, rfl, _, rfl⟩⟩
    have J : Inv X pins σ (upd H s.heap.objs.size (.tup [.int (i : Nat), x])) { s with heap := h2, toks := tk + 1 } :=
      I.turnedNew (t' := tk + 1) (ch := [e, it]) (fun b ob hb q => (sb.2 b (fun z => hb (by simp [z]))).trans (hk b ob (fun z => hb (by simp [z])) (fun z => hb (by simp [z])) q)) hf (Nat.le_refl _) okN
    refine ⟨.ref s.heap.objs.size, _, J, rfl, ⟨_, x, rfl, I.hok.fresh (Nat.le_refl _), rfl, fun l hl => by rw [I.tuple_inj hl sx]; exact hx⟩, ⟨⟨y, ?_⟩, st'.1.at fun o q => (sb.2 it (Ne.symm ne1)).trans q, ne1, ne2, ne3⟩, fun b hb => ?_⟩
    · have e1 : ((i + 1 : Nat) : Int) = (i : Int) + 1 := by omega
      rw [e1]
      exact isE
    · have lb : b < s.heap.objs.size := by
        rcases List.mem_cons.mp hb with z | hb
        · rw [z]; exact le1
        · rw [List.mem_singleton.mp hb]; exact le2
      rw [upd_ne (Nat.ne_of_lt lb)]
      exact (hf b hb).1
  done := by
    intro X eP ew eK hc i pins s σ H E I hf st hg
    subst eP ew eK
    obtain ⟨⟨old, q1⟩, q2, ne1, ne2, ne3⟩ := st
    obtain ⟨xs, sx, hx⟩ := hg
    obtain ⟨its, rv, pt, _⟩ := I.tuple sx
    have T0 : s.heap.IsTuple a its.toArray := pt
    obtain ⟨f0, f1, f2, f3, f4, f5⟩ := hf it (by simp)
    have hl := rv.length
    have hTy : s.TypeIs (.ref e) "enumerate" := ⟨_, q1, rfl⟩
    unfold pyNext
    refine wpAny_bind (wpAny_attempt (wpAny_callSpecial?_slot (name := Str.ofString "__next__") hTy F.slot_enumerate_next (wpAny_call_entry F.slot_enumerate_next hTy F.entry_enumerate_next ?_ (F.args_enumerate_next_1 _))))
    show wpAny _ _ (field (.ref e) 2 >>= _) _ _ _
    refine wpAny_bind (wpAny_field q1 rfl (x := .ref it) rfl ?_)
    refine wpAny_bind (wpAny_nextOf_tuple_end (I.ok.hd hc) q2 T0 (by simp; omega) fun h' x he' hx' => ?_)
    obtain ⟨o, ho, hcl⟩ := hx'
    refine wpAny_bind (wpAny_isInstance (T := "StopIteration") (b := true) ⟨o, ho, hcl⟩ isSubtype_stop ?_)
    exact wpAny_pure ⟨rfl, I.turned (t' := s.toks) (fun b o hb q => he' b o hb q) f0 f1 f3 f4 f5⟩
  self := fun A i s Q E st hq => let ⟨⟨_, q1⟩, _⟩ := st; wpAny_pyIter_enum q1 hq
def iEnumA (K : PySem.W.Frag) (ta : TA) : TI := fun σ H R => ta σ H fun vs H1 => ∃ a, vs = [.ref a] ∧ ((∃ xs, SqL K H1 a xs ∧ R (Ite K a) H1) ∨ ∃ xs, SqT K H1 a xs ∧ R (IteT K a) H1)
theorem pi_enumA {X : Cx} {e : Expr} {ta : TA} {p pos tpos : Pos} {elts : List Expr} {kk : Nat} (hg : Gl X "enumerate") (hm : X.mg "enumerate" = none) (ha : PA X [e] ta) (hs : starEach [e] X.env = [(false, eval e X.env)]) :
    PI X (.Tuple elts kk tpos) (.Call (.Name "enumerate" p) [e] [] pos) (iEnumA X.K ta) := by
  refine ⟨fun pins s σ H R I h => ?_⟩
  refine Call_ (ld_blt I hg hm boot_enumerate (PyProof.Rows.callWith_type1 (thn (ha.run pos pins s σ H _ I h) fun us s1 ⟨vs, H1, I1, r1, a, ev, q1⟩ => ?_) hs rfl))
  subst ev
  cases r1 with
  | cons r rr =>
    cases rr
    cases r
    rcases q1 with ⟨xs, sx, q⟩ | ⟨xs, sx, q⟩
    · obtain ⟨its, rv, pl, _⟩ := I1.list sx
      refine enum1_call (begins_list a its.toArray) pl.isList fun h' isE ho hk => wpAny_pyIter_enum isE ?_
      have I2 : Inv X pins σ H1 { s1 with heap := h' } := I1.kept (t' := s1.toks) hk
      refine ⟨s1.heap.objs.size + 1, [s1.heap.objs.size + 1, s1.heap.objs.size], _, _, H1, rfl, I2, turn_enum a (s1.heap.objs.size + 1) s1.heap.objs.size, ⟨⟨.none, isE⟩, ⟨_, ho, rfl, rfl⟩, Nat.succ_ne_self _⟩, fun b hb => ?_, q⟩
      have hle : s1.heap.objs.size ≤ b := by
        rcases List.mem_cons.mp hb with z | hb
        · rw [z]; exact Nat.le_succ _
        · rw [List.mem_singleton.mp hb]; exact Nat.le_refl _
      exact I1.fpOk hle (I1.hok.fresh hle)
    · obtain ⟨its, rv, pl, _⟩ := I1.tuple sx
      have T0 : s1.heap.IsTuple a its.toArray := pl
      have la : a < s1.heap.objs.size := by
        obtain ⟨o, ho, _⟩ := T0
        exact Heap.lt_size ho
      refine enum1_call (begins_tuple a its.toArray) T0 fun h' isE ho hk => wpAny_pyIter_enum isE ?_
      have I2 : Inv X pins σ H1 { s1 with heap := h' } := I1.kept (t' := s1.toks) hk
      refine ⟨s1.heap.objs.size + 1, [s1.heap.objs.size + 1, s1.heap.objs.size], _, _, H1, rfl, I2, turn_enumT a (s1.heap.objs.size + 1) s1.heap.objs.size,
        ⟨⟨.none, isE⟩, ⟨_, ho, rfl, rfl⟩, Nat.succ_ne_self _, Nat.ne_of_lt la, Nat.ne_of_gt (Nat.lt_succ_of_lt la)⟩, fun b hb => ?_, q⟩
      have hle : s1.heap.objs.size ≤ b := by
        rcases List.mem_cons.mp hb with z | hb
        · rw [z]; exact Nat.le_succ _
        · rw [List.mem_singleton.mp hb]; exact Nat.le_refl _
      exact I1.fpOk hle (I1.hok.fresh hle)
end Pd

/-! PdC: the rest of what is walked; small expressions. -/
namespace Pd
open PySem PySem.Spec L2

section
variable {w : Wr} {W : WX} {σ : L2.St} {H : Hp} {μ : List Addr}
theorem it_enumT {xs : List D} {gd : Gd} {F : Hp} {a : Addr} (q : Sq w μ true xs gd F a) : ItOk w μ (IteT w.K a) (enumFrom 0 xs) gd F := by
  refine ⟨(enumFrom_len xs 0).symm ▸ q.1, fun i F' G' H' μ' M' l pf g hc => ?_⟩
  obtain ⟨us, st, dr⟩ := q.2 F' G' H' μ' M' l pf g hc
  have st : SqT w.K H' a us := st
  refine ⟨fun y hy => ?_, fun hn => ⟨us, st, ?_⟩⟩
  · obtain ⟨x, hx, ey⟩ := enumFrom_get xs 0 i y hy
    subst ey
    obtain ⟨v, hv, dv⟩ := DRs.get w dr hx
    refine ⟨⟨us, v, st, hv⟩, fun u H2 hy2 => ?_⟩
    obtain ⟨p, x2, e1, hp, e2, e3⟩ := hy2
    subst e1 e2
    cases (e3 us st).symm.trans hv
    rw [show ((0 + i : Nat) : Int) = (i : Nat) by rw [Nat.zero_add]]
    exact pair_new g hp (by simp only [DR]) dv
  · have := List.getElem?_eq_none_iff.mp hn
    rw [enumFrom_len] at this
    exact dr.length ▸ this
theorem imp_enum {m : Vars → Mem → R Vl} {R' : It → Hp → Prop} (h : tI w W (fun vs M => (m vs M).bind fun x M1 => R.lift ((seqOf M1 (frz x)).map fun p => (enumFrom 0 p.2.1, p.2.2)) M1) σ H R') :
    iEnumA w.K (tCons (tE w W m) tNil) σ H R' := by
  obtain ⟨F, G, μ, vs, M, g, s, h⟩ := h
  refine tE.step g s h fun v H1 x M1 F1 g1 s1 l1 r1 _ h1 => ?_
  obtain ⟨p, e, h2⟩ := h1.lift
  obtain ⟨⟨k, xs, gd⟩, e1, e2⟩ := Option.map_eq_some_iff.mp e
  subst e2
  obtain ⟨a, ev, sq, hc⟩ := seq_ok g1 r1 e1
  subst ev
  refine ⟨a, rfl, ?_⟩
  cases k with
  | false => exact .inl (let ⟨us, q⟩ := sq_now sq g1 hc; ⟨us, q, h2 F1 H1 _ Fle.refl g1 (it_enum sq)⟩)
  | true => exact .inr (let ⟨us, q⟩ := sq_now sq g1 hc; ⟨us, q, h2 F1 H1 _ Fle.refl g1 (it_enumT sq)⟩)
theorem Sq.le {F F' : Hp} {a : Addr} {k : Bool} {xs : List D} {gd : Gd} (l : Fle F F') (q : Sq w μ k xs gd F a) : Sq w μ k xs gd F' a := ⟨q.1, fun F2 G2 H2 μ2 M2 l2 => q.2 F2 G2 H2 μ2 M2 (l.trans l2)⟩
theorem imp_zip {ma mb : Vars → Mem → R Vl} {R' : It → Hp → Prop} (h : tI w W (fun vs M => (ma vs M).bind fun x M1 => (mb vs M1).bind fun y M2 => R.lift ((seqOf M2 (frz x)).bind fun p => (seqOf M2 (frz y)).bind fun q => if p.1 == q.1 then some (zipD p.2.1 q.2.1, p.2.2 ++ q.2.2) else none) M2) σ H R') :
    RZ.iZipA w.K (tCons (tE w W ma) (tCons (tE w W mb) tNil)) σ H R' := by
  obtain ⟨F, G, μ, vs, M, g, s, h⟩ := h
  refine tE.step g s h fun v H1 x M1 F1 g1 s1 l1 r1 _ h1 => ?_
  refine tE.step g1 s1 h1 fun u H2 y M2 F2 g2 s2 l2 r2 _ h2 => ?_
  obtain ⟨z, e, h3⟩ := h2.lift
  obtain ⟨⟨k, xs, gd⟩, e1, e⟩ := Option.bind_eq_some_iff.mp e
  obtain ⟨⟨k', ys, gd'⟩, e2, e⟩ := Option.bind_eq_some_iff.mp e
  obtain ⟨a, ev, sq, hc⟩ := seq_ok g2 (r1.le l2) e1
  obtain ⟨b, eu, sq', hc'⟩ := seq_ok g2 r2 e2
  subst ev eu
  simp only at e
  split at e
  · rename_i hk
    have hk : k = k' := by simpa using hk
    subst hk
    cases Option.some.inj e
    obtain ⟨us, q⟩ := sq_now sq g2 hc
    obtain ⟨us', q'⟩ := sq_now sq' g2 hc'
    refine ⟨a, b, us, us', rfl, ?_⟩
    cases k with
    | false => exact .inl ⟨q, q', h3 F2 H2 _ Fle.refl g2 (it_zip sq sq')⟩
    | true => exact .inr ⟨q, q', h3 F2 H2 _ Fle.refl g2 (it_zipT sq sq')⟩
  · cases e
/-- whatever is walked as it stands -/
theorem pi_any {X : Cx} {tg e : Expr} {te : TE} (he : PE X e te) : PI X tg e (iAny X.K te) := by
  refine ⟨fun pins s σ H R I h => thn (he.run pins s σ H _ I h) fun v s1 ⟨x, H1, I1, r1, q1⟩ => ?_⟩
  have ho : ∀ b ∈ [s1.heap.objs.size], FpOk X pins H1 b := fun b hb => by
    rw [List.mem_singleton.mp hb]
    exact I1.fpOk (Nat.le_refl _) (I1.hok.fresh (Nat.le_refl _))
  have kp : ∀ (ob : Obj), Inv X pins σ H1 { s1 with heap := s1.heap.push ob } := fun ob => I1.kept (t' := s1.toks) fun b o z => Heap.get?_push_of_some _ z
  rcases q1 with ⟨a, ea, ⟨xs, hx⟩, k⟩ | ⟨a, ea, ⟨xs, hx⟩, k⟩ | ⟨z, ez, k⟩
  · subst ea
    cases r1
    obtain ⟨its, _, pl, _⟩ := I1.list hx
    exact wpAny_pyIter_list pl.isList ⟨_, _, _, _, H1, rfl, kp _, turn_list a s1.heap.objs.size, ⟨_, Heap.get?_push_size _ rfl, rfl, rfl⟩, ho, k⟩
  · subst ea
    cases r1
    obtain ⟨its, _, pt, _⟩ := I1.tuple hx
    have pt : s1.heap.IsTuple a its.toArray := pt
    exact wpAny_pyIter_tuple pt ⟨_, _, _, _, H1, rfl, kp _, turn_tuple a s1.heap.objs.size, ⟨_, Heap.get?_push_size _ rfl, rfl, rfl⟩, ho, k⟩
  · subst ez
    obtain ⟨tk, rfl⟩ := r1
    cases hasc : z.cps.all (· < 128) with
    | true => exact wpAny_pyIter_ascii hasc ⟨_, _, _, _, H1, rfl, kp _, turn_str s1.heap.objs.size z tk "str_ascii_iterator" (.inl rfl), ⟨_, Heap.get?_push_size _ rfl, rfl, rfl⟩, ho, k⟩
    | false => exact wpAny_pyIter_wide hasc ⟨_, _, _, _, H1, rfl, kp _, turn_str s1.heap.objs.size z tk "str_iterator" (.inr rfl), ⟨_, Heap.get?_push_size _ rfl, rfl, rfl⟩, ho, k⟩
end
end Pd

/-! PdD: is an expression of the text the written one. -/
namespace Pd
open PySem PySem.Spec L2

/-! ### what is asked of the text -/
structure FE where
  name : Str
  np : Nat
  dfl : List D
structure CE where
  N : List Str
  sc : Scope
  fnc : List Str
  fns : List FE
  glo : List (Str × D)
  free : List Str
structure Ck where
  v : CE → Expr → Bool
  a : CE → List Expr → Bool
  i : CE → Expr → Expr → Bool
  t : CE → Expr → Bool
  o : CE → Option Expr → Bool
  wv : CE → BoolOp → List Expr → Bool
  wt : CE → BoolOp → List Expr → Bool
def plainT : Expr → Bool
  | .Name _ _ | .Call _ _ _ _ | .Subscript _ _ _ | .Attribute _ _ _ | .BinOp _ _ _ _ | .Constant _ _ _ => true
  | _ => false
def Ck.ofV (v : CE → Expr → Bool) : Ck where
  v := v
  a := fun _ _ => false
  i := fun ce _ e => v ce e
  t := fun ce e => plainT e && v ce e
  o := fun ce e => match e with
    | some e => v ce e
    | none => false
  wv := fun ce _ es => match es with
    | [e] => v ce e
    | _ => false
  wt := fun ce _ es => match es with
    | [e] => plainT e && v ce e
    | _ => false
def Ck.ofVT (v t : CE → Expr → Bool) : Ck := { Ck.ofV v with t := t, wt := fun ce _ es => match es with
    | [e] => t ce e
    | _ => false }
def visB (sc : Scope) (x : Str) : Bool := match sc.names.lookup x with
  | some .local | some .cell | some .free => true
  | _ => false
def glB (sc : Scope) (x : Str) : Bool := match sc.names.lookup x with
  | some .globalImplicit => true
  | _ => false
def nameOk (x : Str) : Bool := !(x == "__debug__") && (!(x == "__classdict__") && !(x == "__name__"))
def notStar : Expr → Bool
  | .Starred _ _ => false
  | _ => true
def notSet : Expr → Bool
  | .Set _ _ _ => false
  | _ => true
def notSlice : Expr → Bool
  | .Slice _ _ _ _ => false
  | _ => true
def notSuper : Expr → Bool
  | .Call (.Name _ _) [] [] _ => false
  | _ => true
def bOk : Op2 → Operator → Bool
  | .add, .Add | .sub, .Sub | .mul, .Mult | .fdiv, .FloorDiv | .mod, .Mod | .pow, .Pow => true
  | _, _ => false
def cOk : Op2 → CmpOp → Bool
  | .eq, .Eq | .ne, .NotEq | .lt, .Lt | .le, .LtE | .gt, .Gt | .ge, .GtE | .inn, .In | .nin, .NotIn => true
  | _, _ => false
def blt (ce : CE) (x y : Str) : Bool := decide (x = y) && (glB ce.sc x && decide (x ∈ ce.free))
def biName : Bi → Str
  | .len => "len" | .tuple => "tuple" | .list => "list" | .sum => "sum" | .max => "max" | .min => "min" | .abs => "abs" | .sorted => "sorted" | .all => "all" | .any => "any" | .int => "int" | .str => "str"
def bmName : Bm → Str
  | .append => "append" | .extend => "extend" | .pop => "pop" | .reverse => "reverse" | .insert => "insert" | .index => "index" | .count => "count" | .join => "join"
def tyStr : Ty → Str
  | .int => "int" | .bool => "bool" | .str => "str" | .list => "list" | .tuple => "tuple" | .dict => "dict" | .cls _ => ""
def kOk : D → Expr → Bool
  | .int i, .Constant (.int j) _ _ => decide (i = j)
  | .str s, .Constant (.str t) _ _ => decide (s = t) && okS s
  | .bl b, .Constant (.bool c) _ _ => b == c
  | .non, .Constant .none _ _ => true
  | _, _ => false
def tyOk (ce : CE) (t : Ty) : Expr → Bool
  | .Name x _ => t.blt && blt ce x (tyStr t)
  | _ => false
def tysOk (ce : CE) : List Ty → List Expr → Bool
  | [], [] => true
  | t :: ts, e :: es => tyOk ce t e && tysOk ce ts es
  | _, _ => false
def locB (ce : CE) (x : Str) : Bool := match ce.sc.names.lookup x with
  | some .local => true
  | some .cell => decide (x ∈ ce.fnc)
  | _ => false
def tgOk (ce : CE) : T → Expr → Bool
  | .n i, .Name x _ => decide (ce.N[i]? = some x) && locB ce x
  | .t r, .Tuple es _ _ => tgsOk r es
  | _, _ => false
where tgsOk : T → List Expr → Bool
  | .t0, [] => true
  | .tc a r, e :: es => tgOk ce a e && tgsOk r es
  | _, _ => false
def isCell (y : Str × NameKind) : Bool := match y.2 with
  | .cell => true
  | _ => false
def CE.blk (ce : CE) (scope : Scope) : CE := { ce with sc := relS scope ce.sc, fnc := (scope.names.filter isCell).map (·.1) }
def ownOf (N : List Str) (own : List Nat) : List (Str × Nat) := own.map fun i => (N.getD i "", i)
def isZero : E → Bool
  | .k (.int 0) => true
  | _ => false
def E.rowLen : E → Nat
  | .cons _ r => r.rowLen + 1
  | _ => 0
def slotsIn (ls own : List Nat) : Bool := ls.all fun i => decide (i ∈ own)

def ck : E → Ck
  | .nil => { Ck.ofV (fun _ _ => false) with
      a := fun _ es => match es with
        | [] => true
        | _ => false
      o := fun _ e => match e with
        | none => true
        | _ => false }
  | .cons x r => { Ck.ofV (fun _ _ => false) with
      a := fun ce es => match es with
        | e :: es => notStar e && ((ck x).v ce e && (ck r).a ce es)
        | _ => false }
  | .var i => .ofV fun ce e => match e with
      | .Name x _ => decide (ce.N[i]? = some x) && (visB ce.sc x && nameOk x)
      | _ => false
  | .k d => .ofV fun _ e => kOk d e
  | .g x d => .ofV fun ce e => match e with
      | .Name y _ => decide (y = x) && (glB ce.sc y && (nameOk y && ce.glo.any fun p => decide (p.1 = y) && D.same p.2 d))
      | _ => false
  | .op1 o a => .ofVT (fun ce e => match e with
      | .UnaryOp .USub b _ => (match o with
        | .neg => (ck a).v ce b
        | _ => false)
      | .Compare b [.Is] [.Constant .none _ _] _ => (match o with
        | .isN => (ck a).v ce b
        | _ => false)
      | .Compare b [.IsNot] [.Constant .none _ _] _ => (match o with
        | .notN => (ck a).v ce b
        | _ => false)
      | _ => false) (fun ce e => match e with
      | .Compare b [.Is] [.Constant .none _ _] _ => (match o with
        | .isN => (ck a).v ce b
        | _ => false)
      | .Compare b [.IsNot] [.Constant .none _ _] _ => (match o with
        | .notN => (ck a).v ce b
        | _ => false)
      | _ => false)
  | .op2 o a b => .ofVT (fun ce e => match e with
      | .BinOp x op y _ => bOk o op && ((ck a).v ce x && (ck b).v ce y)
      | .Compare x [op] [y] _ => cOk o op && (notSet y && ((ck a).v ce x && (ck b).v ce y))
      | _ => false) (fun ce e => match e with
      | .BinOp x op y _ => bOk o op && ((ck a).v ce x && (ck b).v ce y)
      | .Compare x [op] [y] _ => cOk o op && (notSet y && ((ck a).v ce x && (ck b).v ce y))
      | _ => false)
  | .chain o p a b c => .ofVT (fun ce e => match e with
      | .Compare x [op, op'] [y, z] _ => cOk o op && (cOk p op' && (notSet z && ((ck a).v ce x && ((ck b).v ce y && (ck c).v ce z))))
      | _ => false) (fun ce e => match e with
      | .Compare x [op, op'] [y, z] _ => cOk o op && (cOk p op' && (notSet z && ((ck a).v ce x && ((ck b).v ce y && (ck c).v ce z))))
      | _ => false)
  | .and a b =>
    let kv := fun ce (es : List Expr) => match es with
      | x :: y :: r => (ck a).v ce x && (ck b).wv ce .And (y :: r)
      | _ => false
    let kt := fun ce (es : List Expr) => match es with
      | x :: y :: r => (ck a).t ce x && (ck b).wt ce .And (y :: r)
      | _ => false
    { Ck.ofV (fun ce e => match e with
      | .BoolOp .And es _ => kv ce es
      | _ => false) with
      i := fun _ _ _ => false
      t := fun ce e => match e with
        | .BoolOp .And es _ => kt ce es
        | _ => false
      wv := fun ce op es => match op, es with
        | .Or, [.BoolOp .And es _] => kv ce es
        | .And, es => kv ce es
        | _, _ => false
      wt := fun ce op es => match op, es with
        | .Or, [.BoolOp .And es _] => kt ce es
        | .And, es => kt ce es
        | _, _ => false }
  | .or a b =>
    let kv := fun ce (es : List Expr) => match es with
      | x :: y :: r => (ck a).v ce x && (ck b).wv ce .Or (y :: r)
      | _ => false
    let kt := fun ce (es : List Expr) => match es with
      | x :: y :: r => (ck a).t ce x && (ck b).wt ce .Or (y :: r)
      | _ => false
    { Ck.ofV (fun ce e => match e with
      | .BoolOp .Or es _ => kv ce es
      | _ => false) with
      i := fun _ _ _ => false
      t := fun ce e => match e with
        | .BoolOp .Or es _ => kt ce es
        | _ => false
      wv := fun ce op es => match op, es with
        | .And, [.BoolOp .Or es _] => kv ce es
        | .Or, es => kv ce es
        | _, _ => false
      wt := fun ce op es => match op, es with
        | .And, [.BoolOp .Or es _] => kt ce es
        | .Or, es => kt ce es
        | _, _ => false }
  | .not a => { Ck.ofVT (fun ce e => match e with
      | .UnaryOp .Not b _ => (ck a).v ce b
      | _ => false) (fun ce e => match e with
      | .UnaryOp .Not b _ => (ck a).t ce b
      | _ => false) with i := fun _ _ _ => false }
  | .ife c a b => .ofV fun ce e => match e with
      | .IfExp x y z _ => (ck c).t ce x && ((ck a).v ce y && (ck b).v ce z)
      | _ => false
  | .tup as => .ofV fun ce e => match e with
      | .Tuple es _ _ => (ck as).a ce es
      | _ => false
  | .lst as => .ofV fun ce e => match e with
      | .List es _ => (ck as).a ce es
      | _ => false
  | .idx a i => .ofV fun ce e => match e with
      | .Subscript x y _ => notSlice y && ((ck a).v ce x && (ck i).v ce y)
      | _ => false
  | .sl a lo hi => .ofV fun ce e => match e with
      | .Subscript x (.Slice l h none _) _ => (ck a).v ce x && ((ck lo).o ce l && (ck hi).o ce h)
      | _ => false
  | .bi b as => .ofV fun ce e => match e with
      | .Call (.Name x _) (y :: ys) [] _ => blt ce x (biName b) && (ck as).a ce (y :: ys)
      | _ => false
  | .bm m o as => .ofV fun ce e => match e with
      | .Call (.Attribute x name p) ys [] q => decide (name = bmName m) && (notSuper x && (p.endLine == q.line && (decide (ys.length < 5) && ((ck o).v ce x && ((ck as).a ce ys && (match m with
        | .join => decide (ys.length = 1) && decide (as.rowLen = 1)
        | .index => decide (0 < ys.length)
        | .count => decide (0 < ys.length)
        | m => m.mut))))))
      | _ => false
  | .call f as => .ofV fun ce e => match e with
      | .Call (.Name x _) (y :: ys) [] _ => (match ce.fns[f]? with
        | some fe => decide (x = fe.name) && (glB ce.sc x && (nameOk x && (decide (as.rowLen ≤ fe.np) && (decide (fe.np ≤ as.rowLen + fe.dfl.length) && (ck as).a ce (y :: ys)))))
        | none => false)
      | _ => false
  | .isi ts a => .ofV fun ce e => match e with
      | .Call (.Name x _) [y, .Tuple es _ _] [] _ => blt ce x "isinstance" && (notStar y && (decide (ts.length ≤ 1000) && ((ck a).v ce y && tysOk ce ts es)))
      | .Call (.Name x _) [y, z] [] _ => blt ce x "isinstance" && (notStar y && ((ck a).v ce y && tysOk ce ts [z]))
      | _ => false
  | .rng lo hi => { Ck.ofV (fun _ _ => false) with
      i := fun ce _ e => match e with
        | .Call (.Name x _) [y] [] _ => blt ce x "range" && (notStar y && (isZero lo && (ck hi).v ce y))
        | .Call (.Name x _) [y, z] [] _ => blt ce x "range" && (notStar y && (notStar z && ((ck lo).v ce y && (ck hi).v ce z)))
        | _ => false }
  | .enum a => { Ck.ofV (fun _ _ => false) with
      i := fun ce tg e => match tg, e with
        | .Tuple _ _ _, .Call (.Name x _) [y] [] _ => blt ce x "enumerate" && (notStar y && (ck a).v ce y)
        | _, _ => false }
  | .zip a b => { Ck.ofV (fun _ _ => false) with
      i := fun ce tg e => match tg, e with
        | .Tuple _ _ _, .Call (.Name x _) [y, z] [] _ => blt ce x "zip" && (notStar y && (notStar z && ((ck a).v ce y && (ck b).v ce z)))
        | _, _ => false }
  | .lc own t it c elt => .ofV fun ce e => match e with
      | .ListComp x [⟨tg, iter, ifs, 0⟩] scope _ => notSet iter && (blkC ce.N ce.sc scope (ownOf ce.N own) && (slotsIn t.slots own && (tgOk (ce.blk scope) t tg && ((ck it).i ce tg iter && ((ck elt).v (ce.blk scope) x && (match ifs with
        | [] => isTrueE c
        | [y] => !isTrueE c && (ck c).t (ce.blk scope) y
        | _ => false))))))
      | _ => false
end Pd

/-! PdE: a checked expression does what the written one does. -/
namespace Pd
open PySem PySem.Spec L2

section
variable {w : Wr} {W : WX} {σ : L2.St} {H : Hp}
/-! ### the last readings -/
theorem imp_notV {ma : Vars → Mem → R Vl} {Q : VK} (h : tE w W (fun vs M => (ma vs M).bind fun x M1 => match (der M1 x).bind D.truth with
        | some b => .ok (.d (.bl (!b))) M1
        | none => .no) σ H Q) : tNotT w.K (tE w W ma) σ H Q := by
  obtain ⟨F, G, μ, vs, M, g, s, h⟩ := h
  refine tE.step g s h fun v H1 x M1 F1 g1 s1 l1 r1 _ h1 => ?_
  cases e : (der M1 x).bind D.truth with
  | none => rw [e] at h1; exact h1.elim
  | some b =>
    rw [e] at h1
    obtain ⟨d, ed, eb⟩ := Option.bind_eq_some_iff.mp e
    exact ⟨b, tru_of g1 (top_of g1 r1 (by rw [der_frz]; exact ed)) eb, h1.wish.bl g1⟩
theorem imp_neg {ma : Vars → Mem → R Vl} {Q : VK} (h : tE w W (fun vs M => (ma vs M).bind fun x M1 => R.lift ((der M1 x).bind (op1 .neg)) M1) σ H Q) : tUn (rU fun i => .int (-i)) (tE w W ma) σ H Q := by
  obtain ⟨F, G, μ, vs, M, g, s, h⟩ := h
  refine tE.step g s h fun v H1 x M1 F1 g1 s1 l1 r1 _ h1 => ?_
  obtain ⟨z, e, h2⟩ := h1.lift
  obtain ⟨d, ed, e⟩ := Option.bind_eq_some_iff.mp e
  have t := top_of g1 r1 (by rw [der_frz]; exact ed)
  cases d with
  | int i =>
    cases t.int
    cases Option.some.inj e
    exact ⟨i, rfl, h2.wish.int g1⟩
  | _ => cases e
theorem top_none {F H' : Hp} {d : D} {v : V} (t : Top w F H' d v) : decide (v = V.non) = (match d with
    | .non => true
    | _ => false) := by
  cases d with
  | non => cases t.non; rfl
  | bl b => cases t.bl; rfl
  | int i => cases t.int; rfl
  | str s => obtain ⟨e, _⟩ := t.str; subst e; rfl
  | lst xs => obtain ⟨a, us, e, _⟩ := t; subst e; rfl
  | tup xs =>
    have t' : DR w F (.tup xs) v := t
    simp only [DR] at t'
    obtain ⟨a, us, e, _⟩ := t'
    subst e
    rfl
  | scr xs =>
    have t' : DR w F (.scr xs) v := t
    simp only [DR] at t'
    obtain ⟨a, e, _⟩ := t'
    subst e
    rfl
  | ins c fs => obtain ⟨a, _, _, e, _⟩ := t; subst e; rfl
  | dic kvs =>
    have t' : DR w F (.dic kvs) v := t
    simp only [DR] at t'
theorem imp_isN {ma : Vars → Mem → R Vl} {Q : VK} (h : tE w W (fun vs M => (ma vs M).bind fun x M1 => R.lift ((der M1 x).bind (op1 .isN)) M1) σ H Q) : tIsN (tE w W ma) σ H Q := by
  obtain ⟨F, G, μ, vs, M, g, s, h⟩ := h
  refine tE.step g s h fun v H1 x M1 F1 g1 s1 l1 r1 _ h1 => ?_
  obtain ⟨z, e, h2⟩ := h1.lift
  obtain ⟨d, ed, e⟩ := Option.bind_eq_some_iff.mp e
  rw [top_none (top_of g1 r1 (by rw [der_frz]; exact ed))]
  cases d <;> (cases Option.some.inj e; exact h2.wish.bl g1)
theorem imp_notN {ma : Vars → Mem → R Vl} {Q : VK} (h : tE w W (fun vs M => (ma vs M).bind fun x M1 => R.lift ((der M1 x).bind (op1 .notN)) M1) σ H Q) : tNotN (tE w W ma) σ H Q := by
  obtain ⟨F, G, μ, vs, M, g, s, h⟩ := h
  refine tE.step g s h fun v H1 x M1 F1 g1 s1 l1 r1 _ h1 => ?_
  obtain ⟨z, e, h2⟩ := h1.lift
  obtain ⟨d, ed, e⟩ := Option.bind_eq_some_iff.mp e
  rw [top_none (top_of g1 r1 (by rw [der_frz]; exact ed))]
  cases d <;> (cases Option.some.inj e; exact h2.wish.bl g1)
/-! ### the text's rows -/
theorem star_cons {e : Expr} {es : List Expr} {env : Env} (h : notStar e = true) : starEach (e :: es) env = (false, eval e env) :: starEach es env := by
  cases e <;> first | rfl | cases h
theorem star_all : ∀ {es : List Expr} {env : Env}, es.all notStar = true → starEach es env = es.map fun e => (false, eval e env)
  | [], _, _ => rfl
  | e :: es, env, h => by
    rw [List.all_cons, Bool.and_eq_true] at h
    rw [star_cons h.1, star_all h.2]
    rfl
theorem star_any {es : List Expr} {env : Env} {pos : Pos} (h : es.all notStar = true) : (backTo pos (starEach es env)).any (·.1) = false := by
  rw [star_all h]
  unfold backTo
  rw [List.map_map, List.any_map, List.any_eq_false]
  intro x _
  simp
theorem star_few {es : List Expr} {env : Env} {pos : Pos} (h : es.all notStar = true) (hl : es.length < 5) : ((backTo pos (starEach es env)).all (fun x => !x.1) && (backToKw pos (keywordEach [] env)).all (fun x => x.1.isSome)
      && decide (es.length + ([] : List Keyword).length + (if ([] : List Keyword).isEmpty then 0 else 1) < 30)) = true := by
  rw [star_all h, Bool.and_eq_true, Bool.and_eq_true]
  refine ⟨⟨?_, rfl⟩, decide_eq_true (by simp; omega)⟩
  unfold backTo
  rw [List.map_map, List.all_map, List.all_eq_true]
  intro x _
  simp
theorem plain_test {e : Expr} {env : Env} (h : plainT e = true) (whole : Sem Value) : isTrue e env whole = (do let v ← whole; standAt e.pos; holding [v] (truthy v)) := by
  cases e <;> first | rfl | cases h
theorem not_set {e : Expr} {env : Env} (h : notSet e = true) (x : Value) : foldedSetIterable e env x = pure x := by
  cases e <;> first | rfl | cases h
theorem not_marked {op : CmpOp} {e : Expr} (h : notSet e = true) : behindInMarks op e = false := by
  cases e <;> first | rfl | cases h
theorem not_slice {e : Expr} (h : notSlice e = true) : PlainIx e := by
  intro o i
  cases e <;> first | rfl | cases h
theorem not_super {o : Expr} {name : Str} {env : Env} (h : notSuper o = true) (whole : Sem Value) : attributeBase o name env whole = whole := by
  unfold attributeBase
  split
  · cases h
  · rfl
theorem bOk_eq {o : Op2} {op : Operator} (h : bOk o op = true) : opOf o = binaryOp op := by
  cases o <;> cases op <;> first | rfl | cases h
theorem cOk_eq {o : Op2} {op : CmpOp} (h : cOk o op = true) : opOf o = compareOp op := by
  cases o <;> cases op <;> first | rfl | cases h
theorem vis_of {sc : Scope} {x : Str} (h : visB sc x = true) : Vis sc x := by
  unfold visB at h
  split at h
  · rename_i e; exact .inl e
  · rename_i e; exact .inr (.inl e)
  · rename_i e; exact .inr (.inr e)
  · cases h
theorem gl_of {sc : Scope} {x : Str} (h : glB sc x = true) : sc.names.lookup x = some .globalImplicit := by
  unfold glB at h
  split at h
  · assumption
  · cases h
theorem nameOk_of {x : Str} (h : nameOk x = true) : (x == ("__debug__" : Str)) = false ∧ (x == ("__classdict__" : Str)) = false ∧ x ≠ "__name__" := by
  unfold nameOk at h
  simp only [Bool.and_eq_true, Bool.not_eq_true'] at h
  refine ⟨h.1, h.2.1, fun e => ?_⟩
  have h3 := h.2.2
  subst e
  rw [beq_self_eq_true] at h3
  cases h3
theorem not_marks {op op' : CmpOp} {b c : Expr} (h : notSet c = true) : lastMarks [op, op'] [b, c] = false := by
  show lastMarks [op'] [c] = false
  exact not_marked h
/-! ### the context -/
structure FnS (w : Wr) (P : Pg) (n : Nat) (X : Cx) (i : Nat) (fe : FE) : Prop where
  fit : ∃ fn, P.fns[i]? = some fn ∧ fn.np = fe.np ∧ fn.dfl = fe.dfl
  ok : ∃ (f : Addr) (fd : FuncData) (ps : List Str), X.mg fe.name = some (.ref f) ∧ PySem.W.keepIn X.K (.ref f) = true ∧ FnOk X.prog X.w X.K X.mg X.base (L2.CX X.prog X.w) n f fd ps (spC w fe.np fun a M => evF P n i a M) ∧
    ∀ m, m ≤ fe.np → fe.np ≤ m + fe.dfl.length → ∃ ds dvs, Vals dvs ds ∧ Binds X.K fd ps ds ∧ ∀ (F : Hp) (μ : List Addr), VRs w F μ ((fe.dfl.drop (m + fe.dfl.length - fe.np)).map .d) dvs
structure Cok (w : Wr) (P : Pg) (n : Nat) (ce : CE) (W : WX) (X : Cx) : Prop where
  hK : X.K = w.K
  hN : X.N = ce.N
  nd : ce.N.Nodup
  sc : X.env.scope = ce.sc
  fnc : ∀ x ∈ ce.fnc, X.fn x = true
  calm : X.calm = true
  room : Room n X.A
  tk : Takes X W
  free : ∀ x ∈ ce.free, X.mg x = none
  glo : ∀ p ∈ ce.glo, ∃ v u, X.mg p.1 = some u ∧ RelV v u ∧ ∀ F : Hp, DR w F p.2 v
  fns : ∀ i fe, ce.fns[i]? = some fe → FnS w P n X i fe
theorem Cok.units {P : Pg} {n : Nat} {ce : CE} {X : Cx} (c : Cok w P n ce W X) : X.A.units + 65 < cLine := by
  have := c.room.un
  omega
theorem Cok.gl {P : Pg} {n : Nat} {ce : CE} {X : Cx} (c : Cok w P n ce W X) {x : Str} (h : glB ce.sc x = true) : Gl X x := by
  show X.env.scope.names.lookup x = _
  rw [c.sc]
  exact gl_of h
theorem Cok.blt {P : Pg} {n : Nat} {ce : CE} {X : Cx} (c : Cok w P n ce W X) {x y : Str} (h : blt ce x y = true) : x = y ∧ Gl X y ∧ X.mg y = none := by
  unfold Pd.blt at h
  simp only [Bool.and_eq_true, decide_eq_true_eq] at h
  obtain ⟨e, h1, h2⟩ := h
  subst e
  exact ⟨rfl, c.gl h1, c.free _ h2⟩
theorem Cok.blk {P : Pg} {n : Nat} {ce : CE} {X : Cx} (c : Cok w P n ce W X) {scope : Scope} (hu : ∀ y ∈ scope.names, scope.names.lookup y.1 = some y.2) (s : Shared) (H : Hp) (C : Addr) (cl : List (Str × Addr)) (fp : List Addr) : Cok w P n (ce.blk scope) W0 (X.blk s H scope (compEnvC scope cl C X.env) fp) where
  hK := c.hK
  hN := c.hN
  nd := c.nd
  sc := by
    show relS scope X.env.scope = relS scope ce.sc
    rw [c.sc]
  fnc := fun x hx => by
    show (scope.names.lookup x == some NameKind.cell) = true
    obtain ⟨y, hy, e⟩ := List.mem_map.mp hx
    obtain ⟨hy, hc⟩ := List.mem_filter.mp hy
    have e1 := hu y hy
    obtain ⟨a, k⟩ := y
    have ek : k = .cell := by
      cases k <;> first | rfl | cases hc
    subst ek
    have e : a = x := e
    subst e
    rw [e1]
    rfl
  calm := c.calm
  room := c.room
  tk := fun u s' ⟨_, _, _, _, _, _, _, _, _, _, _, _, _, _, _, _, z⟩ => z.elim
  free := c.free
  glo := c.glo
  fns := fun i fe h => by
    obtain ⟨f1, f2⟩ := c.fns i fe h
    exact ⟨f1, f2⟩
end
end Pd

/-! PdF: soundness of the check, expression by expression. -/
namespace Pd
open PySem PySem.Spec L2

structure Snd (w : Wr) (P : Pg) (n : Nat) (k : Ck) (d : Den) : Prop where
  v : ∀ ce W X e, Cok w P n ce W X → k.v ce e = true → PE X e (tE w W d.v)
  a : ∀ ce W X es, Cok w P n ce W X → k.a ce es = true → PA X es (tA w W d.a) ∧ es.all notStar = true
  i : ∀ ce W X tg e, Cok w P n ce W X → k.i ce tg e = true → ∃ wi, PI X tg e wi ∧ ∀ σ H R, tI w W d.i σ H R → wi σ H R
  t : ∀ ce W X e, Cok w P n ce W X → k.t ce e = true → PT X e (tT w W d.t)
  wv : ∀ ce W X op es pos, Cok w P n ce W X → k.wv ce op es = true → PE X (.BoolOp op es pos) (tE w W d.v)
  wt : ∀ ce W X op es pos, Cok w P n ce W X → k.wt ce op es = true → PW X (.BoolOp op es pos) (tT w W d.t)
section
variable {w : Wr} {P : Pg} {n : Nat}
theorem pw_one {X : Cx} {op : BoolOp} {a : Expr} {pos : Pos} {t : TT} (h : PT X a t) : PW X (.BoolOp op [a] pos) t := by
  cases op with
  | And => exact pw_and1 h
  | Or => exact pw_or1 h
theorem one_of {kv : Expr → Bool} {es : List Expr} (h : (fun es => match es with
      | [e] => kv e
      | _ => false : List Expr → Bool) es = true) : ∃ e, es = [e] ∧ kv e = true := by
  cases es with
  | nil => cases h
  | cons e r =>
    cases r with
    | nil => exact ⟨e, rfl, h⟩
    | cons => cases h
theorem Snd.ofV {kv : CE → Expr → Bool} {dv : Vars → Mem → R Vl} (hv : ∀ ce W X e, Cok w P n ce W X → kv ce e = true → PE X e (tE w W dv)) : Snd w P n (Ck.ofV kv) (Den.ofV dv) where
  v := hv
  a := fun _ _ _ _ _ h => by cases h
  i := fun ce W X tg e c h => ⟨_, pi_any (hv ce W X e c h), fun σ H R q => by
    rw [c.hK]
    exact imp_iter q⟩
  t := fun ce W X e c h => by
    have h : (plainT e && kv ce e) = true := h
    rw [Bool.and_eq_true] at h
    refine PT.imp (pt_truth (hv ce W X e c h.2) (plain_test h.1)) fun σ H Q q => ?_
    rw [c.hK]
    exact imp_truth q
  wv := fun ce W X op es pos c h => by
    obtain ⟨e, ee, h⟩ := one_of (kv := kv ce) h
    subst ee
    exact pe_one (hv _ _ _ _ c h)
  wt := fun ce W X op es pos c h => by
    obtain ⟨e, ee, q⟩ := one_of (kv := fun e => plainT e && kv ce e) h
    subst ee
    obtain ⟨q1, q2⟩ := Bool.and_eq_true_iff.mp q
    refine pw_one (PT.imp (pt_truth (hv ce W X e c q2) (plain_test q1)) fun σ H Q q => ?_)
    rw [c.hK]
    exact imp_truth q
/-- with a test of its own -/
theorem Snd.ofVT {kv kt : CE → Expr → Bool} {d : Den} (hd : d.i = (Den.ofV d.v).i) (hv : ∀ ce W X e, Cok w P n ce W X → kv ce e = true → PE X e (tE w W d.v)) (ht : ∀ ce W X e, Cok w P n ce W X → kt ce e = true → PT X e (tT w W d.t)) : Snd w P n (Ck.ofVT kv kt) d where
  v := hv
  a := fun _ _ _ _ _ h => by cases h
  i := fun ce W X tg e c h => by
    rw [hd]
    exact (Snd.ofV (dv := d.v) hv).i ce W X tg e c h
  t := ht
  wv := fun ce W X op es pos c h => (Snd.ofV (dv := d.v) hv).wv ce W X op es pos c h
  wt := fun ce W X op es pos c h => by
    obtain ⟨e, ee, h⟩ := one_of (kv := kt ce) h
    subst ee
    exact pw_one (ht _ _ _ _ c h)
/-! ### what is a bool -/
theorem bindOk {α β : Type} {r : R α} {f : α → Mem → R β} {b : β} {M : Mem} (h : r.bind f = .ok b M) : ∃ a M1, r = .ok a M1 ∧ f a M1 = .ok b M := by
  cases r with
  | ok a M1 => exact ⟨a, M1, rfl, h⟩
  | exc c fs M1 => cases h
  | no => cases h
theorem liftOk {α : Type} {o : Option α} {M M' : Mem} {a : α} (h : R.lift o M = .ok a M') : o = some a := by
  cases o with
  | some b => cases h; rfl
  | none => cases h
def Op2.isCmp : Op2 → Bool
  | .add | .sub | .mul | .fdiv | .mod | .pow => false
  | _ => true
theorem cmpI_b {o : Op2} {i j : Int} {z : Vl} (h : (cmpI o i j).bind bool2 = some z) : ∃ b, z = .d (.bl b) := by
  obtain ⟨b, _, e⟩ := Option.bind_eq_some_iff.mp h
  exact ⟨b, bool2_some e⟩
theorem op2_b {o : Op2} (ho : o.isCmp = true) {x y : D} {z : Vl} (h : op2 o x y = some z) : ∃ b, z = .d (.bl b) := by
  unfold op2 at h
  split at h
  · unfold opII at h
    cases o <;> first | (cases ho; done) | exact ⟨_, bool2_some h⟩ | exact cmpI_b h
  all_goals first
    | (cases ho; done)
    | (cases h; done)
    | exact ⟨_, bool2_some h⟩
    | (split at h <;> first | (cases h; done) | exact ⟨_, bool2_some h⟩)
    | (obtain ⟨b, _, e⟩ := Option.bind_eq_some_iff.mp h; exact ⟨b, bool2_some e⟩)
theorem cOk_cmp {o : Op2} {op : CmpOp} (h : cOk o op = true) : o.isCmp = true := by
  cases o <;> first | rfl | (cases op <;> cases h)

/-! ### the constructors -/
theorem and2 {a b : Bool} (h : (a && b) = true) : a = true ∧ b = true := Bool.and_eq_true_iff.mp h
theorem snd_nil {C : Nat → List Vl → Mem → R Vl} : Snd w P n (ck .nil) (den C .nil) where
  v := fun _ _ _ _ _ h => by cases h
  a := fun ce W X es c h => by
    cases es with
    | nil => exact ⟨PA.imp pa_nil fun σ H Q q => imp_nil q, rfl⟩
    | cons => cases h
  i := fun _ _ _ _ _ _ h => by cases h
  t := fun ce W X e c h => by
    have h : (plainT e && false) = true := h
    rw [Bool.and_false] at h
    cases h
  wv := fun ce W X op es pos c h => by
    obtain ⟨e, _, q⟩ := one_of (kv := fun _ => false) h
    cases q
  wt := fun ce W X op es pos c h => by
    obtain ⟨e, _, q⟩ := one_of (kv := fun e => plainT e && false) h
    have q : (plainT e && false) = true := q
    rw [Bool.and_false] at q
    cases q
theorem snd_cons {x r : E} (hx : Snd w P n (ck x) (den (evF P n) x)) (hr : Snd w P n (ck r) (den (evF P n) r)) : Snd w P n (ck (.cons x r)) (den (evF P n) (.cons x r)) where
  v := fun _ _ _ _ _ h => by cases h
  a := fun ce W X es c h => by
    cases es with
    | nil => cases h
    | cons e es =>
      obtain ⟨h1, h⟩ := and2 h
      obtain ⟨h2, h3⟩ := and2 h
      obtain ⟨p, q⟩ := hr.a ce W X es c h3
      refine ⟨PA.imp (pa_cons (hx.v ce W X e c h2) p (star_cons h1)) fun σ H Q q => imp_cons q, ?_⟩
      rw [List.all_cons, h1, q]
      rfl
  i := fun _ _ _ _ _ _ h => by cases h
  t := fun ce W X e c h => by
    have h : (plainT e && false) = true := h
    rw [Bool.and_false] at h
    cases h
  wv := fun ce W X op es pos c h => by
    obtain ⟨e, _, q⟩ := one_of (kv := fun _ => false) h
    cases q
  wt := fun ce W X op es pos c h => by
    obtain ⟨e, _, q⟩ := one_of (kv := fun e => plainT e && false) h
    have q : (plainT e && false) = true := q
    rw [Bool.and_false] at q
    cases q
theorem snd_var {C : Nat → List Vl → Mem → R Vl} {i : Nat} : Snd w P n (ck (.var i)) (den C (.var i)) := Snd.ofV fun ce W X e c h => by
  split at h
  · rename_i x _
    obtain ⟨h1, h⟩ := and2 h
    obtain ⟨h2, h3⟩ := and2 h
    obtain ⟨n1, n2, _⟩ := nameOk_of h3
    exact PE.imp (pe_var (by rw [c.hN]; exact of_decide_eq_true h1) (by rw [c.sc]; exact vis_of h2) n1 n2) fun σ H Q q => imp_var q
  · cases h
theorem snd_k {C : Nat → List Vl → Mem → R Vl} {d : D} : Snd w P n (ck (.k d)) (den C (.k d)) := Snd.ofV fun ce W X e c h => by
  unfold kOk at h
  split at h
  · cases of_decide_eq_true h
    exact PE.imp pe_int fun σ H Q q => imp_k (fun F => by simp only [DR]) q
  · obtain ⟨h1, h2⟩ := and2 h
    cases of_decide_eq_true h1
    exact PE.imp pe_str fun σ H Q q => imp_k (fun F => by simp only [DR]; exact ⟨trivial, h2⟩) q
  · rename_i b c' _ _
    have e : b = c' := by simpa using h
    subst e
    exact PE.imp pe_bl fun σ H Q q => imp_k (fun F => by simp only [DR]) q
  · exact PE.imp pe_non fun σ H Q q => imp_k (fun F => by simp only [DR]) q
  · cases h
theorem snd_g {C : Nat → List Vl → Mem → R Vl} {x : Str} {d : D} : Snd w P n (ck (.g x d)) (den C (.g x d)) := Snd.ofV fun ce W X e c h => by
  split at h
  · rename_i y _
    obtain ⟨h1, h⟩ := and2 h
    obtain ⟨h2, h⟩ := and2 h
    obtain ⟨h3, h4⟩ := and2 h
    obtain ⟨n1, n2, _⟩ := nameOk_of h3
    obtain ⟨p, hp, h5⟩ := List.any_eq_true.mp h4
    obtain ⟨h5, h6⟩ := and2 h5
    obtain ⟨v, u, e1, r, dr⟩ := c.glo p hp
    rw [of_decide_eq_true h5] at e1
    rw [D.same_eq _ _ h6] at dr
    exact PE.imp (pe_glob (c.gl h2) e1 r n1) fun σ H Q q => imp_k dr q
  · cases h
theorem op1_b {o : Op1} (ho : o ≠ .neg) {x : D} {z : Vl} (h : op1 o x = some z) : ∃ b, z = .d (.bl b) := by
  cases o with
  | neg => exact absurd rfl ho
  | isN => cases x <;> exact ⟨_, (Option.some.inj h).symm⟩
  | notN => cases x <;> exact ⟨_, (Option.some.inj h).symm⟩
theorem snd_op1 {o : Op1} {a : E} (ha : Snd w P n (ck a) (den (evF P n) a)) : Snd w P n (ck (.op1 o a)) (den (evF P n) (.op1 o a)) := by
  have hb : o ≠ .neg → ∀ vs M z M', (den (evF P n) (.op1 o a)).v vs M = .ok z M' → ∃ b, z = .d (.bl b) := fun ho vs M z M' h => by
    obtain ⟨x, M1, _, h⟩ := bindOk h
    obtain ⟨d, _, e⟩ := Option.bind_eq_some_iff.mp (liftOk h)
    exact op1_b ho e
  refine Snd.ofVT rfl (fun ce W X e c h => ?_) fun ce W X e c h => ?_
  · split at h
    · split at h
      · exact PE.imp (pe_un un_neg (ha.v _ _ _ _ c h)) fun σ H Q q => imp_neg q
      · cases h
    · split at h
      · exact PE.imp (pe_cmp (pc_isN (ha.v _ _ _ _ c h))) fun σ H Q q => imp_isN q
      · cases h
    · split at h
      · exact PE.imp (pe_cmp (pc_notN (ha.v _ _ _ _ c h))) fun σ H Q q => imp_notN q
      · cases h
    · cases h
  · split at h
    · split at h
      · exact PT.imp (pt_cmp (pc_isN (ha.v _ _ _ _ c h))) fun σ H Q q => imp_isN (imp_test (hb (by intro z; cases z)) q)
      · cases h
    · split at h
      · exact PT.imp (pt_cmp (pc_notN (ha.v _ _ _ _ c h))) fun σ H Q q => imp_notN (imp_test (hb (by intro z; cases z)) q)
      · cases h
    · cases h
theorem snd_op2 {o : Op2} {a b : E} (ha : Snd w P n (ck a) (den (evF P n) a)) (hb : Snd w P n (ck b) (den (evF P n) b)) : Snd w P n (ck (.op2 o a b)) (den (evF P n) (.op2 o a b)) := by
  have hz : o.isCmp = true → ∀ vs M z M', (den (evF P n) (.op2 o a b)).v vs M = .ok z M' → ∃ b, z = .d (.bl b) := fun ho vs M z M' h => by
    obtain ⟨x, M1, _, h⟩ := bindOk h
    obtain ⟨y, M2, _, h⟩ := bindOk h
    obtain ⟨d, _, e⟩ := Option.bind_eq_some_iff.mp (liftOk h)
    obtain ⟨d2, _, e⟩ := Option.bind_eq_some_iff.mp e
    exact op2_b ho e
  refine Snd.ofVT rfl (fun ce W X e c h => ?_) fun ce W X e c h => ?_
  · split at h
    · obtain ⟨h1, h⟩ := and2 h
      obtain ⟨h2, h3⟩ := and2 h
      refine PE.imp (pe_op (bOk_eq h1 ▸ opR c.units o) (ha.v _ _ _ _ c h2) (hb.v _ _ _ _ c h3)) fun σ H Q q => ?_
      rw [c.hK]
      exact imp_op2 (prim_op2 o) q
    · obtain ⟨h1, h⟩ := and2 h
      obtain ⟨h0, h⟩ := and2 h
      obtain ⟨h2, h3⟩ := and2 h
      refine PE.imp (pe_cmpR (cOk_eq h1 ▸ opR c.units o) (ha.v _ _ _ _ c h2) (hb.v _ _ _ _ c h3) (not_marked h0)) fun σ H Q q => ?_
      rw [c.hK]
      exact imp_op2 (prim_op2 o) q
    · cases h
  · split at h
    · obtain ⟨h1, h⟩ := and2 h
      obtain ⟨h2, h3⟩ := and2 h
      refine PT.imp (pt_truth (pe_op (bOk_eq h1 ▸ opR c.units o) (ha.v _ _ _ _ c h2) (hb.v _ _ _ _ c h3)) (plain_test rfl)) fun σ H Q q => ?_
      rw [c.hK]
      exact imp_op2 (prim_op2 o) (imp_truth q)
    · obtain ⟨h1, h⟩ := and2 h
      obtain ⟨h0, h⟩ := and2 h
      obtain ⟨h2, h3⟩ := and2 h
      refine PT.imp (pt_cmpR (cOk_eq h1 ▸ opR c.units o) (ha.v _ _ _ _ c h2) (hb.v _ _ _ _ c h3) (not_marked h0)) fun σ H Q q => ?_
      rw [c.hK]
      exact imp_op2 (prim_op2 o) (imp_test (hz (cOk_cmp h1)) q)
    · cases h
theorem snd_chain {o p : Op2} {a b d : E} (ha : Snd w P n (ck a) (den (evF P n) a)) (hb : Snd w P n (ck b) (den (evF P n) b)) (hd : Snd w P n (ck d) (den (evF P n) d)) : Snd w P n (ck (.chain o p a b d)) (den (evF P n) (.chain o p a b d)) := by
  have hz : p.isCmp = true → ∀ vs M z M', (den (evF P n) (.chain o p a b d)).v vs M = .ok z M' → ∃ b, z = .d (.bl b) := fun ho vs M z M' h => by
    obtain ⟨x, M1, _, h⟩ := bindOk h
    obtain ⟨y, M2, _, h⟩ := bindOk h
    split at h
    · obtain ⟨t, M3, _, h⟩ := bindOk h
      obtain ⟨d, _, e⟩ := Option.bind_eq_some_iff.mp (liftOk h)
      obtain ⟨d2, _, e⟩ := Option.bind_eq_some_iff.mp e
      exact op2_b ho e
    · cases h
      exact ⟨_, rfl⟩
    · cases h
  have key : ∀ ce W X, Cok w P n ce W X → ∀ {x y z : Expr} {op op' : CmpOp}, (cOk o op && (cOk p op' && (notSet z && ((ck a).v ce x && ((ck b).v ce y && (ck d).v ce z))))) = true →
      cOk o op = true ∧ cOk p op' = true ∧ notSet z = true ∧ PE X x (tE w W (den (evF P n) a).v) ∧ PE X y (tE w W (den (evF P n) b).v) ∧ PE X z (tE w W (den (evF P n) d).v) := fun ce W X c {x y z op op'} h => by
    obtain ⟨h1, h⟩ := and2 h
    obtain ⟨h2, h⟩ := and2 h
    obtain ⟨h3, h⟩ := and2 h
    obtain ⟨h4, h⟩ := and2 h
    obtain ⟨h5, h6⟩ := and2 h
    exact ⟨h1, h2, h3, ha.v _ _ _ _ c h4, hb.v _ _ _ _ c h5, hd.v _ _ _ _ c h6⟩
  refine Snd.ofVT rfl (fun ce W X e c h => ?_) fun ce W X e c h => ?_
  · split at h
    · obtain ⟨h1, h2, h3, p1, p2, p3⟩ := key ce W X c h
      refine PE.imp (pe_chain (cOk_eq h1 ▸ opR c.units o) (cOk_eq h2 ▸ opR c.units p) p1 p2 p3 (not_marks h3)) fun σ H Q q => ?_
      rw [c.hK]
      exact imp_chain (prim_op2 o) (prim_op2 p) q
    · cases h
  · split at h
    · obtain ⟨h1, h2, h3, p1, p2, p3⟩ := key ce W X c h
      refine PT.imp (pt_chain (cOk_eq h1 ▸ opR c.units o) (cOk_eq h2 ▸ opR c.units p) p1 p2 p3 (not_marks h3)) fun σ H Q q => ?_
      rw [c.hK]
      exact imp_chain (prim_op2 o) (prim_op2 p) (imp_test (hz (cOk_cmp h2)) q)
    · cases h
end
end Pd

/-! PdG: soundness of the check, the other expressions. -/
namespace Pd
open PySem PySem.Spec L2
section
variable {w : Wr} {P : Pg} {n : Nat}
theorem snd_and {a b : E} (ha : Snd w P n (ck a) (den (evF P n) a)) (hb : Snd w P n (ck b) (den (evF P n) b)) : Snd w P n (ck (.and a b)) (den (evF P n) (.and a b)) := by
  have kv : ∀ ce W X es pos, Cok w P n ce W X → (match es with
      | x :: y :: r => (ck a).v ce x && (ck b).wv ce .And (y :: r)
      | _ => false) = true → PE X (.BoolOp .And es pos) (tE w W (den (evF P n) (.and a b)).v) := fun ce W X es pos c h => by
    split at h
    · obtain ⟨h1, h2⟩ := and2 h
      exact PE.imp (pe_and (ha.v _ _ _ _ c h1) (hb.wv _ _ _ _ _ pos c h2)) fun σ H Q q => imp_andV q
    · cases h
  have kt : ∀ ce W X es pos, Cok w P n ce W X → (match es with
      | x :: y :: r => (ck a).t ce x && (ck b).wt ce .And (y :: r)
      | _ => false) = true → PW X (.BoolOp .And es pos) (tT w W (den (evF P n) (.and a b)).t) := fun ce W X es pos c h => by
    split at h
    · obtain ⟨h1, h2⟩ := and2 h
      exact PW.imp (pw_and (ha.t _ _ _ _ c h1) (hb.wt _ _ _ _ _ pos c h2)) fun σ H Q q => imp_and q
    · cases h
  constructor
  case v =>
    intro ce W X e c h
    simp only [ck, Ck.ofV] at h
    split at h
    · exact kv _ _ _ _ _ c h
    · cases h
  case a =>
    intro _ _ _ _ _ h
    simp only [ck, Ck.ofV] at h
    cases h
  case i =>
    intro _ _ _ _ _ _ h
    simp only [ck, Ck.ofV] at h
    cases h
  case t =>
    intro ce W X e c h
    simp only [ck, Ck.ofV] at h
    split at h
    · exact (kt _ _ _ _ _ c h).pt
    · cases h
  case wv =>
    intro ce W X op es pos c h
    simp only [ck, Ck.ofV] at h
    split at h
    · exact pe_one (kv _ _ _ _ _ c h)
    · exact kv _ _ _ _ _ c h
    · cases h
  case wt =>
    intro ce W X op es pos c h
    simp only [ck, Ck.ofV] at h
    split at h
    · exact pw_one (kt _ _ _ _ _ c h).pt
    · exact kt _ _ _ _ _ c h
    · cases h
theorem snd_or {a b : E} (ha : Snd w P n (ck a) (den (evF P n) a)) (hb : Snd w P n (ck b) (den (evF P n) b)) : Snd w P n (ck (.or a b)) (den (evF P n) (.or a b)) := by
  have kv : ∀ ce W X es pos, Cok w P n ce W X → (match es with
      | x :: y :: r => (ck a).v ce x && (ck b).wv ce .Or (y :: r)
      | _ => false) = true → PE X (.BoolOp .Or es pos) (tE w W (den (evF P n) (.or a b)).v) := fun ce W X es pos c h => by
    split at h
    · obtain ⟨h1, h2⟩ := and2 h
      exact PE.imp (pe_or (ha.v _ _ _ _ c h1) (hb.wv _ _ _ _ _ pos c h2)) fun σ H Q q => imp_orV q
    · cases h
  have kt : ∀ ce W X es pos, Cok w P n ce W X → (match es with
      | x :: y :: r => (ck a).t ce x && (ck b).wt ce .Or (y :: r)
      | _ => false) = true → PW X (.BoolOp .Or es pos) (tT w W (den (evF P n) (.or a b)).t) := fun ce W X es pos c h => by
    split at h
    · obtain ⟨h1, h2⟩ := and2 h
      exact PW.imp (pw_or (ha.t _ _ _ _ c h1) (hb.wt _ _ _ _ _ pos c h2)) fun σ H Q q => imp_or q
    · cases h
  constructor
  case v =>
    intro ce W X e c h
    simp only [ck, Ck.ofV] at h
    split at h
    · exact kv _ _ _ _ _ c h
    · cases h
  case a =>
    intro _ _ _ _ _ h
    simp only [ck, Ck.ofV] at h
    cases h
  case i =>
    intro _ _ _ _ _ _ h
    simp only [ck, Ck.ofV] at h
    cases h
  case t =>
    intro ce W X e c h
    simp only [ck, Ck.ofV] at h
    split at h
    · exact (kt _ _ _ _ _ c h).pt
    · cases h
  case wv =>
    intro ce W X op es pos c h
    simp only [ck, Ck.ofV] at h
    split at h
    · exact pe_one (kv _ _ _ _ _ c h)
    · exact kv _ _ _ _ _ c h
    · cases h
  case wt =>
    intro ce W X op es pos c h
    simp only [ck, Ck.ofV] at h
    split at h
    · exact pw_one (kt _ _ _ _ _ c h).pt
    · exact kt _ _ _ _ _ c h
    · cases h
theorem snd_not {a : E} (ha : Snd w P n (ck a) (den (evF P n) a)) : Snd w P n (ck (.not a)) (den (evF P n) (.not a)) := by
  constructor
  case v =>
    intro ce W X e c h
    simp only [ck, Ck.ofV, Ck.ofVT] at h
    split at h
    · refine PE.imp (pe_notT (ha.v _ _ _ _ c h)) fun σ H Q q => ?_
      rw [c.hK]
      exact imp_notV q
    · cases h
  case a =>
    intro _ _ _ _ _ h
    simp only [ck, Ck.ofV, Ck.ofVT] at h
    cases h
  case i =>
    intro _ _ _ _ _ _ h
    simp only [ck, Ck.ofV, Ck.ofVT] at h
    cases h
  case t =>
    intro ce W X e c h
    simp only [ck, Ck.ofV, Ck.ofVT] at h
    split at h
    · exact PT.imp (pt_not (ha.t _ _ _ _ c h)) fun σ H Q q => imp_not q
    · cases h
  case wv =>
    intro ce W X op es pos c h
    simp only [ck, Ck.ofV, Ck.ofVT] at h
    split at h
    · split at h
      · refine pe_one (PE.imp (pe_notT (ha.v _ _ _ _ c h)) fun σ H Q q => ?_)
        rw [c.hK]
        exact imp_notV q
      · cases h
    · cases h
  case wt =>
    intro ce W X op es pos c h
    simp only [ck, Ck.ofV, Ck.ofVT] at h
    split at h
    · split at h
      · exact pw_one (PT.imp (pt_not (ha.t _ _ _ _ c h)) fun σ H Q q => imp_not q)
      · cases h
    · cases h
theorem snd_ife {c a b : E} (hc : Snd w P n (ck c) (den (evF P n) c)) (ha : Snd w P n (ck a) (den (evF P n) a)) (hb : Snd w P n (ck b) (den (evF P n) b)) : Snd w P n (ck (.ife c a b)) (den (evF P n) (.ife c a b)) := Snd.ofV fun ce W X e ok h => by
  split at h
  · obtain ⟨h1, h⟩ := and2 h
    obtain ⟨h2, h3⟩ := and2 h
    exact PE.imp (pe_ifExp (hc.t _ _ _ _ ok h1) (ha.v _ _ _ _ ok h2) (hb.v _ _ _ _ ok h3)) fun σ H Q q => imp_ife q
  · cases h
theorem snd_tup {a : E} (ha : Snd w P n (ck a) (den (evF P n) a)) : Snd w P n (ck (.tup a)) (den (evF P n) (.tup a)) := Snd.ofV fun ce W X e ok h => by
  split at h
  · exact PE.imp (pe_tup (ha.a _ _ _ _ ok h).1) fun σ H Q q => imp_tup q
  · cases h
theorem snd_lst {a : E} (ha : Snd w P n (ck a) (den (evF P n) a)) : Snd w P n (ck (.lst a)) (den (evF P n) (.lst a)) := Snd.ofV fun ce W X e ok h => by
  split at h
  · exact PE.imp (pe_lst (ha.a _ _ _ _ ok h).1) fun σ H Q q => imp_lst q
  · cases h
theorem snd_idx {a b : E} (ha : Snd w P n (ck a) (den (evF P n) a)) (hb : Snd w P n (ck b) (den (evF P n) b)) : Snd w P n (ck (.idx a b)) (den (evF P n) (.idx a b)) := Snd.ofV fun ce W X e ok h => by
  split at h
  · obtain ⟨h1, h⟩ := and2 h
    obtain ⟨h2, h3⟩ := and2 h
    refine PE.imp (pe_ix ix_seq (ha.v _ _ _ _ ok h2) (hb.v _ _ _ _ ok h3) (not_slice h1)) fun σ H Q q => ?_
    rw [ok.hK]
    exact imp_op2 prim_idx q
  · cases h
end
end Pd

/-! PdH: soundness of the check: calls, rows, comprehensions. -/
namespace Pd
open PySem PySem.Spec L2
section
variable {w : Wr} {P : Pg} {n : Nat}
theorem opt_some {lo : E} {ce : CE} {e : Expr} (h : (ck lo).o ce (some e) = true) : (ck lo).v ce e = true ∧ isTrueE lo = false := by
  cases lo <;> first
    | exact ⟨h, rfl⟩
    | cases h
theorem opt_none {lo : E} {ce : CE} (h : (ck lo).o ce none = true) : lo = .nil := by
  cases lo <;> first
    | rfl
    | cases h
theorem tE_mono {W : WX} {m : Vars → Mem → R Vl} {σ : L2.St} {H : Hp} {Q Q' : VK} (h : tE w W m σ H Q) (i : ∀ v H, Q v H → Q' v H) : tE w W m σ H Q' := by
  obtain ⟨F, G, μ, vs, M, g, s, h⟩ := h
  exact ⟨F, G, μ, vs, M, g, s, h.imp i⟩
theorem tO_mono {W : WX} {m : Vars → Mem → R (Option Int)} {σ : L2.St} {H : Hp} {Q Q' : Option Int → Hp → Prop} (h : tO w W m σ H Q) (i : ∀ v H, Q v H → Q' v H) : tO w W m σ H Q' := by
  obtain ⟨F, G, μ, vs, M, g, s, h⟩ := h
  exact ⟨F, G, μ, vs, M, g, s, h.imp i⟩
theorem snd_sl {a lo hi : E} (ha : Snd w P n (ck a) (den (evF P n) a)) (hl : Snd w P n (ck lo) (den (evF P n) lo)) (hh : Snd w P n (ck hi) (den (evF P n) hi)) : Snd w P n (ck (.sl a lo hi)) (den (evF P n) (.sl a lo hi)) := Snd.ofV fun ce W X e ok h => by
  split at h
  · rename_i x l hx _ _
    obtain ⟨h1, h⟩ := and2 h
    obtain ⟨h2, h3⟩ := and2 h
    have part : ∀ {u : E} {o : Option Expr}, Snd w P n (ck u) (den (evF P n) u) → (ck u).o ce o = true → ∃ t, PO X o t ∧ ∀ σ H Q, tO w W (fun vs M => optI ((den (evF P n) u).v vs M) (isTrueE u) M) σ H Q → t σ H Q := fun {u o} hu h => by
      cases o with
      | none =>
        cases opt_none h
        exact ⟨_, po_none, fun σ H Q q => imp_opt0 q⟩
      | some e =>
        obtain ⟨k1, k2⟩ := opt_some h
        refine ⟨_, po_some (hu.v _ _ _ _ ok k1), fun σ H Q q => ?_⟩
        rw [k2] at q
        exact imp_opt1 q
    obtain ⟨tl, p1, q1⟩ := part hl h2
    obtain ⟨th, p2, q2⟩ := part hh h3
    refine PE.imp (pe_slice slAny (ha.v _ _ _ _ ok h1) p1 p2) fun σ H Q q => ?_
    rw [ok.hK]
    have z := imp_sl (w := w) (W := W) (ma := (den (evF P n) a).v) (ml := fun vs M => optI ((den (evF P n) lo).v vs M) (isTrueE lo) M) (mh := fun vs M => optI ((den (evF P n) hi).v vs M) (isTrueE hi) M) (Q := Q) (σ := σ) (H := H) q
    exact tE_mono z fun x H1 y => q1 _ _ _ (tO_mono y fun l H2 y => q2 _ _ _ y)
  · cases h
theorem bi_boot (b : Bi) : bootBuiltins (biName b) = some (biFn b) := by
  cases b <;> decide +kernel
theorem bi_name (b : Bi) : biName b ≠ "__name__" ∧ (biName b == ("__debug__" : Str)) = false := by
  cases b <;> decide +kernel
theorem bi_kind (b : Bi) : (∃ id, biFn b = .builtin id) ∨ ∃ T, biFn b = .type T := by
  cases b <;> first
    | exact .inl ⟨_, rfl⟩
    | exact .inr ⟨_, rfl⟩
theorem snd_bi {b : Bi} {a : E} (ha : Snd w P n (ck a) (den (evF P n) a)) : Snd w P n (ck (.bi b a)) (den (evF P n) (.bi b a)) := Snd.ofV fun ce W X e ok h => by
  split at h
  · obtain ⟨h1, h2⟩ := and2 h
    obtain ⟨e1, g, m⟩ := ok.blt h1
    subst e1
    obtain ⟨pa, st⟩ := ha.a _ _ _ _ ok h2
    rw [List.all_cons] at st
    obtain ⟨s1, s2⟩ := and2 st
    have hb := bi_boot b
    have hr := biR (X := X) ok.calm b
    have red : ∀ σ H Q, tE w W (den (evF P n) (.bi b a)).v σ H Q → tCB (rBi X.K b) (tA w W (den (evF P n) a).a) σ H Q := fun σ H Q q => by
      rw [ok.hK]
      exact imp_bi (prim_bi b) q
    rcases bi_kind b with ⟨id, eb⟩ | ⟨T, eb⟩
    · rw [eb] at hb hr
      exact PE.imp (pe_callB hr g m hb pa (bi_name b).1 (bi_name b).2 (star_cons s1) (star_any s2)) red
    · rw [eb] at hb hr
      exact PE.imp (pe_callTy hr g m hb pa (bi_name b).1 (bi_name b).2 (star_cons s1) (star_any s2)) red
  · cases h
theorem row_len {C : Nat → List Vl → Mem → R Vl} : ∀ (r : E) (vs : Vars) (M : Mem) (xs : List Vl) (M1 : Mem), (den C r).a vs M = .ok xs M1 → xs.length = r.rowLen := by
  intro r
  induction r with
  | nil =>
    intro vs M xs M1 h
    cases h
    rfl
  | cons x r _ ih =>
    intro vs M xs M1 h
    obtain ⟨y, M2, _, h⟩ := bindOk h
    obtain ⟨ys, M3, e, h⟩ := bindOk h
    cases h
    rw [List.length_cons, ih _ _ _ _ e]
    rfl
  | _ => intro vs M xs M1 h; cases h
theorem evF_fill {f : Nat} {fn : Fn} (hf : P.fns[f]? = some fn) {xs : List Vl} (h1 : xs.length ≤ fn.np) (h2 : fn.np ≤ xs.length + fn.dfl.length) (M : Mem) :
    evF P n f xs M = evF P n f (xs ++ (fn.dfl.drop (xs.length + fn.dfl.length - fn.np)).map .d) M := by
  cases n with
  | zero => rfl
  | succ n =>
    have l1 : (xs ++ (fn.dfl.drop (xs.length + fn.dfl.length - fn.np)).map Vl.d).length = fn.np := by
      rw [List.length_append, List.length_map, List.length_drop]
      omega
    have e1 : fn.fits xs = true := by unfold Fn.fits; rw [Bool.and_eq_true]; exact ⟨decide_eq_true h1, decide_eq_true h2⟩
    have e2 : fn.fits (xs ++ (fn.dfl.drop (xs.length + fn.dfl.length - fn.np)).map Vl.d) = true := by unfold Fn.fits; rw [Bool.and_eq_true, l1]; exact ⟨decide_eq_true (Nat.le_refl _), decide_eq_true (by omega)⟩
    have e3 : startV fn (xs ++ (fn.dfl.drop (xs.length + fn.dfl.length - fn.np)).map Vl.d) = startV fn xs := by
      have e4 : (fn.dfl.drop (fn.np + fn.dfl.length - fn.np)) = [] := List.drop_eq_nil_of_le (by omega)
      unfold startV
      rw [l1, e4, List.map_nil, List.append_nil]
    simp only [evF, hf, e1, e2, e3]
theorem snd_call {f : Nat} {a : E} (ha : Snd w P n (ck a) (den (evF P n) a)) : Snd w P n (ck (.call f a)) (den (evF P n) (.call f a)) := Snd.ofV fun ce W X e ok h => by
  split at h
  · split at h
    · rename_i x _ y ys _ fe hfe
      obtain ⟨h1, h⟩ := and2 h
      obtain ⟨h2, h⟩ := and2 h
      obtain ⟨h3, h⟩ := and2 h
      obtain ⟨h4, h⟩ := and2 h
      obtain ⟨h5, h6⟩ := and2 h
      have h4 := of_decide_eq_true h4
      have h5 := of_decide_eq_true h5
      obtain ⟨⟨fn, f1, f2, f3⟩, fa, fd, ps, m, kp, F, bd⟩ := ok.fns f fe hfe
      have ex := of_decide_eq_true h1
      subst ex
      obtain ⟨pa, st⟩ := ha.a _ _ _ _ ok h6
      rw [List.all_cons] at st
      obtain ⟨s1, s2⟩ := and2 st
      obtain ⟨ds, dvs, hv, hb, hd⟩ := bd a.rowLen h4 h5
      refine PE.imp (pe_callSD F ok.room (ok.gl h2) m kp hb hv (passAt ok.tk) pa (nameOk_of h3).1 (star_cons s1) (star_any s2)) fun σ H Q q => ?_
      have ld : dvs.length = fe.np - a.rowLen := by
        rw [← (hd (fun _ => none) []).length, List.length_map, List.length_drop]
        omega
      refine imp_call (ma := (den (evF P n) a).a) (C := evF P n f) ((fe.dfl.drop (a.rowLen + fe.dfl.length - fe.np)).map .d) (fun vs M xs M1 e => ?_) hd (fun vs M xs M1 e => ?_) q
      · rw [row_len _ _ _ _ _ e, ld]
        omega
      · have l := row_len _ _ _ _ _ e
        have z := evF_fill (n := n) f1 (xs := xs) (by rw [l, f2]; exact h4) (by rw [l, f2, f3]; exact h5) M1
        rw [l, f2, f3] at z
        exact z
    · cases h
  · cases h
theorem ty_boot {t : Ty} (ht : t.blt = true) : bootBuiltins (tyStr t) = some (.type (tyName t)) := by
  cases t <;> first
    | decide +kernel
    | cases ht
theorem ty_name {t : Ty} (ht : t.blt = true) : tyStr t ≠ "__name__" ∧ (tyStr t == ("__debug__" : Str)) = false := by
  cases t <;> first
    | decide +kernel
    | cases ht
theorem ty_pe {ce : CE} {W : WX} {X : Cx} (ok : Cok w P n ce W X) {t : Ty} {e : Expr} (h : tyOk ce t e = true) : PE X e (tC (.ty (tyName t))) ∧ notStar e = true ∧ t.blt = true := by
  unfold tyOk at h
  split at h
  · obtain ⟨h1, h2⟩ := and2 h
    obtain ⟨e1, g, m⟩ := ok.blt h2
    subst e1
    exact ⟨pe_bltn g m (ty_boot h1) rfl (ty_name h1).1 (ty_name h1).2, rfl, h1⟩
  · cases h
theorem tys_pa {ce : CE} {W : WX} {X : Cx} (ok : Cok w P n ce W X) : ∀ {ts : List Ty} {es : List Expr}, tysOk ce ts es = true → PA X es (tTys ts) ∧ ts.all Ty.blt = true
  | [], [], _ => ⟨pa_nil, rfl⟩
  | t :: ts, e :: es, h => by
    obtain ⟨h1, h2⟩ := and2 h
    obtain ⟨p, st, b⟩ := ty_pe ok h1
    obtain ⟨q, r⟩ := tys_pa ok h2
    refine ⟨pa_cons p q (star_cons st), ?_⟩
    rw [List.all_cons, b, r]
    rfl
  | [], _ :: _, h => by cases h
  | _ :: _, [], h => by cases h
theorem snd_isi {ts : List Ty} {a : E} (ha : Snd w P n (ck a) (den (evF P n) a)) : Snd w P n (ck (.isi ts a)) (den (evF P n) (.isi ts a)) := Snd.ofV fun ce W X e ok h => by
  split at h
  · rename_i x p0 y es k1 p1 p2
    obtain ⟨h1, h⟩ := and2 h
    obtain ⟨h2, h⟩ := and2 h
    obtain ⟨h3, h⟩ := and2 h
    obtain ⟨h4, h5⟩ := and2 h
    obtain ⟨e1, g, m⟩ := ok.blt h1
    subst e1
    obtain ⟨p, b⟩ := tys_pa ok h5
    have pa : PA X [y, .Tuple es k1 p1] (tCons (tE w W (den (evF P n) a).v) (tCons (tTup (tTys ts)) tNil)) := pa_cons (ha.v _ _ _ _ ok h4) (pa_cons (pe_tup p) pa_nil (star_cons rfl)) (star_cons h2)
    refine PE.imp (pe_callB call_isiT g m PyProof.Rows.boot_isinstance pa (by decide) (by decide) (star_cons h2) (star_any rfl)) fun σ H Q q => ?_
    rw [ok.hK]
    exact imp_isiT b (of_decide_eq_true h3) q
  · rename_i x _ y z _ _
    obtain ⟨h1, h⟩ := and2 h
    obtain ⟨h2, h⟩ := and2 h
    obtain ⟨h4, h5⟩ := and2 h
    obtain ⟨e1, g, m⟩ := ok.blt h1
    subst e1
    cases ts with
    | nil => cases h5
    | cons t ts =>
      cases ts with
      | cons => simp [tysOk] at h5
      | nil =>
        have h5 : (tyOk ce t z && true) = true := h5
        rw [Bool.and_true] at h5
        obtain ⟨p, st, b⟩ := ty_pe ok h5
        refine PE.imp (pe_callB call_isi g m PyProof.Rows.boot_isinstance (pa_cons (ha.v _ _ _ _ ok h4) (pa_cons p pa_nil (star_cons st)) (star_cons h2)) (by decide) (by decide) (star_cons h2) (star_any (by rw [List.all_cons, st]; rfl))) fun σ H Q q => ?_
        rw [ok.hK]
        exact imp_isi1 b q
  · cases h
end
end Pd

/-! PdI: soundness of the check: methods, rows, comprehensions; all of it. -/
namespace Pd
open PySem PySem.Spec L2
section
variable {w : Wr} {P : Pg} {n : Nat}
theorem bm_slot {m : Bm} (h : m = .index ∨ m = .count ∨ m.mut = true) : Slot "list" (bmName m) (bmId m) ∧ typeOf (.builtin (bmId m)) = pure (.type "method_descriptor") := by
  cases m with
  | append => exact ⟨PySem.F.slot_list_append, PySem.F.type_list_append⟩
  | extend => exact ⟨PySem.F.slot_list_extend, PySem.F.type_list_extend⟩
  | pop => exact ⟨PySem.F.slot_list_pop, PySem.F.type_list_pop⟩
  | reverse => exact ⟨PySem.F.slot_list_reverse, PySem.F.type_list_reverse⟩
  | insert => exact ⟨PySem.F.slot_list_insert, PySem.F.type_list_insert⟩
  | index => exact ⟨PySem.F.slot_list_index, PySem.F.type_list_index⟩
  | count => exact ⟨PySem.F.slot_list_count, PySem.F.type_list_count⟩
  | join => rcases h with h | h | h <;> cases h
theorem row_one {C : Nat → List Vl → Mem → R Vl} {a : E} {ce : CE} {es : List Expr} (h : (ck a).a ce es = true) (hl : a.rowLen = 1) : ∃ x, a = .cons x .nil := by
  cases a <;> first
    | (cases h; done)
    | (cases hl; done)
    | skip
  rename_i x r
  refine ⟨x, ?_⟩
  cases r <;> first
    | rfl
    | (cases hl; done)
    | (cases es with
       | nil => cases h
       | cons e es =>
         obtain ⟨_, h⟩ := and2 h
         obtain ⟨_, h⟩ := and2 h
         cases h)
theorem row_none {a : E} {ce : CE} (h : (ck a).a ce [] = true) : a = .nil := by
  cases a <;> first
    | rfl
    | (cases h; done)
theorem snd_bm {m : Bm} {o a : E} (ho : Snd w P n (ck o) (den (evF P n) o)) (ha : Snd w P n (ck a) (den (evF P n) a)) (hx : ∀ x r, a = .cons x r → Snd w P n (ck x) (den (evF P n) x)) : Snd w P n (ck (.bm m o a)) (den (evF P n) (.bm m o a)) := Snd.ofV fun ce W X e ok h => by
  split at h
  · rename_i x name p ys q
    obtain ⟨h1, h⟩ := and2 h
    obtain ⟨h2, h⟩ := and2 h
    obtain ⟨h3, h⟩ := and2 h
    obtain ⟨h4, h⟩ := and2 h
    obtain ⟨h5, h⟩ := and2 h
    obtain ⟨h6, h7⟩ := and2 h
    have en := of_decide_eq_true h1
    subst en
    have h4 := of_decide_eq_true h4
    have po := ho.v _ _ _ _ ok h5
    obtain ⟨pa, st⟩ := ha.a _ _ _ _ ok h6
    have mutC : m.mut = true → PE X (.Call (.Attribute x (bmName m) p) ys [] q) (tE w W (den (evF P n) (.bm m o a)).v) := fun hm => by
      obtain ⟨sl, ty⟩ := bm_slot (.inr (.inr hm))
      cases ys with
      | nil =>
        cases row_none h6
        refine PE.imp (pe_bm0 PySem.F.plainAttrs_list sl ty (bmR ok.units m) po (not_super h2 _) h3) fun σ H Q z => ?_
        rw [ok.hK]
        exact imp_bmMut0 hm z
      | cons y ys =>
        rw [List.all_cons] at st
        obtain ⟨s1, s2⟩ := and2 st
        refine PE.imp (pe_bm PySem.F.plainAttrs_list sl ty (bmR ok.units m) po pa (not_super h2 _) (star_few (by rw [List.all_cons, s1, s2]; rfl) h4) h3 (star_cons s1) (star_any s2)) fun σ H Q z => ?_
        rw [ok.hK]
        exact imp_bmMut hm z
    cases m with
    | append => exact mutC rfl
    | extend => exact mutC rfl
    | pop => exact mutC rfl
    | reverse => exact mutC rfl
    | insert => exact mutC rfl
    | index =>
      cases ys with
      | nil => cases h7
      | cons y ys =>
        rw [List.all_cons] at st
        obtain ⟨s1, s2⟩ := and2 st
        obtain ⟨sl, ty⟩ := bm_slot (m := .index) (.inl rfl)
        refine PE.imp (pe_bm PySem.F.plainAttrs_list sl ty (bmR ok.units .index) po pa (not_super h2 _) (star_few (by rw [List.all_cons, s1, s2]; rfl) h4) h3 (star_cons s1) (star_any s2)) fun σ H Q z => ?_
        rw [ok.hK]
        exact imp_index z
    | count =>
      cases ys with
      | nil => cases h7
      | cons y ys =>
        rw [List.all_cons] at st
        obtain ⟨s1, s2⟩ := and2 st
        obtain ⟨sl, ty⟩ := bm_slot (m := .count) (.inr (.inl rfl))
        refine PE.imp (pe_bm PySem.F.plainAttrs_list sl ty (bmR ok.units .count) po pa (not_super h2 _) (star_few (by rw [List.all_cons, s1, s2]; rfl) h4) h3 (star_cons s1) (star_any s2)) fun σ H Q z => ?_
        rw [ok.hK]
        exact imp_count z
    | join =>
      obtain ⟨k1, k2⟩ := and2 h7
      obtain ⟨z, ez⟩ := row_one (C := evF P n) h6 (of_decide_eq_true k2)
      subst ez
      have k1 := of_decide_eq_true k1
      cases ys with
      | nil => cases k1
      | cons y ys =>
        cases ys with
        | cons => simp at k1
        | nil =>
          obtain ⟨r1, r2⟩ := and2 h6
          obtain ⟨r2, _⟩ := and2 r2
          have hz : PE X y (tE w W (den (evF P n) z).v) := (hx z .nil rfl).v _ _ _ _ ok r2
          refine PE.imp (pe_join po hz (star_cons r1) (not_super h2 _) h3) fun σ H Q zz => ?_
          rw [ok.hK]
          exact imp_join zz
  · cases h
theorem no_v {C : Nat → List Vl → Mem → R Vl} {d : Den} {ki : CE → Expr → Expr → Bool} (hi : ∀ ce W X tg e, Cok w P n ce W X → ki ce tg e = true → ∃ wi, PI X tg e wi ∧ ∀ σ H R, tI w W d.i σ H R → wi σ H R) : Snd w P n { Ck.ofV (fun _ _ => false) with i := ki } d where
  v := fun _ _ _ _ _ h => by cases h
  a := fun _ _ _ _ _ h => by cases h
  i := hi
  t := fun ce W X e c h => by
    have h : (plainT e && false) = true := h
    rw [Bool.and_false] at h
    cases h
  wv := fun ce W X op es pos c h => by
    obtain ⟨e, _, q⟩ := one_of (kv := fun _ => false) h
    cases q
  wt := fun ce W X op es pos c h => by
    obtain ⟨e, _, q⟩ := one_of (kv := fun e => plainT e && false) h
    have q : (plainT e && false) = true := q
    rw [Bool.and_false] at q
    cases q
theorem zero_of {lo : E} (h : isZero lo = true) : lo = .k (.int 0) := by
  unfold isZero at h
  split at h
  · rfl
  · cases h
theorem star1 {y : Expr} {env : Env} (h : notStar y = true) : starEach [y] env = [(false, eval y env)] := star_cons h
theorem snd_rng {a b : E} (ha : Snd w P n (ck a) (den (evF P n) a)) (hb : Snd w P n (ck b) (den (evF P n) b)) : Snd w P n (ck (.rng a b)) (den (evF P n) (.rng a b)) := no_v (C := evF P n) fun ce W X tg e ok h => by
  split at h
  · obtain ⟨h1, h⟩ := and2 h
    obtain ⟨h2, h⟩ := and2 h
    obtain ⟨h3, h4⟩ := and2 h
    obtain ⟨e1, g, m⟩ := ok.blt h1
    subst e1
    cases zero_of h3
    exact ⟨_, pi_range1 g m (pa_cons (hb.v _ _ _ _ ok h4) pa_nil (star_cons h2)) (star1 h2), fun σ H R q => imp_rng1 q⟩
  · obtain ⟨h1, h⟩ := and2 h
    obtain ⟨h2, h⟩ := and2 h
    obtain ⟨h3, h⟩ := and2 h
    obtain ⟨h4, h5⟩ := and2 h
    obtain ⟨e1, g, m⟩ := ok.blt h1
    subst e1
    exact ⟨_, pi_range2 g m (pa_cons (ha.v _ _ _ _ ok h4) (pa_cons (hb.v _ _ _ _ ok h5) pa_nil (star_cons h3)) (star_cons h2)) (by rw [star_cons h2, star1 h3]) (star1 h3), fun σ H R q => imp_rng2 q⟩
  · cases h
theorem snd_enum {a : E} (ha : Snd w P n (ck a) (den (evF P n) a)) : Snd w P n (ck (.enum a)) (den (evF P n) (.enum a)) := no_v (C := evF P n) fun ce W X tg e ok h => by
  split at h
  · obtain ⟨h1, h⟩ := and2 h
    obtain ⟨h2, h3⟩ := and2 h
    obtain ⟨e1, g, m⟩ := ok.blt h1
    subst e1
    refine ⟨_, pi_enumA g m (pa_cons (ha.v _ _ _ _ ok h3) pa_nil (star_cons h2)) (star1 h2), fun σ H R q => ?_⟩
    rw [ok.hK]
    exact imp_enum q
  · cases h
theorem snd_zip {a b : E} (ha : Snd w P n (ck a) (den (evF P n) a)) (hb : Snd w P n (ck b) (den (evF P n) b)) : Snd w P n (ck (.zip a b)) (den (evF P n) (.zip a b)) := no_v (C := evF P n) fun ce W X tg e ok h => by
  split at h
  · obtain ⟨h1, h⟩ := and2 h
    obtain ⟨h2, h⟩ := and2 h
    obtain ⟨h3, h⟩ := and2 h
    obtain ⟨h4, h5⟩ := and2 h
    obtain ⟨e1, g, m⟩ := ok.blt h1
    subst e1
    refine ⟨_, RZ.pi_zipA g m (pa_cons (ha.v _ _ _ _ ok h4) (pa_cons (hb.v _ _ _ _ ok h5) pa_nil (star_cons h3)) (star_cons h2)) (star_cons h2) (star_any (by rw [List.all_cons, h3]; rfl)), fun σ H R q => ?_⟩
    rw [ok.hK]
    exact imp_zip q
  · cases h
/-! ### targets -/
theorem each_cons {e : Expr} {es : List Expr} {env : Env} (h : notStar e = true) : assignEach (e :: es) env = (false, assign e env) :: assignEach es env := by
  cases e <;> first | rfl | cases h
theorem tg_star {ce : CE} {t : T} {e : Expr} (h : tgOk ce t e = true) : notStar e = true := by
  cases e <;> first | rfl | (cases t <;> cases h)
theorem tgs_each {ce : CE} {env : Env} : ∀ {t : T} {es : List Expr}, tgOk.tgsOk ce t es = true → (assignEach es env).length = tgLen t ∧ (assignEach es env).findIdx? (·.1) = none
  | .t0, [], _ => ⟨rfl, rfl⟩
  | .tc a r, e :: es, h => by
    obtain ⟨h1, h2⟩ := and2 (show (tgOk ce a e && tgOk.tgsOk ce r es) = true from h)
    obtain ⟨l, f⟩ := tgs_each (env := env) h2
    rw [each_cons (tg_star h1)]
    refine ⟨by simp [tgLen, l], ?_⟩
    rw [List.findIdx?_cons, f]
    rfl
  | .t0, _ :: _, h => by cases h
  | .tc _ _, [], h => by cases h
  | .n _, es, h => by cases es <;> cases h
  | .t _, es, h => by cases es <;> cases h
theorem loc_of {ce : CE} {W : WX} {X : Cx} (ok : Cok w P n ce W X) {x : Str} (h : locB ce x = true) : Loc X.env.scope x ∧ (X.fn x = true ∨ X.env.scope.names.lookup x = some .local) := by
  unfold locB at h
  rw [← ok.sc] at h
  split at h
  · rename_i e
    exact ⟨.inl e, .inr e⟩
  · rename_i e
    exact ⟨.inr e, .inl (ok.fnc _ (of_decide_eq_true h))⟩
  · cases h
mutual
theorem tg_pg {ce : CE} {W : WX} {X : Cx} (ok : Cok w P n ce W X) : ∀ {t : T} {e : Expr}, tgOk ce t e = true → PG X e (tgT X.K t)
  | .n i, .Name x _, h => by
    obtain ⟨h1, h2⟩ := and2 (show (decide (ce.N[i]? = some x) && locB ce x) = true from h)
    obtain ⟨l, f⟩ := loc_of ok h2
    exact pg_name (by rw [ok.hN]; exact ok.nd) (by rw [ok.hN]; exact of_decide_eq_true h1) l f
  | .t r, .Tuple es _ _, h => by
    have h : tgOk.tgsOk ce r es = true := h
    obtain ⟨l, f⟩ := tgs_each (env := X.env) h
    exact pg_tup ok.calm (tgs_pg ok h) l f
  | .n i, .BoolOp .., h => by cases h
  | .n i, .Tuple .., h => by cases h
  | .t r, .Name .., h => by cases h
  | .t0, e, h => by cases e <;> cases h
  | .tc _ _, e, h => by cases e <;> cases h
theorem tgs_pg {ce : CE} {W : WX} {X : Cx} (ok : Cok w P n ce W X) : ∀ {t : T} {es : List Expr}, tgOk.tgsOk ce t es = true → PGs X es (tgTs X.K t)
  | .t0, [], _ => pgs_nil
  | .tc a r, e :: es, h => by
    obtain ⟨h1, h2⟩ := and2 (show (tgOk ce a e && tgOk.tgsOk ce r es) = true from h)
    exact pgs_cons (tg_pg ok h1) (tgs_pg ok h2) (by rw [each_cons (tg_star h1)]; rfl)
  | .t0, _ :: _, h => by cases h
  | .tc _ _, [], h => by cases h
  | .n _, es, h => by cases es <;> cases h
  | .t _, es, h => by cases es <;> cases h
end
end
end Pd

/-! PdJ: comprehensions checked; the whole check of expressions is sound. -/
namespace Pd
open PySem PySem.Spec L2
section
variable {w : Wr} {P : Pg} {n : Nat}
theorem own_snd (N : List Str) : ∀ own : List Nat, (ownOf N own).map (·.2) = own
  | [] => rfl
  | i :: r => by
    show i :: (ownOf N r).map (·.2) = _
    rw [own_snd N r]
theorem slots_of {ls own : List Nat} (h : slotsIn ls own = true) : ∀ i ∈ ls, i ∈ own := fun i hi => of_decide_eq_true (List.all_eq_true.mp h i hi)
theorem snd_lc {own : List Nat} {t : T} {it c elt : E} (hi : Snd w P n (ck it) (den (evF P n) it)) (hc : Snd w P n (ck c) (den (evF P n) c)) (he : Snd w P n (ck elt) (den (evF P n) elt)) : Snd w P n (ck (.lc own t it c elt)) (den (evF P n) (.lc own t it c elt)) := Snd.ofV fun ce W X e ok h => by
  split at h
  · rename_i x tg iter ifs scope pos
    obtain ⟨h1, h⟩ := and2 h
    obtain ⟨h2, h⟩ := and2 h
    obtain ⟨h3, h⟩ := and2 h
    obtain ⟨h4, h⟩ := and2 h
    obtain ⟨h5, h⟩ := and2 h
    obtain ⟨h6, h7⟩ := and2 h
    have bo := blkOk_by h2
    obtain ⟨wi, pi, ri⟩ := hi.i _ _ _ _ _ ok h5
    have key : ∃ tt, (∀ (s : Shared) (H : Hp) (C : Addr) (cl : List (Str × Addr)) (fp : List Addr), PTs (X.blk s H scope (compEnvC scope cl C X.env) fp) ifs tt) ∧
        ∀ σ H Q, tT w W0 (if isTrueE c then fun _ M => .ok true M else (den (evF P n) c).t) σ H Q → tt σ H Q := by
      cases ifs with
      | nil =>
        have h7 : isTrueE c = true := h7
        refine ⟨_, fun s H C cl fp => pts_nil, fun σ H Q q => ?_⟩
        rw [if_pos h7] at q
        exact imp_yes q
      | cons y r =>
        cases r with
        | nil =>
          obtain ⟨k1, k2⟩ := and2 (show (!isTrueE c && (ck c).t (ce.blk scope) y) = true from h7)
          refine ⟨_, fun s H C cl fp => pts_one (hc.t _ _ _ _ (ok.blk bo.uniq s H C cl fp) k2), fun σ H Q q => ?_⟩
          have k1 : ¬ isTrueE c = true := by simpa using k1
          rw [if_neg k1] at q
          exact q
        | cons => cases h7
    obtain ⟨tt, pt, rt⟩ := key
    have pg : ∀ (s : Shared) (H : Hp) (C : Addr) (cl : List (Str × Addr)) (fp : List Addr), PG (X.blk s H scope (compEnvC scope cl C X.env) fp) tg (tgT X.K t) := fun s H C cl fp => tg_pg (ok.blk bo.uniq s H C cl fp) h4
    refine PE.imp (pe_lc (own := ownOf ce.N own) ok.calm (by rw [ok.hN]; exact ok.nd) pi (by rw [ok.hN, ok.sc]; exact bo) pg pt (fun s H C cl fp => he.v _ _ _ _ (ok.blk bo.uniq s H C cl fp) h6) (not_set h1)) fun σ H Q q => ?_
    rw [own_snd, ok.hK]
    exact imp_lc ri rt (slots_of h3) q
  · cases h
theorem ck_all (w : Wr) (P : Pg) (n : Nat) : ∀ e : E, Snd w P n (ck e) (den (evF P n) e) ∧ ∀ x r, e = .cons x r → Snd w P n (ck x) (den (evF P n) x) := by
  intro e
  induction e with
  | nil => exact ⟨snd_nil, fun x r h => by cases h⟩
  | cons x r hx hr => exact ⟨snd_cons hx.1 hr.1, fun y s h => by cases h; exact hx.1⟩
  | var i => exact ⟨snd_var, fun x r h => by cases h⟩
  | k d => exact ⟨snd_k, fun x r h => by cases h⟩
  | g x d => exact ⟨snd_g, fun x r h => by cases h⟩
  | op1 o a ha => exact ⟨snd_op1 ha.1, fun x r h => by cases h⟩
  | op2 o a b ha hb => exact ⟨snd_op2 ha.1 hb.1, fun x r h => by cases h⟩
  | chain o p a b c ha hb hc => exact ⟨snd_chain ha.1 hb.1 hc.1, fun x r h => by cases h⟩
  | and a b ha hb => exact ⟨snd_and ha.1 hb.1, fun x r h => by cases h⟩
  | or a b ha hb => exact ⟨snd_or ha.1 hb.1, fun x r h => by cases h⟩
  | not a ha => exact ⟨snd_not ha.1, fun x r h => by cases h⟩
  | ife c a b hc ha hb => exact ⟨snd_ife hc.1 ha.1 hb.1, fun x r h => by cases h⟩
  | tup a ha => exact ⟨snd_tup ha.1, fun x r h => by cases h⟩
  | lst a ha => exact ⟨snd_lst ha.1, fun x r h => by cases h⟩
  | idx a i ha hi => exact ⟨snd_idx ha.1 hi.1, fun x r h => by cases h⟩
  | sl a lo hi ha hl hh => exact ⟨snd_sl ha.1 hl.1 hh.1, fun x r h => by cases h⟩
  | bi b a ha => exact ⟨snd_bi ha.1, fun x r h => by cases h⟩
  | bm m o a ho ha => exact ⟨snd_bm ho.1 ha.1 ha.2, fun x r h => by cases h⟩
  | call f a ha => exact ⟨snd_call ha.1, fun x r h => by cases h⟩
  | isi ts a ha => exact ⟨snd_isi ha.1, fun x r h => by cases h⟩
  | rng a b ha hb => exact ⟨snd_rng ha.1 hb.1, fun x r h => by cases h⟩
  | enum a ha => exact ⟨snd_enum ha.1, fun x r h => by cases h⟩
  | zip a b ha hb => exact ⟨snd_zip ha.1 hb.1, fun x r h => by cases h⟩
  | lc own t it c elt hi hc he => exact ⟨snd_lc hi.1 hc.1 he.1, fun x r h => by cases h⟩
theorem ck_ok (w : Wr) (P : Pg) (n : Nat) (e : E) : Snd w P n (ck e) (den (evF P n) e) := (ck_all w P n e).1
end
end Pd

/-! PdK: statements: the readings follow from the evaluator. -/
namespace Pd
open PySem PySem.Spec L2
section
variable (w : Wr)
def OutS (F G : Hp) (μ : List Addr) (r : RS) (D : Ends) (W : WX) : Prop := match r with
  | .nx v M => ∀ F' H σ' μ', Fle F F' → μ <+: μ' → GR w F' G H μ' M → SR w F' μ' v σ' → D.nx σ' H
  | .brk v M => ∀ F' H σ' μ', Fle F F' → μ <+: μ' → GR w F' G H μ' M → SR w F' μ' v σ' → D.bk σ' H
  | .cnt v M => ∀ F' H σ' μ', Fle F F' → μ <+: μ' → GR w F' G H μ' M → SR w F' μ' v σ' → D.ct σ' H
  | .ret x M => ∀ F' H v μ', Fle F F' → μ <+: μ' → GR w F' G H μ' M → RR w F' G μ' H x v → D.rt v H
  | .exc c fs v M => ∀ F' H σ' μ' dd, Fle F F' → μ <+: μ' → GR w F' G H μ' M → SR w F' μ' v σ' → ExcR w F' H fs dd → W (.ref (w.ca c)) (some dd) σ' H
  | .no => False
def tS (W : WX) (m : Vars → Mem → RS) : TS := fun D σ H => ∃ F G μ vs M, GR w F G H μ M ∧ SR w F μ vs σ ∧ OutS w F G μ (m vs M) D W
end
section
variable {w : Wr} {W : WX} {σ : L2.St} {H : Hp} {D : Ends}
theorem OutS.le {F F' G : Hp} {μ μ' : List Addr} {r : RS} (l : Fle F F') (p : μ <+: μ') (h : OutS w F G μ r D W) : OutS w F' G μ' r D W := by
  cases r with
  | nx v M => exact fun F2 H σ2 μ2 l2 p2 => h F2 H σ2 μ2 (l.trans l2) (p.trans p2)
  | brk v M => exact fun F2 H σ2 μ2 l2 p2 => h F2 H σ2 μ2 (l.trans l2) (p.trans p2)
  | cnt v M => exact fun F2 H σ2 μ2 l2 p2 => h F2 H σ2 μ2 (l.trans l2) (p.trans p2)
  | ret x M => exact fun F2 H v μ2 l2 p2 => h F2 H v μ2 (l.trans l2) (p.trans p2)
  | exc c fs v M => exact fun F2 H σ2 μ2 dd l2 p2 => h F2 H σ2 μ2 dd (l.trans l2) (p.trans p2)
  | no => exact h
/-- the parts of a statement -/
theorem tE.stepR {ma : Vars → Mem → R Vl} {F G : Hp} {μ : List Addr} {vs : Vars} {M : Mem} {f : Vl → Mem → RS} {P : VK}
    (g : GR w F G H μ M) (s : SR w F μ vs σ) (h : OutS w F G μ ((ma vs M).thenS vs f) D W)
    (k : ∀ v H1 x M1 F1, GR w F1 G H1 μ M1 → SR w F1 μ vs σ → Fle F F1 → RR w F1 G μ H1 x v → OutS w F1 G μ (f x M1) D W → P v H1) : tE w W ma σ H P := by
  refine ⟨F, G, μ, vs, M, g, s, ?_⟩
  cases e : ma vs M with
  | ok x M1 =>
    rw [e] at h
    exact fun F1 H1 v l1 g1 r1 => k v H1 x M1 F1 g1 (s.le l1) l1 r1 (OutS.le l1 List.prefix_rfl h)
  | exc c fs M1 =>
    rw [e] at h
    exact fun F1 H1 dd l1 g1 x1 => h F1 H1 σ μ dd l1 List.prefix_rfl g1 (s.le l1) x1
  | no => rw [e] at h; exact h
theorem tE.stepS {ma : Vars → Mem → R Vl} {F G : Hp} {μ : List Addr} {vs : Vars} {M : Mem} {f : Vl → Mem → RS} {P : VK}
    (g : GR w F G H μ M) (s : SR w F μ vs σ) (h : OutS w F G μ ((ma vs M).thenS vs f) D W)
    (k : ∀ v H1 x M1 F1, GR w F1 G H1 μ M1 → SR w F1 μ vs σ → Fle F F1 → VR w F1 μ (frz x) v → OutS w F1 G μ (f x M1) D W → P v H1) : tE w W ma σ H P :=
  tE.stepR g s h fun v H1 x M1 F1 g1 s1 l1 r1 h1 => by
    obtain ⟨F2, l2, g2, r2⟩ := g1.frz r1
    exact k v H1 x M1 F2 g2 (s1.le l2) (l1.trans l2) r2 (OutS.le l2 List.prefix_rfl h1)
theorem tT.stepS {ma : Vars → Mem → R Bool} {F G : Hp} {μ : List Addr} {vs : Vars} {M : Mem} {f : Bool → Mem → RS} {P : Bool → Hp → Prop}
    (g : GR w F G H μ M) (s : SR w F μ vs σ) (h : OutS w F G μ ((ma vs M).thenS vs f) D W)
    (k : ∀ b H1 M1 F1, GR w F1 G H1 μ M1 → SR w F1 μ vs σ → Fle F F1 → OutS w F1 G μ (f b M1) D W → P b H1) : tT w W ma σ H P := by
  refine ⟨F, G, μ, vs, M, g, s, ?_⟩
  cases e : ma vs M with
  | ok x M1 =>
    rw [e] at h
    intro F1 H1 b l1 g1 r1
    have r1 : x = b := r1
    subst r1
    exact k _ H1 M1 F1 g1 (s.le l1) l1 (OutS.le l1 List.prefix_rfl h)
  | exc c fs M1 =>
    rw [e] at h
    exact fun F1 H1 dd l1 g1 x1 => h F1 H1 σ μ dd l1 List.prefix_rfl g1 (s.le l1) x1
  | no => rw [e] at h; exact h

theorem s_skip (h : tS w W (fun v M => .nx v M) D σ H) : tNext D σ H := by
  obtain ⟨F, G, μ, vs, M, g, s, h⟩ := h
  exact h F H σ μ Fle.refl List.prefix_rfl g s
theorem s_brk (h : tS w W (fun v M => .brk v M) D σ H) : tBreak D σ H := by
  obtain ⟨F, G, μ, vs, M, g, s, h⟩ := h
  exact h F H σ μ Fle.refl List.prefix_rfl g s
theorem s_cnt (h : tS w W (fun v M => .cnt v M) D σ H) : tCont D σ H := by
  obtain ⟨F, G, μ, vs, M, g, s, h⟩ := h
  exact h F H σ μ Fle.refl List.prefix_rfl g s
theorem s_retn (h : tS w W (fun v M => .ret (.d .non) M) D σ H) : tRetN D σ H := by
  obtain ⟨F, G, μ, vs, M, g, s, h⟩ := h
  refine h F H .non μ Fle.refl List.prefix_rfl g ?_
  show DR w F .non .non
  simp only [DR]
theorem s_nev (h : tS w W (fun _ _ => .no) D σ H) : tNever D σ H := by
  obtain ⟨F, G, μ, vs, M, g, s, h⟩ := h
  exact h
theorem s_seq {a b : Vars → Mem → RS} (h : tS w W (fun v M => (a v M).andThen b) D σ H) : tSeq (tS w W a) (tS w W b) D σ H := by
  obtain ⟨F, G, μ, vs, M, g, s, h⟩ := h
  refine ⟨F, G, μ, vs, M, g, s, ?_⟩
  have h : OutS w F G μ ((a vs M).andThen b) D W := h
  cases e : a vs M with
  | nx v M1 =>
    rw [e] at h
    exact fun F' H' σ' μ' l p g' s' => ⟨F', G, μ', v, M1, g', s', OutS.le l p h⟩
  | brk v M1 => rw [e] at h; exact h
  | cnt v M1 => rw [e] at h; exact h
  | ret x M1 => rw [e] at h; exact h
  | exc c fs v M1 => rw [e] at h; exact h
  | no => rw [e] at h; exact h
theorem s_ret {m : Vars → Mem → R Vl} (h : tS w W (fun v M => (m v M).thenS v fun x M1 => .ret x M1) D σ H) : tRet (tE w W m) D σ H := by
  obtain ⟨F, G, μ, vs, M, g, s, h⟩ := h
  exact tE.stepR g s h fun v H1 x M1 F1 g1 s1 l1 r1 h1 => h1 F1 H1 v μ Fle.refl List.prefix_rfl g1 r1
theorem s_ex {m : Vars → Mem → R Vl} (h : tS w W (fun v M => (m v M).thenS v fun _ M1 => .nx v M1) D σ H) : tDrop (tE w W m) D σ H := by
  obtain ⟨F, G, μ, vs, M, g, s, h⟩ := h
  exact tE.stepR g s h fun v H1 x M1 F1 g1 s1 l1 r1 h1 => h1 F1 H1 σ μ Fle.refl List.prefix_rfl g1 s1
theorem s_ite {c : Vars → Mem → R Bool} {a b : Vars → Mem → RS} (h : tS w W (fun v M => (c v M).thenS v fun x M1 => if x then a v M1 else b v M1) D σ H) : tIfS (tT w W c) (tS w W a) (tS w W b) D σ H := by
  obtain ⟨F, G, μ, vs, M, g, s, h⟩ := h
  refine tT.stepS g s h fun k H1 M1 F1 g1 s1 l1 h1 => ?_
  cases k with
  | true =>
    rw [if_pos rfl] at h1 ⊢
    exact ⟨F1, G, μ, vs, M1, g1, s1, h1⟩
  | false =>
    rw [if_neg (by decide)] at h1 ⊢
    exact ⟨F1, G, μ, vs, M1, g1, s1, h1⟩
theorem s_setN {i : Nat} {m : Vars → Mem → R Vl} (h : tS w W (fun v M => (m v M).thenS v fun x M1 => if i < v.length then .nx (v.set i (some (frz x))) M1 else .no) D σ H) : tAsg (tE w W m) (gName i) D σ H := by
  obtain ⟨F, G, μ, vs, M, g, s, h⟩ := h
  refine tE.stepS g s h fun v H1 x M1 F1 g1 s1 l1 r1 h1 => ?_
  split at h1
  · exact h1 F1 H1 _ μ Fle.refl List.prefix_rfl g1 (s1.set r1)
  · exact h1.elim
theorem s_setT {t : T} {m : Vars → Mem → R Vl} (h : tS w W (fun v M => (m v M).thenS v fun x M1 => match frz x with
        | .d x => (match bindT t x v with
          | some v1 => .nx v1 M1
          | none => .no)
        | _ => .no) D σ H) : tAsg (tE w W m) (tgT w.K t) D σ H := by
  obtain ⟨F, G, μ, vs, M, g, s, h⟩ := h
  refine tE.stepS g s h fun v H1 x M1 F1 g1 s1 l1 r1 h1 => ?_
  split at h1
  · rename_i d ed
    rw [ed] at r1
    split at h1
    · rename_i v1 eb
      exact bind_ok g1.sub t d v vs v1 σ _ s1 r1 eb fun σ' s' => h1 F1 H1 σ' μ Fle.refl List.prefix_rfl g1 s'
    · exact h1.elim
  · exact h1.elim
theorem as_cell {F G H1 : Hp} {μ : List Addr} {M M' : Mem} {x y : Vl} {v : V} (g : GR w F G H1 μ M) (r : RR w F G μ H1 x v) (e : asCell M x = .ok y M') : ∃ a, v = .ref a ∧ GR w F G H1 (μ ++ [a]) M' ∧ y = .loc M.length ∧ VR w F (μ ++ [a]) y v := by
  cases x with
  | new d =>
    obtain ⟨a, o, ev, f, k, m, ho, q⟩ := r
    cases e
    refine ⟨a, ev, g.addCell f k m ho q, rfl, a, ?_, ev⟩
    rw [← g.len, List.getElem?_append_right (Nat.le_refl _), Nat.sub_self]
    rfl
  | d x => cases e
  | loc n => cases e
theorem s_cell {i : Nat} {m : Vars → Mem → R Vl} (h : tS w W (fun v M => (m v M).thenS v fun x M1 => match asCell M1 x with
      | .ok y M2 => if i < v.length then .nx (v.set i (some y)) M2 else .no
      | _ => .no) D σ H) : tAsg (tE w W m) (gName i) D σ H := by
  obtain ⟨F, G, μ, vs, M, g, s, h⟩ := h
  refine tE.stepR g s h fun v H1 x M1 F1 g1 s1 l1 r1 h1 => ?_
  cases e : asCell M1 x with
  | ok y M2 =>
    rw [e] at h1
    obtain ⟨a, ev, g2, ey, r2⟩ := as_cell g1 r1 e
    dsimp only at h1
    split at h1
    · exact h1 F1 H1 _ (μ ++ [a]) Fle.refl (List.prefix_append _ _) g2 (s1.ext.set r2)
    · exact h1.elim
  | exc c fs M2 => rw [e] at h1; exact h1.elim
  | no => rw [e] at h1; exact h1.elim
theorem s_setix {mo mi me : Vars → Mem → R Vl} (h : tS w W (fun v M => (me v M).thenS v fun y M1 => match toD M1 y with
      | some (yd, M2) => (mo v M2).thenS v fun x M3 => (mi v M3).thenS v fun k M4 => match k with
        | .d kd => (match setIx M4 x kd yd with
          | some M5 => .nx v M5
          | none => .no)
        | _ => .no
      | none => .no) D σ H) : tAsg (tE w W me) (gSub (tE w W mo) (tE w W mi) rSetL) D σ H := by
  obtain ⟨F, G, μ, vs, M, g, s, h⟩ := h
  refine tE.stepS g s h fun v H1 y M1 F1 g1 s1 l1 r1 h1 => ?_
  cases et : toD M1 y with
  | none => rw [et] at h1; exact h1.elim
  | some p =>
    obtain ⟨yd, M2⟩ := p
    rw [et] at h1
    have et' : toD M1 (frz y) = some (yd, M2) := by cases y <;> exact et
    obtain ⟨F2, l2, g2, d2⟩ := g1.toD r1 et'
    refine tE.stepS g2 (s1.le l2) (OutS.le l2 List.prefix_rfl h1) fun o H2 x M3 F3 g3 s3 l3 r3 h3 => ?_
    refine tE.stepS g3 s3 h3 fun k H3 kx M4 F4 g4 s4 l4 r4 h4 => ?_
    split at h4
    · rename_i kd
      have r4 : DR w F4 kd k := r4
      split at h4
      · rename_i M5 e5
        unfold setIx at e5
        split at e5
        · rename_i n z hh
          split at e5
          · rename_i xs hn
            obtain ⟨j, ej, e6⟩ := Option.bind_eq_some_iff.mp e5
            split at e6
            · rename_i hj
              cases Option.some.inj e6
              obtain ⟨a, ea, ev⟩ := r3.le l4
              subst ev
              simp only [DR] at r4
              obtain ⟨b, e1, q1, _⟩ := g4.cell n _ hn
              rw [ea] at e1
              cases e1
              obtain ⟨_, _, ob, hob, us, eob, zl, dr⟩ := q1 rfl
              subst eob
              refine ⟨a, us, z, j, rfl, r4, hob, by rw [← dr.length]; exact ej, ?_⟩
              refine h4 F4 _ σ μ Fle.refl List.prefix_rfl (g4.write hn ea ⟨us.set j v, rfl, by rw [List.length_set]; exact zl, dr.set w (d2.le w (l3.trans l4)) j⟩) s4
            · cases e6
          · cases e5
        · cases e5
      · exact h4.elim
    · exact h4.elim
def ipOf : Op2 → TIp
  | .add => ipI fun i j => i + j
  | .sub => ipI fun i j => i - j
  | _ => fun _ _ _ _ => False
theorem s_aug {i : Nat} {o : Op2} {m : Vars → Mem → R Vl} (ho : o = .add ∨ o = .sub) (h : tS w W (fun v M => match v[i]? with
      | some (some (.d x)) => (m v M).thenS v fun y M1 => match y with
        | .d y => if augOk o x y then (match op2 o x y with
          | some z => .nx (v.set i (some z)) M1
          | none => .no) else .no
        | _ => .no
      | _ => .no) D σ H) : tAug i (tE w W m) (ipOf o) D σ H := by
  obtain ⟨F, G, μ, vs, M, g, s, h⟩ := h
  dsimp only at h
  split at h
  · rename_i x ex
    obtain ⟨v, ev, rx⟩ := s.at_ i _ ex
    have rx : DR w F x v := rx
    refine ⟨v, ev, tE.stepS g s h fun u H1 y M1 F1 g1 s1 l1 r1 h1 => ?_⟩
    split at h1
    · rename_i d
      have r1 : DR w F1 d u := r1
      split at h1
      · rename_i ha
        split at h1
        · rename_i z ez
          have rx := rx.le w l1
          unfold augOk at ha
          split at ha
          · simp only [DR] at rx r1
            cases Option.some.inj ez
            exact ⟨_, _, rx, r1, h1 F1 H1 _ μ Fle.refl List.prefix_rfl g1 (s1.set (x := .d (.int _)) (by show DR w F1 (.int _) (.int _); simp only [DR]))⟩
          · simp only [DR] at rx r1
            cases Option.some.inj ez
            exact ⟨_, _, rx, r1, h1 F1 H1 _ μ Fle.refl List.prefix_rfl g1 (s1.set (x := .d (.int _)) (by show DR w F1 (.int _) (.int _); simp only [DR]))⟩
          · rcases ho with ho | ho <;> cases ho
          · cases ha
        · exact h1.elim
      · exact h1.elim
    · exact h1.elim
  · exact h.elim
theorem s_while {c : Vars → Mem → R Bool} {b : Vars → Mem → RS} {N : Nat} (h : tS w W (whGo c b N) D σ H) : tWhile (tT w W c) (tS w W b) D σ H := by
  refine ⟨fun m σ H => tS w W (whGo c b m) D σ H, ⟨N, h⟩, fun m σ H h => ?_⟩
  obtain ⟨F, G, μ, vs, M, g, s, h⟩ := h
  cases m with
  | zero => exact h.elim
  | succ m =>
    refine tT.stepS g s h fun k H1 M1 F1 g1 s1 l1 h1 => ?_
    cases k with
    | true =>
      rw [if_pos rfl] at h1 ⊢
      refine ⟨fun σ H => tS w W (whGo c b m) D σ H, fun σ' H' q => ⟨m, Nat.lt_succ_self m, q⟩, F1, G, μ, vs, M1, g1, s1, ?_⟩
      cases e : b vs M1 with
      | nx v M2 =>
        rw [e] at h1
        exact fun F' H' σ' μ' l p g' s' => ⟨F', G, μ', v, M2, g', s', OutS.le l p h1⟩
      | cnt v M2 =>
        rw [e] at h1
        exact fun F' H' σ' μ' l p g' s' => ⟨F', G, μ', v, M2, g', s', OutS.le l p h1⟩
      | brk v M2 => rw [e] at h1; exact h1
      | ret x M2 => rw [e] at h1; exact h1
      | exc cc fs v M2 => rw [e] at h1; exact h1
      | no => rw [e] at h1; exact h1
    | false =>
      rw [if_neg (by decide)] at h1 ⊢
      exact h1 F1 H1 σ μ Fle.refl List.prefix_rfl g1 s1
theorem s_for {wi : TI} {mi : Vars → Mem → R (List Pd.D × Gd)} {t : T} {mb : Vars → Mem → RS} (hi : ∀ σ H R, tI w W mi σ H R → wi σ H R) (h : tS w W (fun v M => (mi v M).thenS v fun xs M1 => forGo t xs.2 mb xs.1 v M1) D σ H) :
    tFor wi (tgT w.K t) (tS w W mb) D σ H := by
  obtain ⟨F, G, μ, vs, M, g, s, h⟩ := h
  refine hi σ H _ ⟨F, G, μ, vs, M, g, s, ?_⟩
  have h : OutS w F G μ ((mi vs M).thenS vs fun xs M1 => forGo t xs.2 mb xs.1 vs M1) D W := h
  cases e : mi vs M with
  | exc c fs M1 =>
    rw [e] at h
    exact fun F1 H1 dd l1 g1 x1 => h F1 H1 σ μ dd l1 List.prefix_rfl g1 (s.le l1) x1
  | no => rw [e] at h; exact h
  | ok p M1 =>
    rw [e] at h
    obtain ⟨xs, gd⟩ := p
    intro F1 H1 J l1 g1 iok
    have h1 : OutS w F1 G μ (forGo t gd mb xs vs M1) D W := OutS.le l1 List.prefix_rfl h
    obtain ⟨hlen, iok⟩ := iok
    refine ⟨fun i m σ H => ∃ F' G' μ' v M', Fle F1 F' ∧ μ <+: μ' ∧ GR w F' G' H μ' M' ∧ SR w F' μ' v σ ∧ i ≤ xs.length ∧ m = xs.length - i ∧ OutS w F' G' μ' (forGo t gd mb (xs.drop i) v M') D W,
      ⟨xs.length, F1, G, μ, vs, M1, Fle.refl, List.prefix_rfl, g1, s.le l1, Nat.zero_le _, rfl, h1⟩, fun i m σ H hW => ?_⟩
    obtain ⟨F', G', μ', v, M', l', p', g', s', hil, em, ho⟩ := hW
    cases hx : xs[i]? with
    | none =>
      rw [List.drop_eq_nil_of_le (List.getElem?_eq_none_iff.mp hx)] at ho
      unfold forGo at ho
      split at ho
      · rename_i hc
        exact .inl ⟨(iok i F' G' H μ' M' l' p' g' hc).2 hx, ho F' H σ μ' Fle.refl List.prefix_rfl g' s'⟩
      · exact ho.elim
    | some x =>
      have hi' : i < xs.length := (List.getElem?_eq_some_iff.mp hx).1
      have ed : xs.drop i = x :: xs.drop (i + 1) := by
        rw [List.drop_eq_getElem_cons hi']
        rw [List.getElem?_eq_getElem hi'] at hx
        cases hx
        rfl
      rw [ed] at ho
      unfold forGo at ho
      split at ho
      · rename_i hc
        obtain ⟨hgo, hyld⟩ := (iok i F' G' H μ' M' l' p' g' hc).1 x hx
        refine .inr ⟨hgo, fun σ2 H2 => ∃ F2 G2 μ2 v2 M2, Fle F1 F2 ∧ μ <+: μ2 ∧ GR w F2 G2 H2 μ2 M2 ∧ SR w F2 μ2 v2 σ2 ∧ OutS w F2 G2 μ2 (forGo t gd mb (xs.drop (i + 1)) v2 M2) D W, fun σ2 H2 hN => ?_, fun u H2 hy => ?_⟩
        · obtain ⟨F2, G2, μ2, v2, M2, a1, a2, a3, a4, a5⟩ := hN
          exact ⟨xs.length - (i + 1), by omega, F2, G2, μ2, v2, M2, a1, a2, a3, a4, hi', rfl, a5⟩
        · obtain ⟨F2, l2, g2, dx⟩ := hyld u H2 hy
          split at ho
          · exact ho.elim
          · rename_i v1 hb
            refine bind_ok g2.sub t x u v v1 _ _ (s'.le l2) dx hb fun σ2 s2 => ⟨F2, G', μ', v1, M', g2, s2, ?_⟩
            have ho := OutS.le l2 (List.prefix_rfl (l := μ')) ho
            cases eb : mb v1 M' with
            | nx v2 M2 =>
              rw [eb] at ho
              exact fun F3 H3 σ3 μ3 l3 p3 g3 s3 => ⟨F3, G', μ3, v2, M2, (l'.trans l2).trans l3, p'.trans p3, g3, s3, OutS.le l3 p3 ho⟩
            | cnt v2 M2 =>
              rw [eb] at ho
              exact fun F3 H3 σ3 μ3 l3 p3 g3 s3 => ⟨F3, G', μ3, v2, M2, (l'.trans l2).trans l3, p'.trans p3, g3, s3, OutS.le l3 p3 ho⟩
            | brk v2 M2 => rw [eb] at ho; exact ho
            | ret y M2 => rw [eb] at ho; exact ho
            | exc cc fs v2 M2 => rw [eb] at ho; exact ho
            | no => rw [eb] at ho; exact ho
      · exact ho.elim
end
end Pd

/-! PdL: several names stored at once. -/
namespace Pd
open PySem PySem.Spec L2
section
variable {w : Wr} {W : WX} {σ : L2.St} {H : Hp} {D : Ends}
theorem thenS_bind {α β : Type} {r : R α} {f : α → Mem → R β} {vs : Vars} {g : β → Mem → RS} : (r.bind f).thenS vs g = r.thenS vs fun a M => (f a M).thenS vs g := by
  cases r <;> rfl
/-- a row, item by item -/
def rowT (w : Wr) (W : WX) (C : Nat → List Vl → Mem → R Vl) : E → TA
  | .cons x r => tCons (tE w W (den C x).v) (rowT w W C r)
  | _ => tNil
theorem SR.pre {F : Hp} {μ μ' : List Addr} {vs : Vars} {σ : L2.St} (p : μ <+: μ') (s : SR w F μ vs σ) : SR w F μ' vs σ := by
  obtain ⟨t, e⟩ := p
  rw [← e]
  exact s.ext
theorem VR.pre {F : Hp} {μ μ' : List Addr} {x : Vl} {v : V} (p : μ <+: μ') (s : VR w F μ x v) : VR w F μ' x v := by
  obtain ⟨t, e⟩ := p
  rw [← e]
  exact s.ext
theorem row_p {C : Nat → List Vl → Mem → R Vl} {vs : Vars} : ∀ {es : E} {cs : List Bool} {F G : Hp} {μ : List Addr} {M : Mem} {f : List Vl → Mem → RS} {H : Hp} {P : List V → Hp → Prop},
    GR w F G H μ M → SR w F μ vs σ → OutS w F G μ (((den C es).p cs vs M).thenS vs f) D W →
    (∀ us H1 zs M1 F1 μ1, GR w F1 G H1 μ1 M1 → SR w F1 μ1 vs σ → Fle F F1 → μ <+: μ1 → VRs w F1 μ1 zs us → OutS w F1 G μ1 (f zs M1) D W → P us H1) → rowT w W C es σ H P := by
  intro es
  induction es with
  | nil =>
    intro cs F G μ M f H P g s h k
    cases cs with
    | nil => exact k [] H [] M F μ g s Fle.refl List.prefix_rfl rfl h
    | cons => exact h.elim
  | cons x r _ ih =>
    intro cs F G μ M f H P g s h k
    cases cs with
    | nil => exact h.elim
    | cons c cs =>
      have h : OutS w F G μ (((den C x).v vs M).thenS vs fun y M1 => ((if c then asCell M1 y else .ok (frz y) M1).bind fun z M2 => ((den C r).p cs vs M2).bind fun zs M3 => .ok (z :: zs) M3).thenS vs f) D W := by
        rw [← thenS_bind]
        exact h
      refine tE.stepR g s h fun v H1 y M1 F1 g1 s1 l1 r1 h1 => ?_
      rw [thenS_bind] at h1
      have fin : ∀ (z : Vl) (M2 : Mem) (F2 : Hp) (μ2 : List Addr), GR w F2 G H1 μ2 M2 → SR w F2 μ2 vs σ → Fle F F2 → μ <+: μ2 → VR w F2 μ2 z v → OutS w F2 G μ2 ((((den C r).p cs vs M2).bind fun zs M3 => .ok (z :: zs) M3).thenS vs f) D W →
          rowT w W C r σ H1 fun xs H2 => P (v :: xs) H2 := fun z M2 F2 μ2 g2 s2 l2 p2 rz h2 => by
        rw [thenS_bind] at h2
        refine ih g2 s2 h2 fun us H2 zs M3 F3 μ3 g3 s3 l3 p3 r3 h3 => ?_
        exact k (v :: us) H2 (z :: zs) M3 F3 μ3 g3 s3 (l2.trans l3) (p2.trans p3) ⟨v, us, rfl, (rz.le l3).pre p3, r3⟩ h3
      cases c with
      | true =>
        rw [if_pos rfl] at h1
        cases ec : asCell M1 y with
        | ok z M2 =>
          rw [ec] at h1
          obtain ⟨a, ev, g2, _, r2⟩ := as_cell g1 r1 ec
          exact fin z M2 F1 (μ ++ [a]) g2 s1.ext l1 (List.prefix_append _ _) r2 (OutS.le Fle.refl (List.prefix_append _ _) h1)
        | exc c' fs M2 => cases y <;> cases ec
        | no => rw [ec] at h1; exact h1.elim
      | false =>
        rw [if_neg (by decide)] at h1
        obtain ⟨F2, l2, g2, r2⟩ := g1.frz r1
        exact fin (frz y) M1 F2 μ g2 (s1.le l2) (l1.trans l2) List.prefix_rfl r2 (OutS.le l2 List.prefix_rfl h1)
  | _ => intro cs F G μ M f H P g s h k; exact h.elim
def isT : List Nat → T
  | [] => .t0
  | i :: r => .tc (.n i) (isT r)
theorem isT_len : ∀ is : List Nat, tgLen (isT is) = is.length
  | [] => rfl
  | i :: r => by simp [isT, tgLen, isT_len r]
theorem setAll_ok {K : PySem.W.Frag} {F : Hp} {μ : List Addr} {Q : L2.St → Hp → Prop} : ∀ {is : List Nat} {xs : List Vl} {us : List V} {v v1 : Vars} {σ : L2.St}, VRs w F μ xs us → SR w F μ v σ → setAll v is xs = some v1 → (∀ σ', SR w F μ v1 σ' → Q σ' H) → tgTs K (isT is) us σ H Q
  | [], [], us, v, v1, σ, r, s, e, k => by
    have r : us = [] := r
    cases e
    subst r
    exact ⟨rfl, k σ s⟩
  | i :: is, x :: xs, us, v, v1, σ, r, s, e, k => by
    obtain ⟨u, ur, eu, r1, r2⟩ := r
    subst eu
    simp only [setAll] at e
    split at e
    · exact ⟨u, ur, rfl, setAll_ok (K := K) r2 (s.set r1) e k⟩
    · cases e
  | [], _ :: _, _, _, _, _, _, _, e, _ => by cases e
  | _ :: _, [], _, _, _, _, _, _, e, _ => by cases e
theorem setAll_len : ∀ {is : List Nat} {xs : List Vl} {v v1 : Vars}, setAll v is xs = some v1 → xs.length = is.length
  | [], [], _, _, _ => rfl
  | i :: is, x :: xs, v, v1, e => by
    simp only [setAll] at e
    split at e
    · simp [setAll_len e]
    · cases e
  | [], _ :: _, _, _, e => by cases e
  | _ :: _, [], _, _, e => by cases e
theorem par_rel {C : Nat → List Vl → Mem → R Vl} {es : E} {is : List Nat} {cs : List Bool} {P : List V → Hp → Prop} (h : tS w W (fun v M => ((den C es).p cs v M).thenS v fun xs M1 => match setAll v is xs with
      | some v1 => .nx v1 M1
      | none => .no) D σ H)
    (k : ∀ us H1 F1 G1 μ1 vs M1 zs v1, GR w F1 G1 H1 μ1 M1 → SR w F1 μ1 vs σ → VRs w F1 μ1 zs us → setAll vs is zs = some v1 → OutS w F1 G1 μ1 (.nx v1 M1) D W → P us H1) : rowT w W C es σ H P := by
  obtain ⟨F, G, μ, vs, M, g, s, h⟩ := h
  refine row_p g s h fun us H1 zs M1 F1 μ1 g1 s1 l1 p1 r1 h1 => ?_
  split at h1
  · rename_i v1 e
    exact k us H1 F1 G μ1 vs M1 zs v1 g1 s1 r1 e h1
  · exact h1.elim
theorem s_parT {C : Nat → List Vl → Mem → R Vl} {es : E} {is : List Nat} {cs : List Bool} (hl : is.length ≤ 1000) (h : tS w W (fun v M => ((den C es).p cs v M).thenS v fun xs M1 => match setAll v is xs with
      | some v1 => .nx v1 M1
      | none => .no) D σ H) : tAsg (tTup (rowT w W C es)) (tgT w.K (.t (isT is))) D σ H := by
  refine par_rel h fun us H1 F1 G1 μ1 vs M1 zs v1 g1 s1 r1 e h1 => ?_
  have l1 : us.length = is.length := by rw [← r1.length, setAll_len e]
  refine ⟨by rw [l1]; exact le1000 hl, fun p hp => ?_⟩
  have g2 := g1.grow (o := .tup us) hp
  simp only [tgT]
  exact ⟨p, us, rfl, .of upd_same, by rw [isT_len, l1], setAll_ok r1 s1 e fun σ' s' => h1 F1 _ σ' μ1 Fle.refl List.prefix_rfl g2 s'⟩
theorem s_par2 {C : Nat → List Vl → Mem → R Vl} {es : E} {i j : Nat} {cs : List Bool} (h : tS w W (fun v M => ((den C es).p cs v M).thenS v fun xs M1 => match setAll v [i, j] xs with
      | some v1 => .nx v1 M1
      | none => .no) D σ H) : tPar i j (rowT w W C es) D σ H := by
  refine par_rel h fun us H1 F1 G1 μ1 vs M1 zs v1 g1 s1 r1 e h1 => ?_
  have q := setAll_ok (K := w.K) (Q := fun σ' H' => D.nx σ' H') r1 s1 e fun σ' s' => h1 F1 H1 σ' μ1 Fle.refl List.prefix_rfl g1 s'
  obtain ⟨a, ur, e1, b, ur2, e2, e3, q⟩ := q
  subst e1 e2 e3
  exact ⟨a, b, rfl, q⟩
theorem s_par3 {C : Nat → List Vl → Mem → R Vl} {es : E} {i j l : Nat} {cs : List Bool} (h : tS w W (fun v M => ((den C es).p cs v M).thenS v fun xs M1 => match setAll v [i, j, l] xs with
      | some v1 => .nx v1 M1
      | none => .no) D σ H) : tPar3 i j l (rowT w W C es) D σ H := by
  refine par_rel h fun us H1 F1 G1 μ1 vs M1 zs v1 g1 s1 r1 e h1 => ?_
  have q := setAll_ok (K := w.K) (Q := fun σ' H' => D.nx σ' H') r1 s1 e fun σ' s' => h1 F1 H1 σ' μ1 Fle.refl List.prefix_rfl g1 s'
  obtain ⟨a, ur, e1, b, ur2, e2, c, ur3, e4, e3, q⟩ := q
  subst e1 e2 e4 e3
  exact ⟨a, b, c, rfl, q⟩
end
/-! ### which stores are swapped -/
def swLine (ts : List Expr) : Nat := (ts.head?.map (·.pos.line)).getD 0
def swName (sc : Scope) (line : Nat) : Expr → Option Str
  | .Name id pos => if sc.names.lookup id == some .local && pos.line == line then some id else none
  | _ => none
def swNames (sc : Scope) (ts : List Expr) : List Str := ts.filterMap (swName sc (swLine ts))
def swB (sc : Scope) (ts vs : List Expr) : Option Bool :=
  if !(ts.length == 2 || ts.length == 3) || vs.length != ts.length then some false
  else if !vs.all notStar then some false
  else if (swNames sc ts).length != ts.length || (swNames sc ts).eraseDups.length != (swNames sc ts).length then some false
  else if vs.all (foldedForSure 8) then some false
  else if vs.all (constantsAlone 8) then none
  else some true
theorem any_star {f : Expr → Bool} (hf : ∀ e, f e = !notStar e) : ∀ vs : List Expr, vs.any f = !vs.all notStar
  | [] => rfl
  | e :: r => by
    rw [List.any_cons, List.all_cons, any_star hf r, hf e]
    cases notStar e <;> cases List.all r notStar <;> rfl
theorem fm_names {f : Expr → Option Str} {sc : Scope} {ts : List Expr} (hf : ∀ e, f e = swName sc (swLine ts) e) : ts.filterMap f = swNames sc ts := by
  unfold swNames
  congr 1
  funext e
  exact hf e
theorem sw_eq {env : Env} {ts vs : List Expr} {kt k2 : Nat} {pt p2 : Pos} {b : Bool} (hk : env.scope.kind = .function) (h : swB env.scope ts vs = some b) :
    swappedStores [.Tuple ts kt pt] (.Tuple vs k2 p2) env = pure (if b then some (swNames env.scope ts) else none) := by
  have hb : (env.blockKind != ScopeKind.function) = false := by
    unfold Env.blockKind
    rw [hk]
    rfl
  unfold swB at h
  unfold swappedStores
  simp only [hb, Bool.or_false]
  by_cases c1 : (!(ts.length == 2 || ts.length == 3) || vs.length != ts.length) = true
  · rw [if_pos c1] at h ⊢
    cases h
    rfl
  · rw [if_neg c1] at h ⊢
    rw [any_star (fun e => by cases e <;> rfl) vs, fm_names (sc := env.scope) (ts := ts) (fun e => by cases e <;> rfl)]
    by_cases c2 : (!vs.all notStar) = true
    · rw [if_pos c2] at h ⊢
      cases h
      rfl
    · rw [if_neg c2] at h ⊢
      by_cases c3 : ((swNames env.scope ts).length != ts.length || (swNames env.scope ts).eraseDups.length != (swNames env.scope ts).length) = true
      · rw [if_pos c3] at h ⊢
        cases h
        rfl
      · rw [if_neg c3] at h ⊢
        by_cases c4 : vs.all (foldedForSure 8) = true
        · rw [if_pos c4] at h ⊢
          cases h
          rfl
        · rw [if_neg c4] at h ⊢
          by_cases c5 : vs.all (constantsAlone 8) = true
          · rw [if_pos c5] at h
            cases h
          · rw [if_neg c5] at h ⊢
            cases h
            rfl
end Pd

/-! PdM: the check of statements, its soundness. -/
namespace Pd
open PySem PySem.Spec L2

structure CkS where
  s : CE → Stmt → Bool
  ss : CE → List Stmt → Bool
def notComp : Expr → Bool
  | .ListComp _ _ _ _ | .SetComp _ _ _ _ | .DictComp _ _ _ _ _ => false
  | _ => true
def isLC : Expr → Bool
  | .ListComp _ _ _ _ => true
  | _ => false
def notTup : Expr → Bool
  | .Tuple _ _ _ => false
  | _ => true
def nameTg (ce : CE) (i : Nat) (x : Str) : Bool := decide (ce.N[i]? = some x) && locB ce x
def rowOk (ce : CE) : E → List Expr → Bool
  | .nil, [] => true
  | .cons x r, e :: es => notStar e && ((ck x).v ce e && rowOk ce r es)
  | _, _ => false
def localB (sc : Scope) (x : Str) : Bool := match sc.names.lookup x with
  | some .local => true
  | _ => false
def parOk (ce : CE) (is : List Nat) (ts vs : List Expr) : Bool := match swB ce.sc ts vs with
  | none => false
  | some false => tgOk.tgsOk ce (isT is) ts && decide (is.length ≤ 1000)
  | some true => match is, ts with
    | [i, j], [.Name x _, .Name y _] => decide (ce.N[i]? = some x) && (decide (ce.N[j]? = some y) && (decide (i ≠ j) && (localB ce.sc x && (localB ce.sc y && decide (swNames ce.sc ts = [x, y])))))
    | [i, j, l], [.Name x _, .Name y _, .Name z _] => decide (ce.N[i]? = some x) && (decide (ce.N[j]? = some y) && (decide (ce.N[l]? = some z) && (decide (i ≠ j) && (decide (i ≠ l) && (decide (j ≠ l) &&
        (localB ce.sc x && (localB ce.sc y && (localB ce.sc z && decide (swNames ce.sc ts = [x, y, z])))))))))
    | _, _ => false
def CkS.of (s : CE → Stmt → Bool) : CkS := ⟨s, fun _ _ => false⟩
def setNm (i : Nat) (e : E) (ce : CE) : Stmt → Bool
  | .Assign [.Name x _] v _ => nameTg ce i x && ((notComp v || isLC v) && (ck e).v ce v)
  | _ => false
def addsub : Op2 → Bool
  | .add | .sub => true
  | _ => false
def ckS : S → CkS
  | .skip => ⟨fun _ st => match st with
      | .Pass _ => true
      | _ => false, fun _ ss => match ss with
      | [] => true
      | _ => false⟩
  | .seq a b => ⟨fun _ _ => false, fun ce ss => match ss with
      | st :: rest => (ckS a).s ce st && (ckS b).ss ce rest
      | _ => false⟩
  | .set (.n i) e => .of (setNm i e)
  | .set t e => .of fun ce st => match st with
      | .Assign [.Tuple ts k p] v _ => notTup v && (tgOk ce t (.Tuple ts k p) && (ck e).v ce v)
      | _ => false
  | .cell i e => .of (setNm i e)
  | .par is _ es => .of fun ce st => match st with
      | .Assign [.Tuple ts _ _] (.Tuple vs _ _) _ => parOk ce is ts vs && rowOk ce es vs
      | _ => false
  | .setix o i e => .of fun ce st => match st with
      | .Assign [.Subscript a b _] v _ => notSlice b && ((ck o).v ce a && ((ck i).v ce b && (ck e).v ce v))
      | _ => false
  | .aug i o e => .of fun ce st => match st with
      | .AugAssign (.Name x _) op v _ => bOk o op && (addsub o && (nameTg ce i x && (ck e).v ce v))
      | _ => false
  | .ex e => .of fun ce st => match st with
      | .Expr v _ => notComp v && (ck e).v ce v
      | _ => false
  | .ret e => .of fun ce st => match st with
      | .Return (some v) _ => (ck e).v ce v
      | _ => false
  | .retn => .of fun ce st => match st with
      | .Return none _ => true
      | _ => false
  | .ite c a b => .of fun ce st => match st with
      | .If x p q _ => (ck c).t ce x && ((ckS a).ss ce p && (ckS b).ss ce q)
      | _ => false
  | .for t it b => .of fun ce st => match st with
      | .For tg iter p [] _ => notSet iter && ((ck it).i ce tg iter && (tgOk ce t tg && (ckS b).ss ce p))
      | _ => false
  | .whil c b => .of fun ce st => match st with
      | .While x p [] _ => (ck c).t ce x && (ckS b).ss ce p
      | _ => false
  | .raise _ _ => .of fun _ _ => false
  | .brk => .of fun _ st => match st with
      | .Break _ => true
      | _ => false
  | .cnt => .of fun _ st => match st with
      | .Continue _ => true
      | _ => false
  | .nev => ⟨fun _ _ => true, fun _ _ => true⟩

section
variable {w : Wr} {P : Pg} {n : Nat}
structure Sok (w : Wr) (P : Pg) (n : Nat) (ce : CE) (W : WX) (X : Cx) : Prop where
  ok : Cok w P n ce W X
  pas : PassesOwn (model X.prog X.w) X.A X.env X.xe
  kind : ce.sc.kind = .function
structure SndS (w : Wr) (P : Pg) (n : Nat) (k : CkS) (m : Vars → Mem → RS) : Prop where
  s : ∀ ce W X st, Sok w P n ce W X → k.s ce st = true → PS X st (tS w W m)
  ss : ∀ ce W X st, Sok w P n ce W X → k.ss ce st = true → PSs X st (tS w W m)
theorem SndS.of {k : CE → Stmt → Bool} {m : Vars → Mem → RS} (h : ∀ ce W X st, Sok w P n ce W X → k ce st = true → PS X st (tS w W m)) : SndS w P n (CkS.of k) m := ⟨h, fun _ _ _ _ _ h => by cases h⟩
/-- the parts of a comprehension -/
theorem lc_parts {ce : CE} {W : WX} {X : Cx} {own : List Nat} {t : T} {it c elt : E} {e : Expr} (ok : Cok w P n ce W X) (h : (ck (.lc own t it c elt)).v ce e = true) :
    ∃ x tg iter ifs scope pos wi tt ow te, e = .ListComp x [⟨tg, iter, ifs, 0⟩] scope pos ∧ PI X tg iter wi ∧ BlkOk X.N X.env.scope scope ow ∧
      (∀ (s : Shared) (H : Hp) (C : Addr) (cl : List (Str × Addr)) (fp : List Addr), PG (X.blk s H scope (compEnvC scope cl C X.env) fp) tg (tgT X.K t)) ∧
      (∀ (s : Shared) (H : Hp) (C : Addr) (cl : List (Str × Addr)) (fp : List Addr), PTs (X.blk s H scope (compEnvC scope cl C X.env) fp) ifs tt) ∧
      (∀ (s : Shared) (H : Hp) (C : Addr) (cl : List (Str × Addr)) (fp : List Addr), PE (X.blk s H scope (compEnvC scope cl C X.env) fp) x te) ∧ notSet iter = true ∧
      ∀ σ H Q, tE w W (den (evF P n) (.lc own t it c elt)).v σ H Q → tLc wi (tgT X.K t) tt te (ow.map (·.2)) σ H Q := by
  simp only [ck, Ck.ofV] at h
  split at h
  · rename_i x tg iter ifs scope pos
    obtain ⟨h1, h⟩ := and2 h
    obtain ⟨h2, h⟩ := and2 h
    obtain ⟨h3, h⟩ := and2 h
    obtain ⟨h4, h⟩ := and2 h
    obtain ⟨h5, h⟩ := and2 h
    obtain ⟨h6, h7⟩ := and2 h
    have bo := blkOk_by h2
    obtain ⟨wi, pi, ri⟩ := (ck_ok w P n it).i _ _ _ _ _ ok h5
    have key : ∃ tt, (∀ (s : Shared) (H : Hp) (C : Addr) (cl : List (Str × Addr)) (fp : List Addr), PTs (X.blk s H scope (compEnvC scope cl C X.env) fp) ifs tt) ∧
        ∀ σ H Q, tT w W0 (if isTrueE c then fun _ M => .ok true M else (den (evF P n) c).t) σ H Q → tt σ H Q := by
      cases ifs with
      | nil =>
        have h7 : isTrueE c = true := h7
        refine ⟨_, fun s H C cl fp => pts_nil, fun σ H Q q => ?_⟩
        rw [if_pos h7] at q
        exact imp_yes q
      | cons y r =>
        cases r with
        | nil =>
          obtain ⟨k1, k2⟩ := and2 (show (!isTrueE c && (ck c).t (ce.blk scope) y) = true from h7)
          refine ⟨_, fun s H C cl fp => pts_one ((ck_ok w P n c).t _ _ _ _ (ok.blk bo.uniq s H C cl fp) k2), fun σ H Q q => ?_⟩
          have k1 : ¬ isTrueE c = true := by simpa using k1
          rw [if_neg k1] at q
          exact q
        | cons => cases h7
    obtain ⟨tt, pt, rt⟩ := key
    refine ⟨x, tg, iter, ifs, scope, pos, wi, tt, ownOf ce.N own, tE w W0 (den (evF P n) elt).v, rfl, pi, by rw [ok.hN, ok.sc]; exact bo, fun s H C cl fp => tg_pg (ok.blk bo.uniq s H C cl fp) h4, pt, fun s H C cl fp => (ck_ok w P n elt).v _ _ _ _ (ok.blk bo.uniq s H C cl fp) h6, h1, fun σ H Q q => ?_⟩
    rw [own_snd, ok.hK]
    exact imp_lc ri rt (slots_of h3) q
  · cases h
theorem is_lc {e : E} {ce : CE} {v : Expr} (hv : isLC v = true) (h : (ck e).v ce v = true) : ∃ own t it c elt, e = .lc own t it c elt := by
  cases v with
  | ListComp x gs sc p =>
    cases e <;> first
      | exact ⟨_, _, _, _, _, rfl⟩
      | (cases h; done)
      | skip
    · rename_i d
      cases d <;> cases h
  | _ => cases hv
theorem swaps_no {v : Expr} {t : Option Expr} {l : Nat} {env : Env} (h : notComp v = true) : swapsWith v t l env = pure false := by
  cases v <;> first
    | rfl
    | cases h
/-- a comprehension that is stored by name -/
def lcSwap (env : Env) (t : Str) (pos : Pos) (v : Expr) (scope : Scope) : Bool := env.blockKind == .function && env.kindOf t == some .local && pos.line == v.pos.line
      && !(scope.names.any fun (n, k) => n == t && (k == .local || k == .cell))
theorem setNm_ok {i : Nat} {e : E} {ce : CE} {W : WX} {X : Cx} {st : Stmt} (ok : Sok w P n ce W X) (h : setNm i e ce st = true) : ∃ ts : TS, PS X st ts ∧ ∀ D σ H, tAsg (tE w W (den (evF P n) e).v) (gName i) D σ H → ts D σ H := by
  unfold setNm at h
  split at h
  · rename_i x px v pos
    obtain ⟨h1, h⟩ := and2 h
    obtain ⟨h2, h3⟩ := and2 h
    obtain ⟨k1, k2⟩ := and2 h1
    have k1 : X.N[i]? = some x := by
      rw [ok.ok.hN]
      exact of_decide_eq_true k1
    obtain ⟨l, f⟩ := loc_of ok.ok k2
    have nd : X.N.Nodup := by
      rw [ok.ok.hN]
      exact ok.ok.nd
    have pe := (ck_ok w P n e).v _ _ _ _ ok.ok h3
    by_cases hc : notComp v = true
    · exact ⟨_, ps_set nd k1 l pe (swaps_no hc) f, fun D σ H q => q⟩
    · have hl : isLC v = true := by
        rw [Bool.or_eq_true] at h2
        rcases h2 with z | z
        · exact absurd z hc
        · exact z
      obtain ⟨own, t, it, c, elt, ee⟩ := is_lc hl h3
      subst ee
      obtain ⟨xx, tg, iter, ifs, scope, p2, wi, tt, ow, te, ev, pi, bo, pg, pt, pel, ns, red⟩ := lc_parts ok.ok h3
      subst ev
      have sw : swapsWith (.ListComp xx [⟨tg, iter, ifs, 0⟩] scope p2) (some (.Name x px)) pos.line X.env = pure (lcSwap X.env x px (.ListComp xx [⟨tg, iter, ifs, 0⟩] scope p2) scope) := rfl
      cases hb : lcSwap X.env x px (.ListComp xx [⟨tg, iter, ifs, 0⟩] scope p2) scope with
      | false =>
        rw [hb] at sw
        exact ⟨_, ps_set nd k1 l pe sw f, fun D σ H q => q⟩
      | true =>
        rw [hb] at sw
        have hy : X.env.scope.names.lookup x = some .local := by
          unfold lcSwap at hb
          simp only [Bool.and_eq_true, beq_iff_eq] at hb
          exact hb.1.1.2
        exact ⟨_, ps_setLc ok.ok.calm nd k1 hy sw pi bo pg pt pel (not_set ns), fun D σ H q => red σ H _ q⟩
  · cases h
theorem row_pa {ce : CE} {W : WX} {X : Cx} (ok : Cok w P n ce W X) : ∀ {es : E} {l : List Expr}, rowOk ce es l = true → PA X l (rowT w W (evF P n) es)
  | .nil, [], _ => pa_nil
  | .cons x r, e :: es, h => by
    obtain ⟨h1, h⟩ := and2 (show (notStar e && ((ck x).v ce e && rowOk ce r es)) = true from h)
    obtain ⟨h2, h3⟩ := and2 h
    exact pa_cons ((ck_ok w P n x).v _ _ _ _ ok h2) (row_pa ok h3) (star_cons h1)
  | .nil, _ :: _, h => by cases h
  | .cons _ _, [], h => by cases h
theorem local_of {sc : Scope} {x : Str} (h : localB sc x = true) : sc.names.lookup x = some .local := by
  unfold localB at h
  split at h
  · assumption
  · cases h
end
end Pd

/-! PdN: the check of statements is sound. -/
namespace Pd
open PySem PySem.Spec L2
section
variable {w : Wr} {P : Pg} {n : Nat}
abbrev Zm (P : Pg) (n : Nat) : Sm := ⟨evF P n, P.W, P.X⟩
theorem ipOf_ok {X : Cx} {o : Op2} {op : Operator} (h : bOk o op = true) (ha : addsub o = true) : PIp X op (ipOf o) ∧ (o = .add ∨ o = .sub) := by
  cases o <;> first
    | (cases ha; done)
    | skip
  · cases op <;> first
      | (cases h; done)
      | exact ⟨ip_add, .inl rfl⟩
  · cases op <;> first
      | (cases h; done)
      | exact ⟨ip_sub, .inr rfl⟩
theorem swT_no {v : Expr} {ts : List Expr} {k : Nat} {p : Pos} {l : Nat} {env : Env} : swapsWithSole [.Tuple ts k p] v l env = pure false := by
  cases v <;> rfl
theorem swS_no {v a b : Expr} {p : Pos} {l : Nat} {env : Env} : swapsWithSole [.Subscript a b p] v l env = pure false := by
  cases v <;> rfl
theorem swT_none {v : Expr} {ts : List Expr} {k : Nat} {p : Pos} {env : Env} (h : notTup v = true) : swappedStores [.Tuple ts k p] v env = pure none := by
  cases v <;> first
    | rfl
    | cases h
theorem swS_none {v a b : Expr} {p : Pos} {env : Env} : swappedStores [.Subscript a b p] v env = pure none := by
  cases v <;> rfl
theorem snd_setNm {i : Nat} {e : E} {s : S} (hs : ckS s = .of (setNm i e)) (red : ∀ W D σ H, tS w W (evS (Zm P n) s) D σ H → tAsg (tE w W (den (evF P n) e).v) (gName i) D σ H) : SndS w P n (ckS s) (evS (Zm P n) s) := by
  rw [hs]
  refine SndS.of fun ce W X st ok h => ?_
  obtain ⟨ts, p, r⟩ := setNm_ok ok h
  exact PS.imp p fun D σ H q => r D σ H (red W D σ H q)
theorem snd_par {is : List Nat} {cs : List Bool} {es : E} : SndS w P n (ckS (.par is cs es)) (evS (Zm P n) (.par is cs es)) := SndS.of fun ce W X st ok h => by
  split at h
  · rename_i ts kt pt vs k2 p2 pos
    obtain ⟨h1, h2⟩ := and2 h
    have pr := row_pa ok.ok h2
    have hk : X.env.scope.kind = .function := by
      rw [ok.ok.sc]
      exact ok.kind
    have nd : X.N.Nodup := by
      rw [ok.ok.hN]
      exact ok.ok.nd
    unfold parOk at h1
    split at h1
    · cases h1
    · rename_i hsw
      obtain ⟨k1, k2'⟩ := and2 h1
      have sw := sw_eq (env := X.env) (ts := ts) (vs := vs) (kt := kt) (k2 := k2) (pt := pt) (p2 := p2) hk (by rw [ok.ok.sc]; exact hsw)
      have tg : tgOk ce (.t (isT is)) (.Tuple ts kt pt) = true := k1
      refine PS.imp (ps_asg (pe_tup pr) (tg_pg ok.ok tg) swT_no sw) fun D σ H q => ?_
      rw [ok.ok.hK]
      exact s_parT (of_decide_eq_true k2') q
    · rename_i hsw
      have sw := sw_eq (env := X.env) (ts := ts) (vs := vs) (kt := kt) (k2 := k2) (pt := pt) (p2 := p2) hk (by rw [ok.ok.sc]; exact hsw)
      rw [if_pos rfl, ok.ok.sc] at sw
      have lk : ∀ {x : Str}, localB ce.sc x = true → X.env.scope.names.lookup x = some .local := fun h => by
        rw [ok.ok.sc]
        exact local_of h
      have nx : ∀ {i : Nat} {x : Str}, decide (ce.N[i]? = some x) = true → X.N[i]? = some x := fun h => by
        rw [ok.ok.hN]
        exact of_decide_eq_true h
      split at h1
      · obtain ⟨a1, h1⟩ := and2 h1
        obtain ⟨a2, h1⟩ := and2 h1
        obtain ⟨a3, h1⟩ := and2 h1
        obtain ⟨a4, h1⟩ := and2 h1
        obtain ⟨a5, a6⟩ := and2 h1
        rw [of_decide_eq_true a6] at sw
        have hv : vs.length = 2 := by
          unfold swB at hsw
          split at hsw
          · cases hsw
          · rename_i c
            simp at c
            omega
        match vs, hv with
        | [va, vb], _ => exact PS.imp (ps_par ok.ok.calm nd (nx a1) (nx a2) (of_decide_eq_true a3) (lk a4) (lk a5) pr sw swT_no) fun D σ H q => s_par2 q
      · obtain ⟨a1, h1⟩ := and2 h1
        obtain ⟨a2, h1⟩ := and2 h1
        obtain ⟨a3, h1⟩ := and2 h1
        obtain ⟨a4, h1⟩ := and2 h1
        obtain ⟨a5, h1⟩ := and2 h1
        obtain ⟨a6, h1⟩ := and2 h1
        obtain ⟨a7, h1⟩ := and2 h1
        obtain ⟨a8, h1⟩ := and2 h1
        obtain ⟨a9, b1⟩ := and2 h1
        rw [of_decide_eq_true b1] at sw
        have hv : vs.length = 3 := by
          unfold swB at hsw
          split at hsw
          · cases hsw
          · rename_i c
            simp at c
            omega
        match vs, hv with
        | [va, vb, vc], _ => exact PS.imp (ps_par3 ok.ok.calm nd (nx a1) (nx a2) (nx a3) (of_decide_eq_true a4) (of_decide_eq_true a5) (of_decide_eq_true a6) (lk a7) (lk a8) (lk a9) pr sw swT_no) fun D σ H q => s_par3 q
      · cases h1
  · cases h
theorem ckS_ok (w : Wr) (P : Pg) (n : Nat) : ∀ s : S, SndS w P n (ckS s) (evS (Zm P n) s) := by
  intro s
  induction s with
  | skip =>
    constructor
    · intro ce W X st ok h
      simp only [ckS] at h
      split at h
      · exact PS.imp ps_pass fun D σ H q => s_skip q
      · cases h
    · intro ce W X st ok h
      simp only [ckS] at h
      split at h
      · exact PSs.imp pss_nil fun D σ H q => s_skip q
      · cases h
  | seq a b ha hb =>
    constructor
    · intro ce W X st ok h
      cases h
    · intro ce W X st ok h
      simp only [ckS] at h
      split at h
      · obtain ⟨h1, h2⟩ := and2 h
        exact PSs.imp (pss_cons (ha.s _ _ _ _ ok h1) (hb.ss _ _ _ _ ok h2)) fun D σ H q => s_seq q
      · cases h
  | set t e =>
    cases t with
    | n i => exact snd_setNm (i := i) (e := e) rfl fun W D σ H q => s_setN q
    | t r =>
      refine SndS.of fun ce W X st ok h => ?_
      split at h
      · obtain ⟨h1, h⟩ := and2 h
        obtain ⟨h2, h3⟩ := and2 h
        refine PS.imp (ps_asg ((ck_ok w P n e).v _ _ _ _ ok.ok h3) (tg_pg ok.ok h2) swT_no (swT_none h1)) fun D σ H q => ?_
        rw [ok.ok.hK]
        exact s_setT q
      · cases h
    | t0 =>
      refine SndS.of fun ce W X st ok h => ?_
      split at h
      · obtain ⟨h1, h⟩ := and2 h
        obtain ⟨h2, h3⟩ := and2 h
        cases h2
      · cases h
    | tc a r =>
      refine SndS.of fun ce W X st ok h => ?_
      split at h
      · obtain ⟨h1, h⟩ := and2 h
        obtain ⟨h2, h3⟩ := and2 h
        cases h2
      · cases h
  | cell i e => exact snd_setNm (i := i) (e := e) rfl fun W D σ H q => s_cell q
  | par is cs es => exact snd_par
  | setix o i e =>
    refine SndS.of fun ce W X st ok h => ?_
    split at h
    · rename_i a b p v pos
      obtain ⟨h1, h⟩ := and2 h
      obtain ⟨h2, h⟩ := and2 h
      obtain ⟨h3, h4⟩ := and2 h
      have pg : PG X (.Subscript a b p) (gSub (tE w W (den (evF P n) o).v) (tE w W (den (evF P n) i).v) rSetL) :=
        pg_sub ((ck_ok w P n o).v _ _ _ _ ok.ok h2) ((ck_ok w P n i).v _ _ _ _ ok.ok h3) set_list (by
          intro v
          cases b <;> first
            | rfl
            | cases h1)
      exact PS.imp (ps_asg ((ck_ok w P n e).v _ _ _ _ ok.ok h4) pg swS_no swS_none) fun D σ H q => s_setix q
    · cases h
  | aug i o e =>
    refine SndS.of fun ce W X st ok h => ?_
    split at h
    · obtain ⟨h1, h⟩ := and2 h
      obtain ⟨h2, h⟩ := and2 h
      obtain ⟨h3, h4⟩ := and2 h
      obtain ⟨k1, k2⟩ := and2 h3
      obtain ⟨l, f⟩ := loc_of ok.ok k2
      obtain ⟨ip, oo⟩ := ipOf_ok (X := X) h1 h2
      exact PS.imp (ps_aug (by rw [ok.ok.hN]; exact ok.ok.nd) (by rw [ok.ok.hN]; exact of_decide_eq_true k1) l ((ck_ok w P n e).v _ _ _ _ ok.ok h4) ip f) fun D σ H q => s_aug oo q
    · cases h
  | ex e =>
    refine SndS.of fun ce W X st ok h => ?_
    split at h
    · obtain ⟨h1, h2⟩ := and2 h
      exact PS.imp (ps_expr ((ck_ok w P n e).v _ _ _ _ ok.ok h2) (swaps_no h1)) fun D σ H q => s_ex q
    · cases h
  | ret e =>
    refine SndS.of fun ce W X st ok h => ?_
    split at h
    · exact PS.imp (ps_ret ((ck_ok w P n e).v _ _ _ _ ok.ok h)) fun D σ H q => s_ret q
    · cases h
  | retn =>
    refine SndS.of fun ce W X st ok h => ?_
    split at h
    · exact PS.imp ps_retN fun D σ H q => s_retn q
    · cases h
  | ite c a b ha hb =>
    refine SndS.of fun ce W X st ok h => ?_
    split at h
    · obtain ⟨h1, h⟩ := and2 h
      obtain ⟨h2, h3⟩ := and2 h
      exact PS.imp (ps_if ((ck_ok w P n c).t _ _ _ _ ok.ok h1) (ha.ss _ _ _ _ ok h2) (hb.ss _ _ _ _ ok h3)) fun D σ H q => s_ite q
    · cases h
  | «for» t it b hb =>
    refine SndS.of fun ce W X st ok h => ?_
    split at h
    · obtain ⟨h1, h⟩ := and2 h
      obtain ⟨h2, h⟩ := and2 h
      obtain ⟨h3, h4⟩ := and2 h
      obtain ⟨wi, pi, ri⟩ := (ck_ok w P n it).i _ _ _ _ _ ok.ok h2
      refine PS.imp (ps_for ok.pas ok.ok.calm pi (tg_pg ok.ok h3) (hb.ss _ _ _ _ ok h4) (not_set h1)) fun D σ H q => ?_
      rw [ok.ok.hK]
      exact s_for ri q
    · cases h
  | whil c b hb =>
    refine SndS.of fun ce W X st ok h => ?_
    split at h
    · obtain ⟨h1, h2⟩ := and2 h
      exact PS.imp (ps_while ok.pas ((ck_ok w P n c).t _ _ _ _ ok.ok h1) (hb.ss _ _ _ _ ok h2)) fun D σ H q => s_while q
    · cases h
  | raise c as => exact SndS.of fun ce W X st ok h => by cases h
  | brk =>
    refine SndS.of fun ce W X st ok h => ?_
    split at h
    · exact PS.imp ps_break fun D σ H q => s_brk q
    · cases h
  | cnt =>
    refine SndS.of fun ce W X st ok h => ?_
    split at h
    · exact PS.imp ps_continue fun D σ H q => s_cnt q
    · cases h
  | nev => exact ⟨fun ce W X st ok h => PS.imp ps_never fun D σ H q => s_nev q, fun ce W X st ok h => PSs.imp pss_never fun D σ H q => s_nev q⟩
end
end Pd

/-! PdO: defs keep what the evaluator promises. -/
namespace Pd
open PySem PySem.Spec L2
section
variable {w : Wr} {P : Pg} {prog : Program} {wd : World} {mg : Str → Option Value} {base : Heap}
/-- a def of the text and its written form -/
structure DefOk (w : Wr) (P : Pg) (mg : Str → Option Value) (fes : List FE) (glo : List (Str × Pd.D)) (free : List Str) (i : Nat) (fe : FE) : Prop where
  ok : ∃ (fn : Fn) (f : Addr) (fd : FuncData) (ps N : List Str) (x qual : Str) (params : Arguments) (body : List Stmt) (scope : Scope) (dvs : List V) (kws : List (Str × V)),
    P.fns[i]? = some fn ∧ fn.np = fe.np ∧ fn.dfl = fe.dfl ∧ mg fe.name = some (.ref f) ∧ FunD w.K x qual params body scope dvs kws f fd ∧ FnScope N ps scope ∧ ps.length = fn.np ∧ N.length = fn.ns ∧ (ckS fn.body).ss ⟨N, scope, N, fes, glo, free⟩ body = true ∧
    ∀ m, m ≤ fe.np → fe.np ≤ m + fe.dfl.length → ∃ ds dvs, Vals dvs ds ∧ Binds w.K fd ps ds ∧ ∀ (F : Hp) (μ : List Addr), VRs w F μ ((fe.dfl.drop (m + fe.dfl.length - fe.np)).map .d) dvs
theorem take_pre {μ μ' : List Addr} (p : μ <+: μ') {b : Nat} (h : μ.length = b) : μ'.take b = μ := by
  obtain ⟨t, e⟩ := p
  rw [← e, ← h, List.take_left']
  rfl
theorem sr_start {F : Hp} {μ : List Addr} : ∀ {args : List Vl} {vs : List V} (k : Nat), VRs w F μ args vs → SR w F μ (args.map some ++ List.replicate k none) (vs.map some ++ List.replicate k none)
  | [], vs, k, r => by
    have r : vs = [] := r
    subst r
    refine ⟨by simp, fun i x e => ?_⟩
    rw [List.map_nil, List.nil_append, List.getElem?_replicate] at e
    split at e <;> cases e
  | x :: xs, vs, k, r => by
    obtain ⟨v, ur, e, r1, r2⟩ := r
    subst e
    have s := sr_start k r2
    refine ⟨by simpa using s.len, fun i y e => ?_⟩
    cases i with
    | zero =>
      cases e
      exact ⟨v, rfl, r1⟩
    | succ i => exact s.at_ i y e
theorem fin_ok {F G : Hp} {μ : List Addr} {M : Mem} {r : RS} {Q : VK} {E : XK} (hl : μ.length = M.length) (h : Out w F G μ [] (relV w G μ) (finish M.length r) Q (fun c d _ H => E c d H)) :
    OutS w F G μ r { nx := fun _ H' => Q .non H', rt := Q } (fun c d _ H => E c d H) := by
  have dr : ∀ {F' H : Hp} {μ' : List Addr} {M1 : Mem}, μ <+: μ' → GR w F' G H μ' M1 → GR w F' G H μ (M1.take M.length) := fun {F' H μ' M1} p g => by
    have z := g.drop M.length
    rw [take_pre p hl] at z
    exact z
  cases r with
  | nx v M1 =>
    intro F' H σ' μ' l p g s
    refine h F' H .non l (dr p g) ?_
    show DR w F' .non .non
    simp only [DR]
  | brk v M1 => exact h.elim
  | cnt v M1 => exact h.elim
  | no => exact h.elim
  | exc c fs v M1 => exact fun F' H σ' μ' dd l p g s x => h F' H dd l (dr p g) x
  | ret x M1 =>
    intro F' H v μ' l p g rr
    cases x with
    | d x => exact h F' H v l (dr p g) rr
    | new x =>
      obtain ⟨a, o, ev, f, k, m, ho, q⟩ := rr
      refine h F' H v l (dr p g) ⟨a, o, ev, f, k, fun z => m ?_, ho, q⟩
      obtain ⟨t, e⟩ := p
      rw [← e]
      exact List.mem_append_left _ z
    | loc i =>
      obtain ⟨a, ea, ev⟩ := rr
      by_cases hi : i < M.length
      · simp only [finish, if_pos hi] at h
        refine h F' H v l (dr p g) ⟨a, ?_, ev⟩
        rw [← take_pre p hl, List.getElem?_take_of_lt hi]
        exact ea
      · simp only [finish, if_neg hi] at h
        cases ec : M1[i]? with
        | none => rw [ec] at h; exact h.elim
        | some c =>
          rw [ec] at h
          obtain ⟨b, e1, q1, q2⟩ := g.cell i c ec
          rw [ea] at e1
          cases e1
          refine h F' H v l (dr p g) ?_
          subst ev
          cases hc : c.live with
          | true =>
            obtain ⟨f, k, o, ho, q⟩ := q1 hc
            rw [if_pos rfl]
            refine ⟨a, o, rfl, f, k, fun z => ?_, ho, q⟩
            obtain ⟨j, hj, ej⟩ := List.getElem_of_mem z
            have e3 : μ'[j]? = some a := pre_get p (by rw [List.getElem?_eq_getElem hj, ej])
            have e4 := nodup_ix g.nd e3 ea
            rw [hl] at hj
            omega
          | false =>
            rw [if_neg (by decide)]
            exact (q2 hc).2
/-- what level n says of all defs -/
def Lev (w : Wr) (P : Pg) (prog : Program) (wd : World) (mg : Str → Option Value) (base : Heap) (fes : List FE) (n : Nat) : Prop := ∀ (i : Nat) (fe : FE), fes[i]? = some fe →
      ∃ fn, P.fns[i]? = some fn ∧ fn.np = fe.np ∧ fn.dfl = fe.dfl ∧ ∃ (f : Addr) (fd : FuncData) (ps : List Str), mg fe.name = some (.ref f) ∧ PySem.W.keepIn w.K (.ref f) = true ∧ FnOk prog wd w.K mg base (L2.CX prog wd) n f fd ps (spC w fe.np fun a M => evF P n i a M) ∧
    ∀ m, m ≤ fe.np → fe.np ≤ m + fe.dfl.length → ∃ ds dvs, Vals dvs ds ∧ Binds w.K fd ps ds ∧ ∀ (F : Hp) (μ : List Addr), VRs w F μ ((fe.dfl.drop (m + fe.dfl.length - fe.np)).map .d) dvs
theorem fn_step {fes : List FE} {glo : List (Str × Pd.D)} {free : List Str} {n i np : Nat} {fn : Fn} {f : Addr} {fd : FuncData} {ps N : List Str} {x qual : Str} {params : Arguments} {body : List Stmt} {scope : Scope} {dvs : List V} {kws : List (Str × V)}
    (hfree : ∀ x ∈ free, mg x = none) (hglo : ∀ p ∈ glo, ∃ v u, mg p.1 = some u ∧ RelV v u ∧ ∀ F : Hp, DR w F p.2 v) (ih : Lev w P prog wd mg base fes n)
    (h1 : P.fns[i]? = some fn) (h2 : fn.np = np) (F : FunD w.K x qual params body scope dvs kws f fd) (S : FnScope N ps scope) (h5 : ps.length = fn.np) (h6 : N.length = fn.ns) (h7 : (ckS fn.body).ss ⟨N, scope, N, fes, glo, free⟩ body = true) :
    FnOk prog wd w.K mg base (L2.CX prog wd) (n + 1) f fd ps (spC w np fun a M => evF P (n + 1) i a M) := by
  refine F.ok S (fun vs H Q E q => by rw [h5, h2]; exact q.1) fun cdv A outer s H vs Q E hr q => ?_
  have ck : Cok w P n ⟨N, scope, N, fes, glo, free⟩ (fun c d _ H => E c d H) (cxOf (L2.CX prog wd) prog wd w.K mg base N qual scope f cdv A outer s H E) := by
    refine ⟨rfl, rfl, S.nd, rfl, fun _ _ => rfl, rfl, hr, takes_of rfl rfl rfl rfl, hfree, hglo, fun j fj hj => ?_⟩
    obtain ⟨fn', e1, e2, e3, f', fd', ps', e4, e5, e6, e7⟩ := ih j fj hj
    exact ⟨⟨fn', e1, e2, e3⟩, f', fd', ps', e4, e5, e6, e7⟩
  have sok : Sok w P n ⟨N, scope, N, fes, glo, free⟩ (fun c d _ H => E c d H) (cxOf (L2.CX prog wd) prog wd w.K mg base N qual scope f cdv A outer s H E) := ⟨ck, passes_of rfl, S.kind⟩
  refine ⟨_, (ckS_ok w P n fn.body).ss _ _ _ _ sok h7, ?_⟩
  obtain ⟨lv, F0, G, μ, M, args, g, r, o⟩ := q
  have la : args.length = fn.np := by rw [r.length, lv, h2]
  refine ⟨F0, G, μ, startV fn args, M, g, ?_, ?_⟩
  · have e1 : startV fn args = args.map some ++ List.replicate (fn.ns - fn.np) none := by
      unfold startV
      rw [la, show fn.np + fn.dfl.length - fn.np = fn.dfl.length by omega, List.drop_length, List.map_nil, List.append_nil]
    rw [e1]
    unfold L2.start
    rw [h6, lv, ← h2]
    exact sr_start _ r
  · refine fin_ok g.len ?_
    have fits : fn.fits args = true := by
      unfold Fn.fits
      rw [la, Bool.and_eq_true]
      exact ⟨decide_eq_true (Nat.le_refl _), decide_eq_true (Nat.le_add_right _ _)⟩
    simp only [evF, h1, fits, if_true] at o
    exact o
theorem level_ok {fes : List FE} {glo : List (Str × Pd.D)} {free : List Str} (hfree : ∀ x ∈ free, mg x = none) (hglo : ∀ p ∈ glo, ∃ v u, mg p.1 = some u ∧ RelV v u ∧ ∀ F : Hp, DR w F p.2 v)
    (hd : ∀ i fe, fes[i]? = some fe → DefOk w P mg fes glo free i fe) : ∀ n : Nat, Lev w P prog wd mg base fes n := by
  intro n
  induction n with
  | zero =>
    intro i fe h
    obtain ⟨fn, f, fd, ps, N, x, qual, params, body, scope, dvs, kws, h1, h2, h3, h4, F, S, h5, h6, h7, bd⟩ := (hd i fe h).ok
    refine ⟨fn, h1, h2, h3, f, fd, ps, h4, F.kp, ⟨fun vs H Q E q => ?_, fun A outer s H args us vs Q E _ _ _ _ q => ?_⟩, bd⟩
    · rw [h5, h2]
      exact q.1
    · obtain ⟨_, _, _, _, _, _, _, _, z⟩ := q
      exact z.elim
  | succ n ih =>
    intro i fe h
    obtain ⟨fn, f, fd, ps, N, x, qual, params, body, scope, dvs, kws, h1, h2, h3, h4, F, S, h5, h6, h7, bd⟩ := (hd i fe h).ok
    exact ⟨fn, h1, h2, h3, f, fd, ps, h4, F.kp, fn_step hfree hglo ih h1 h2 F S h5 h6 h7, bd⟩
end
end Pd

/-! PdP: a law's end. -/
namespace Pd
open PySem PySem.Spec L2
/-- as walk_ofE, what a def may let out by the world -/
theorem walk_ofW {l : PySem.W.OpenLaw} {most k : Nat} {q : Program} {loose : List Str} {XP : (Str → Option Value) → Heap → Prop} {YP : World → Heap → Prop} {d : DefRec} {CX : World → CXT} {x : Str}
    (h1 : l.most = some most) (h2 : most ≤ sizeLine) (h3 : d.params.defaults = []) (h4 : Room k callerA)
    (F : ∀ (wd : World) (mg : Str → Option Value) (fa : Addr) (h : Heap), YP wd h → h.Ns mainGlobals mg → mg d.name = some (.ref fa) →
      ∃ (K : PySem.W.Frag) (fd : FuncData) (sp : Sp), K.In h ∧ (∀ (s : Shared) (u : Value), BindsTo s fd ⟨[u], []⟩ [(x, u)]) ∧
        (∀ (H : Hp) (a : Addr) (ns : List Int), ns.length ≤ most → Only H → SqL K H a (ns.map V.int) → sp [.ref a] H (fun v _ => v = .bl true) fun _ _ _ => False) ∧
        ∀ base : Heap, K.In base → base.Ns mainGlobals mg → FnOk l.prog wd K mg base (CX wd) k fa fd [x] sp)
    (hCX : ∀ (wd : World) (H : Hp) (s : Shared) (e : Value) (s' : Shared), CX wd [] H s (fun _ _ _ => False) e s' → False) :
    PySem.W.WalkO q loose XP YP l.row.toRowW d [] (fun f vs => PySem.call f vs) := by
  refine Att.attach_call h1 h3 fun wd sA sB mg mb fa o pm cd doc a vs ns G Y ho hd hcd hmg hobj hints hlen hg => ?_
  obtain ⟨K, fd, sp, KX, hb, hsp, hF⟩ := F wd mg fa _ Y G.T.g hmg
  exact law_call KX G.T.g G.T.b G.T.builtins G.T.nolimit hg hobj hints (Nat.le_trans hlen h2) h4 hF hb (fun H hO hS => hsp H a ns hlen hO hS) fun H e s' => hCX wd H sB e s'
theorem CX_no {P : Program} {wd : World} {H : Hp} {s : Shared} {e : Value} {s' : Shared} (h : L2.CX P wd [] H s (fun _ _ _ => False) e s') : False := by
  obtain ⟨_, _, _, _, _, _, _, _, _, _, _, _, z⟩ := h
  exact z
section
variable {w : Wr} {P : Pg} {mg : Str → Option Value} {fes : List FE} {glo : List (Str × Pd.D)} {free : List Str}
/-- a def without defaults -/
theorem DefOk.of0 {i : Nat} {fe : FE} {fn : Fn} {f : Addr} {fd : FuncData} {ps N : List Str} {x qual : Str} {params : Arguments} {body : List Stmt} {scope : Scope} {kws : List (Str × V)} (h1 : P.fns[i]? = some fn) (h2 : fn.np = fe.np) (h3 : fn.dfl = fe.dfl) (h0 : fe.dfl = [])
    (hm : mg fe.name = some (.ref f)) (F : FunD w.K x qual params body scope [] kws f fd) (S : FnScope N ps scope) (h4 : ps.length = fn.np) (h5 : N.length = fn.ns) (hc : (ckS fn.body).ss ⟨N, scope, N, fes, glo, free⟩ body = true)
    (hb : ∀ (kV doc pm : Value) (an : Option Addr) (cdv ct : Value) (us : List Value), us.length = ps.length → bindArgs (PySem.W.fnOf x qual params body scope .none kV doc pm an cdv ct) ⟨us, []⟩ = pure (ps.zip us)) : DefOk w P mg fes glo free i fe := by
  refine ⟨fn, f, fd, ps, N, x, qual, params, body, scope, [], kws, h1, h2, h3, hm, F, S, h4, h5, hc, fun m _ _ => ⟨[], [], .nil, F.bindsN hb, fun F' μ => ?_⟩⟩
  rw [h0, List.drop_nil]
  exact rfl
/-- the script as the law's argument -/
theorem sp_law {n i : Nat} {ns : List Int} {H : Hp} {a : Addr} (hS : SqL w.K H a (ns.map V.int)) (h : evF P n i [.d (.scr ns)] [] = .ok (.d (.bl true)) []) :
    spC w 1 (fun as M => evF P n i as M) [.ref a] H (fun v _ => v = .bl true) fun _ _ _ => False := by
  refine ⟨rfl, fun b => if b = a then H b else none, fun _ => none, [], [], [.d (.scr ns)], ⟨fun b o e => ?_, fun b o e => ?_, fun b o e => ?_, rfl, List.nodup_nil, fun i c e => ?_⟩, ⟨.ref a, [], rfl, ?_, rfl⟩, ?_⟩
  · split at e
    · exact e
    · cases e
  · cases e
  · cases e
  · rw [List.getElem?_nil] at e
    cases e
  · show DR w _ (.scr ns) (.ref a)
    simp only [DR]
    refine ⟨a, rfl, ?_⟩
    rcases hS with (e | ⟨o, e⟩) | e
    · exact .inl (.inl ((if_pos rfl).trans e))
    · exact .inl (.inr ⟨o, (if_pos rfl).trans e⟩)
    · exact .inr e
  · show Out w _ _ _ _ _ (evF P n i [.d (.scr ns)] []) _ _
    rw [h]
    intro F' H' v _ _ r
    have r : DR w F' (.bl true) v := r
    simpa only [DR] using r
end
end Pd

/-! PdQ: the evaluator's own laws, in plain Lean. -/
namespace Pd
open PySem PySem.Spec
theorem evF_of {P : Pg} {n f : Nat} {fn : Fn} {as : List Vl} {M : Mem} {vs : Vars} {r : RS} (h : P.fns[f]? = some fn) (hf : fn.fits as = true) (hv : startV fn as = vs) (hb : evS ⟨evF P n, P.W, P.X⟩ fn.body vs M = r) : evF P (n + 1) f as M = finish M.length r := by
  subst hv
  simp only [evF, h, hf, hb, if_true]
theorem fin_d {M T : Mem} {x : D} : finish M.length (.ret (.d x) (M ++ T)) = .ok (.d x) M := by
  simp [finish]
theorem fin_d0 {M : Mem} {x : D} : finish M.length (.ret (.d x) M) = .ok (.d x) M := by
  simp [finish]
theorem fin_nx {M T : Mem} {v : Vars} : finish M.length (.nx v (M ++ T)) = .ok (.d .non) M := by
  simp [finish]
theorem fin_nx0 {M : Mem} {v : Vars} : finish M.length (.nx v M) = .ok (.d .non) M := by
  simp [finish]
theorem fin_new {M T : Mem} {x : D} : finish M.length (.ret (.new x) (M ++ T)) = .ok (.new x) M := by
  simp [finish]
/-- the own cell that stands k places behind the base is told -/
theorem fin_loc {M T : Mem} {k : Nat} {x : D} (h : T[k]? = some ⟨true, x⟩) : finish M.length (.ret (.loc (M.length + k)) (M ++ T)) = .ok (.new x) M := by
  have e : (M ++ T)[M.length + k]? = some ⟨true, x⟩ := by
    rw [List.getElem?_append_right (Nat.le_add_right _ _), Nat.add_sub_cancel_left]
    exact h
  simp [finish, e]
theorem bind_ok' {α β : Type} {a : α} {M : Mem} {f : α → Mem → R β} : (R.ok a M).bind f = f a M := rfl
theorem thenS_ok {α : Type} {a : α} {M : Mem} {v : Vars} {f : α → Mem → RS} : (R.ok a M).thenS v f = f a M := rfl
theorem then_nx {v : Vars} {M : Mem} {f : Vars → Mem → RS} : (RS.nx v M).andThen f = f v M := rfl
theorem then_ret {x : Vl} {M : Mem} {f : Vars → Mem → RS} : (RS.ret x M).andThen f = .ret x M := rfl
theorem then_brk {v : Vars} {M : Mem} {f : Vars → Mem → RS} : (RS.brk v M).andThen f = .brk v M := rfl
theorem then_cnt {v : Vars} {M : Mem} {f : Vars → Mem → RS} : (RS.cnt v M).andThen f = .cnt v M := rfl
theorem lift_some {α : Type} {a : α} {M : Mem} : R.lift (some a) M = .ok a M := rfl
theorem seq_nx {Z : Sm} {a b : S} {v v1 : Vars} {M M1 : Mem} {r : RS} (h : evS Z a v M = .nx v1 M1) (k : evS Z b v1 M1 = r) : evS Z (.seq a b) v M = r := by
  simp only [evS, h, then_nx, k]
theorem seq_ret {Z : Sm} {a b : S} {v : Vars} {M M1 : Mem} {x : Vl} (h : evS Z a v M = .ret x M1) : evS Z (.seq a b) v M = .ret x M1 := by
  simp only [evS, h, then_ret]
theorem for_of {Z : Sm} {t : T} {it : E} {b : S} {v : Vars} {M M1 : Mem} {xs : List D} {g : Gd} {r : RS} (h : (den Z.C it).i v M = .ok (xs, g) M1) (k : forGo t g (evS Z b) xs v M1 = r) : evS Z (.for t it b) v M = r := by
  simp only [evS, h, thenS_ok, k]
/-- a walk whose body goes on each time, what stands being told by a state -/
theorem for_fold {α : Type} {t : T} {g : Gd} {b : Vars → Mem → RS} (stp : α → D → α) (V : α → Vars) (MM : α → Mem) (I : α → Prop) (J : D → Prop)
    (hg : ∀ a, I a → chkG g (MM a) = true) (hs : ∀ a x, I a → J x → I (stp a x) ∧ ∃ v1, bindT t x (V a) = some v1 ∧ (b v1 (MM a) = .nx (V (stp a x)) (MM (stp a x)) ∨ b v1 (MM a) = .cnt (V (stp a x)) (MM (stp a x)))) :
    ∀ (xs : List D) (a : α), I a → (∀ x ∈ xs, J x) → forGo t g b xs (V a) (MM a) = .nx (V (xs.foldl stp a)) (MM (xs.foldl stp a)) ∧ I (xs.foldl stp a)
  | [], a, ha, _ => by
    simp only [forGo, hg a ha, if_true, List.foldl_nil]
    exact ⟨trivial, ha⟩
  | x :: xs, a, ha, hj => by
    obtain ⟨h1, v1, h2, h3⟩ := hs a x ha (hj x List.mem_cons_self)
    have ih := for_fold stp V MM I J hg hs xs (stp a x) h1 fun y hy => hj y (List.mem_cons_of_mem _ hy)
    rw [List.foldl_cons]
    refine ⟨?_, ih.2⟩
    rcases h3 with h3 | h3
    · simp only [forGo, hg a ha, if_true, h2, h3]
      exact ih.1
    · simp only [forGo, hg a ha, if_true, h2, h3]
      exact ih.1
theorem lc_of {C : Nat → List Vl → Mem → R Vl} {own : List Nat} {t : T} {it c e : E} {vs : Vars} {M M1 M2 : Mem} {xs ys : List D} {g : Gd} (h : (den C it).i vs M = .ok (xs, g) M1)
    (k : lcGo t g (if isTrueE c then fun _ M => .ok true M else (den C c).t) (den C e).v (wipeV vs own) xs M1 = .ok ys M2) : (den C (.lc own t it c e)).v vs M = .ok (.new (.lst ys)) M2 := by
  simp only [den, Den.ofV, h, bind_ok', k]
/-- a comprehension that changes nothing -/
theorem lc_map {t : T} {g : Gd} {c : Vars → Mem → R Bool} {e : Vars → Mem → R Vl} {vs : Vars} {M : Mem} (f : D → D) (keep : D → Bool) (hg : chkG g M = true) :
    ∀ {xs : List D}, (∀ x ∈ xs, ∃ v1, bindT t x vs = some v1 ∧ c v1 M = .ok (keep x) M ∧ (keep x = true → ∃ y, e v1 M = .ok y M ∧ toD M y = some (f x, M))) → lcGo t g c e vs xs M = .ok ((xs.filter keep).map f) M
  | [], _ => by simp only [lcGo, hg, if_true, List.filter_nil, List.map_nil]
  | x :: xs, h => by
    obtain ⟨v1, h1, h2, h3⟩ := h x List.mem_cons_self
    have ih := lc_map (xs := xs) f keep hg fun y hy => h y (List.mem_cons_of_mem _ hy)
    cases hk : keep x with
    | true =>
      obtain ⟨y, h4, h5⟩ := h3 hk
      rw [hk] at h2
      simp only [lcGo, hg, if_true, h1, h2, h4, h5, ih, List.filter_cons, hk, List.map_cons]
    | false =>
      rw [hk] at h2
      simp only [lcGo, hg, if_true, h1, h2, ih, List.filter_cons, hk]
      rfl
/-- one whose items are drawn, the state going on -/
theorem lc_draw {α : Type} {t : T} {g : Gd} {c : Vars → Mem → R Bool} {e : Vars → Mem → R Vl} {vs : Vars} (MM : α → Mem) (J : D → Prop) (hg : ∀ a, chkG g (MM a) = true) :
    ∀ (xs : List D) (a : α), (∀ x ∈ xs, ∀ a, ∃ v1, bindT t x vs = some v1 ∧ c v1 (MM a) = .ok true (MM a) ∧ ∃ y a1, e v1 (MM a) = .ok (.d y) (MM a1) ∧ J y) →
      ∃ ys a1, lcGo t g c e vs xs (MM a) = .ok ys (MM a1) ∧ ys.length = xs.length ∧ ∀ y ∈ ys, J y
  | [], a, _ => ⟨[], a, by simp only [lcGo, hg, if_true], rfl, fun y hy => by cases hy⟩
  | x :: xs, a, h => by
    obtain ⟨v1, h1, h2, y, a1, h3, h4⟩ := h x List.mem_cons_self a
    obtain ⟨ys, a2, h5, h6, h7⟩ := lc_draw MM J hg xs a1 fun z hz => h z (List.mem_cons_of_mem _ hz)
    refine ⟨y :: ys, a2, by simp only [lcGo, hg, if_true, h1, h2, h3, toD, h5], by simp [h6], fun z hz => ?_⟩
    rcases List.mem_cons.mp hz with e | e
    · rw [e]; exact h4
    · exact h7 z e
theorem bls_true : ∀ {xs : List D}, (∀ x ∈ xs, x = .bl true) → ∃ bs, D.bls? xs = some bs ∧ bs.all id = true
  | [], _ => ⟨[], rfl, rfl⟩
  | x :: xs, h => by
    obtain ⟨bs, e1, e2⟩ := bls_true (xs := xs) fun y hy => h y (List.mem_cons_of_mem _ hy)
    have e := h x List.mem_cons_self
    subst e
    exact ⟨true :: bs, by simp only [D.bls?, e1, Option.map_some], by simp only [List.all_cons, e2, id, Bool.and_true]⟩
theorem for_nx {t : T} {g : Gd} {b : Vars → Mem → RS} {x : D} {xs : List D} {v v1 v2 : Vars} {M M2 : Mem} {r : RS} (hg : chkG g M = true) (hb : bindT t x v = some v1) (h : b v1 M = .nx v2 M2) (k : forGo t g b xs v2 M2 = r) : forGo t g b (x :: xs) v M = r := by
  simp only [forGo, hg, hb, h, k, if_true]
theorem for_cnt {t : T} {g : Gd} {b : Vars → Mem → RS} {x : D} {xs : List D} {v v1 v2 : Vars} {M M2 : Mem} {r : RS} (hg : chkG g M = true) (hb : bindT t x v = some v1) (h : b v1 M = .cnt v2 M2) (k : forGo t g b xs v2 M2 = r) : forGo t g b (x :: xs) v M = r := by
  simp only [forGo, hg, hb, h, k, if_true]
theorem for_ret {t : T} {g : Gd} {b : Vars → Mem → RS} {x : D} {xs : List D} {v v1 : Vars} {M M2 : Mem} {y : Vl} (hg : chkG g M = true) (hb : bindT t x v = some v1) (h : b v1 M = .ret y M2) : forGo t g b (x :: xs) v M = .ret y M2 := by
  simp only [forGo, hg, hb, h, if_true]
theorem for_end {t : T} {g : Gd} {b : Vars → Mem → RS} {v : Vars} {M : Mem} (hg : chkG g M = true) : forGo t g b [] v M = .nx v M := by
  simp only [forGo, hg, if_true]
/-! ### items by places -/
theorem at_map {α β : Type} (f : α → β) (xs : List α) (i : Int) : L2.atI (xs.map f) i = (L2.atI xs i).map f := by
  unfold L2.atI
  rw [List.length_map]
  cases L2.ixN xs.length i with
  | none => rfl
  | some j => simp only [Option.bind_some, List.getElem?_map]
theorem at_pos {xs : List Int} {i : Int} (h : 0 ≤ i) (h2 : i < xs.length) : L2.atI xs i = some (xs.getD i.toNat 0) := by
  unfold L2.atI L2.ixN
  rw [if_pos h, if_pos h2]
  have : i.toNat < xs.length := by omega
  simp only [Option.bind_some, List.getD_eq_getElem?_getD, List.getElem?_eq_getElem this, Option.getD_some]
theorem at_ints {xs : List Int} {i : Int} (h : 0 ≤ i) (h2 : i < xs.length) : L2.atI (xs.map D.int) i = some (.int (xs.getD i.toNat 0)) := by
  rw [at_map, at_pos h h2]
  rfl
/-! ### cells of one's own -/
theorem own_get0 {M T : Mem} {c : Cell} : (M ++ c :: T)[M.length]? = some c := by
  rw [List.getElem?_append_right (Nat.le_refl _), Nat.sub_self]
  rfl
theorem own_get1 {M T : Mem} {c d : Cell} : (M ++ c :: d :: T)[M.length + 1]? = some d := by
  rw [List.getElem?_append_right (Nat.le_add_right _ _), Nat.add_sub_cancel_left]
  rfl
theorem own_set0 {M T : Mem} {c e : Cell} : (M ++ c :: T).set M.length e = M ++ e :: T := by
  rw [List.set_append_right _ _ (Nat.le_refl _), Nat.sub_self]
  rfl
theorem own_set1 {M T : Mem} {c d e : Cell} : (M ++ c :: d :: T).set (M.length + 1) e = M ++ c :: e :: T := by
  rw [List.set_append_right _ _ (Nat.le_add_right _ _), Nat.add_sub_cancel_left]
  rfl
theorem len_lt {n : Nat} (h : n ≤ 100000) : n < sizeLine := by
  rw [PySem.sizeLine_eq]
  omega
theorem len_le {n : Nat} (h : n ≤ 100000) : n ≤ sizeLine := Nat.le_of_lt (len_lt h)
theorem flats_strs : ∀ (n : Nat) (xs : List Str), D.flats n (xs.map D.str) = true
  | _, [] => by simp only [List.map_nil, D.flats]
  | n, x :: xs => by simp only [List.map_cons, D.flats, D.flat, flats_strs n xs, Bool.and_self]
theorem flats_ints : ∀ (n : Nat) (xs : List Int), D.flats n (xs.map D.int) = true
  | _, [] => by simp only [List.map_nil, D.flats]
  | n, x :: xs => by simp only [List.map_cons, D.flats, D.flat, flats_ints n xs, Bool.and_self]
theorem any_strs (x : Str) : ∀ xs : List Str, ((xs.map D.str).any fun y => D.eqv y (.str x)) = xs.any (· == x)
  | [] => rfl
  | y :: ys => by
    rw [List.map_cons, List.any_cons, List.any_cons, any_strs x ys]
    simp only [D.eqv]
theorem str_not_in {x : Str} {xs : List Str} (h : x ∉ xs) : xs.any (· == x) = false := by
  rw [List.any_eq_false]
  intro y hy e
  have e : y = x := by simpa using e
  exact h (e ▸ hy)
/-! ### by constructs (printed) -/
section
variable {C : Nat → List Vl → Mem → R Vl} {vs : Vars} {M : Mem}
theorem dv_var (i : Nat) : (den C (.var i)).v vs M = (match vs[i]? with
      | some (some x) => .ok x M
      | _ => .no) := rfl
theorem dt_var (i : Nat) : (den C (.var i)).t vs M = ((den C (.var i)).v vs M).bind fun x M1 => R.lift ((der M1 x).bind D.truth) M1 := rfl
theorem di_var (i : Nat) : (den C (.var i)).i vs M = ((den C (.var i)).v vs M).bind fun x M1 => R.lift (iterOf M1 (frz x)) M1 := rfl
theorem dv_k (d : D) : (den C (.k d)).v vs M = (.ok (.d d) M) := rfl
theorem dt_k (d : D) : (den C (.k d)).t vs M = ((den C (.k d)).v vs M).bind fun x M1 => R.lift ((der M1 x).bind D.truth) M1 := rfl
theorem di_k (d : D) : (den C (.k d)).i vs M = ((den C (.k d)).v vs M).bind fun x M1 => R.lift (iterOf M1 (frz x)) M1 := rfl
theorem dv_g (x : Str) (d : D) : (den C (.g x d)).v vs M = (.ok (.d d) M) := rfl
theorem dt_g (x : Str) (d : D) : (den C (.g x d)).t vs M = ((den C (.g x d)).v vs M).bind fun x M1 => R.lift ((der M1 x).bind D.truth) M1 := rfl
theorem di_g (x : Str) (d : D) : (den C (.g x d)).i vs M = ((den C (.g x d)).v vs M).bind fun x M1 => R.lift (iterOf M1 (frz x)) M1 := rfl
theorem dv_op1 (o : Op1) (a : E) : (den C (.op1 o a)).v vs M = (((den C a).v vs M).bind fun x M1 => R.lift ((der M1 x).bind (op1 o)) M1) := rfl
theorem dt_op1 (o : Op1) (a : E) : (den C (.op1 o a)).t vs M = ((den C (.op1 o a)).v vs M).bind fun x M1 => R.lift ((der M1 x).bind D.truth) M1 := rfl
theorem di_op1 (o : Op1) (a : E) : (den C (.op1 o a)).i vs M = ((den C (.op1 o a)).v vs M).bind fun x M1 => R.lift (iterOf M1 (frz x)) M1 := rfl
theorem dv_op2 (o : Op2) (a b : E) : (den C (.op2 o a b)).v vs M = (((den C a).v vs M).bind fun x M1 => ((den C b).v vs M1).bind fun y M2 => R.lift ((der M2 x).bind fun x => (der M2 y).bind fun y => op2 o x y) M2) := rfl
theorem dt_op2 (o : Op2) (a b : E) : (den C (.op2 o a b)).t vs M = ((den C (.op2 o a b)).v vs M).bind fun x M1 => R.lift ((der M1 x).bind D.truth) M1 := rfl
theorem di_op2 (o : Op2) (a b : E) : (den C (.op2 o a b)).i vs M = ((den C (.op2 o a b)).v vs M).bind fun x M1 => R.lift (iterOf M1 (frz x)) M1 := rfl
theorem dv_chain (o p : Op2) (a b c : E) : (den C (.chain o p a b c)).v vs M = (((den C a).v vs M).bind fun x M1 => ((den C b).v vs M1).bind fun y M2 =>
      match (der M2 x).bind fun x => (der M2 y).bind fun y => (op2 o x y).bind asB with
      | some true => ((den C c).v vs M2).bind fun z M3 => R.lift ((der M3 y).bind fun y => (der M3 z).bind fun z => op2 p y z) M3
      | some false => .ok (.d (.bl false)) M2
      | none => .no) := rfl
theorem dt_chain (o p : Op2) (a b c : E) : (den C (.chain o p a b c)).t vs M = ((den C (.chain o p a b c)).v vs M).bind fun x M1 => R.lift ((der M1 x).bind D.truth) M1 := rfl
theorem di_chain (o p : Op2) (a b c : E) : (den C (.chain o p a b c)).i vs M = ((den C (.chain o p a b c)).v vs M).bind fun x M1 => R.lift (iterOf M1 (frz x)) M1 := rfl
theorem dv_ife (c a b : E) : (den C (.ife c a b)).v vs M = (((den C c).t vs M).bind fun x M1 => if x then (den C a).v vs M1 else (den C b).v vs M1) := rfl
theorem dt_ife (c a b : E) : (den C (.ife c a b)).t vs M = ((den C (.ife c a b)).v vs M).bind fun x M1 => R.lift ((der M1 x).bind D.truth) M1 := rfl
theorem di_ife (c a b : E) : (den C (.ife c a b)).i vs M = ((den C (.ife c a b)).v vs M).bind fun x M1 => R.lift (iterOf M1 (frz x)) M1 := rfl
theorem dv_tup (a : E) : (den C (.tup a)).v vs M = (((den C a).a vs M).bind fun xs M1 => match toDs M1 xs with
      | some (ds, M2) => if ds.length ≤ 1000 then .ok (.d (.tup ds)) M2 else .no
      | none => .no) := rfl
theorem dt_tup (a : E) : (den C (.tup a)).t vs M = ((den C (.tup a)).v vs M).bind fun x M1 => R.lift ((der M1 x).bind D.truth) M1 := rfl
theorem di_tup (a : E) : (den C (.tup a)).i vs M = ((den C (.tup a)).v vs M).bind fun x M1 => R.lift (iterOf M1 (frz x)) M1 := rfl
theorem dv_lst (a : E) : (den C (.lst a)).v vs M = (((den C a).a vs M).bind fun xs M1 => match toDs M1 xs with
      | some (ds, M2) => if ds.length ≤ 1000 then .ok (.new (.lst ds)) M2 else .no
      | none => .no) := rfl
theorem dt_lst (a : E) : (den C (.lst a)).t vs M = ((den C (.lst a)).v vs M).bind fun x M1 => R.lift ((der M1 x).bind D.truth) M1 := rfl
theorem di_lst (a : E) : (den C (.lst a)).i vs M = ((den C (.lst a)).v vs M).bind fun x M1 => R.lift (iterOf M1 (frz x)) M1 := rfl
theorem dv_idx (a b : E) : (den C (.idx a b)).v vs M = (((den C a).v vs M).bind fun x M1 => ((den C b).v vs M1).bind fun y M2 => R.lift ((der M2 x).bind fun x => (der M2 y).bind fun y => idx x y) M2) := rfl
theorem dt_idx (a b : E) : (den C (.idx a b)).t vs M = ((den C (.idx a b)).v vs M).bind fun x M1 => R.lift ((der M1 x).bind D.truth) M1 := rfl
theorem di_idx (a b : E) : (den C (.idx a b)).i vs M = ((den C (.idx a b)).v vs M).bind fun x M1 => R.lift (iterOf M1 (frz x)) M1 := rfl
theorem dv_sl (a b c : E) : (den C (.sl a b c)).v vs M = (((den C a).v vs M).bind fun x M1 => (optI ((den C b).v vs M1) (isTrueE b) M1).bind fun l M2 => (optI ((den C c).v vs M2) (isTrueE c) M2).bind fun u M3 =>
      R.lift ((der M3 x).bind fun x => slice x l u) M3) := rfl
theorem dt_sl (a b c : E) : (den C (.sl a b c)).t vs M = ((den C (.sl a b c)).v vs M).bind fun x M1 => R.lift ((der M1 x).bind D.truth) M1 := rfl
theorem di_sl (a b c : E) : (den C (.sl a b c)).i vs M = ((den C (.sl a b c)).v vs M).bind fun x M1 => R.lift (iterOf M1 (frz x)) M1 := rfl
theorem dv_bi (b : Bi) (a : E) : (den C (.bi b a)).v vs M = (((den C a).a vs M).bind fun xs M1 => R.lift ((ders M1 xs).bind fun ds => bi b ds) M1) := rfl
theorem dt_bi (b : Bi) (a : E) : (den C (.bi b a)).t vs M = ((den C (.bi b a)).v vs M).bind fun x M1 => R.lift ((der M1 x).bind D.truth) M1 := rfl
theorem di_bi (b : Bi) (a : E) : (den C (.bi b a)).i vs M = ((den C (.bi b a)).v vs M).bind fun x M1 => R.lift (iterOf M1 (frz x)) M1 := rfl
theorem dv_bm (m : Bm) (o a : E) : (den C (.bm m o a)).v vs M = (((den C o).v vs M).bind fun x M1 => if bmTy m (der M1 x) then (((den C a).a vs M1).bind fun xs M2 =>
      if m.mut then (match toDs M2 xs with
        | some (ds, M3) => mutate m M3 (frz x) ds
        | none => .no)
      else R.lift ((der M2 x).bind fun x => (ders M2 xs).bind fun ds => bmP m x ds) M2) else .no) := rfl
theorem dt_bm (m : Bm) (o a : E) : (den C (.bm m o a)).t vs M = ((den C (.bm m o a)).v vs M).bind fun x M1 => R.lift ((der M1 x).bind D.truth) M1 := rfl
theorem di_bm (m : Bm) (o a : E) : (den C (.bm m o a)).i vs M = ((den C (.bm m o a)).v vs M).bind fun x M1 => R.lift (iterOf M1 (frz x)) M1 := rfl
theorem dv_call (f : Nat) (a : E) : (den C (.call f a)).v vs M = (((den C a).a vs M).bind fun xs M1 => C f xs M1) := rfl
theorem dt_call (f : Nat) (a : E) : (den C (.call f a)).t vs M = ((den C (.call f a)).v vs M).bind fun x M1 => R.lift ((der M1 x).bind D.truth) M1 := rfl
theorem di_call (f : Nat) (a : E) : (den C (.call f a)).i vs M = ((den C (.call f a)).v vs M).bind fun x M1 => R.lift (iterOf M1 (frz x)) M1 := rfl
theorem dv_isi (ts : List Ty) (a : E) : (den C (.isi ts a)).v vs M = (((den C a).v vs M).bind fun x M1 => R.lift ((der M1 x).bind (isi ts)) M1) := rfl
theorem dt_isi (ts : List Ty) (a : E) : (den C (.isi ts a)).t vs M = ((den C (.isi ts a)).v vs M).bind fun x M1 => R.lift ((der M1 x).bind D.truth) M1 := rfl
theorem di_isi (ts : List Ty) (a : E) : (den C (.isi ts a)).i vs M = ((den C (.isi ts a)).v vs M).bind fun x M1 => R.lift (iterOf M1 (frz x)) M1 := rfl
theorem dv_and (a b : E) : (den C (.and a b)).v vs M = (((den C a).v vs M).bind fun x M1 => match asB x with
        | some true => (den C b).v vs M1
        | some false => .ok (.d (.bl false)) M1
        | none => .no) := rfl
theorem dv_or (a b : E) : (den C (.or a b)).v vs M = (((den C a).v vs M).bind fun x M1 => match asB x with
        | some false => (den C b).v vs M1
        | some true => .ok (.d (.bl true)) M1
        | none => .no) := rfl
theorem dv_not (a : E) : (den C (.not a)).v vs M = (((den C a).v vs M).bind fun x M1 => match (der M1 x).bind D.truth with
        | some b => .ok (.d (.bl (!b))) M1
        | none => .no) := rfl
theorem dt_and (a b : E) : (den C (.and a b)).t vs M = ((den C a).t vs M).bind fun x M1 => if x then (den C b).t vs M1 else .ok false M1 := rfl
theorem dt_or (a b : E) : (den C (.or a b)).t vs M = ((den C a).t vs M).bind fun x M1 => if x then .ok true M1 else (den C b).t vs M1 := rfl
theorem dt_not (a : E) : (den C (.not a)).t vs M = ((den C a).t vs M).bind fun x M1 => .ok (!x) M1 := rfl
theorem da_nil : (den C .nil).a vs M = .ok [] M := rfl
theorem da_cons (x r : E) : (den C (.cons x r)).a vs M = ((den C x).v vs M).bind fun y M1 => ((den C r).a vs M1).bind fun ys M2 => .ok (frz y :: ys) M2 := rfl
theorem dp_nil : (den C .nil).p [] vs M = .ok [] M := rfl
theorem dp_cons (x r : E) (c : Bool) (cs : List Bool) : (den C (.cons x r)).p (c :: cs) vs M = ((den C x).v vs M).bind fun y M1 => (if c then asCell M1 y else .ok (frz y) M1).bind fun z M2 => ((den C r).p cs vs M2).bind fun zs M3 => .ok (z :: zs) M3 := rfl
theorem di_rng (lo hi : E) : (den C (.rng lo hi)).i vs M = (((den C lo).v vs M).bind fun x M1 => ((den C hi).v vs M1).bind fun y M2 => match x, y with
      | .d (.int l), .d (.int h) => if rngOk l h then .ok (rangeD l h, []) M2 else .no
      | _, _ => .no) := rfl
theorem di_enum (a : E) : (den C (.enum a)).i vs M = (((den C a).v vs M).bind fun x M1 => R.lift ((seqOf M1 (frz x)).map fun p => (enumFrom 0 p.2.1, p.2.2)) M1) := rfl
theorem di_lc (own : List Nat) (t : T) (it c e : E) : (den C (.lc own t it c e)).i vs M = ((den C (.lc own t it c e)).v vs M).bind fun x M1 => R.lift (iterOf M1 (frz x)) M1 := rfl
theorem dt_lc (own : List Nat) (t : T) (it c e : E) : (den C (.lc own t it c e)).t vs M = ((den C (.lc own t it c e)).v vs M).bind fun x M1 => R.lift ((der M1 x).bind D.truth) M1 := rfl
end
section
variable {Z : Sm} {v : Vars} {M : Mem}
theorem es_skip  : evS Z (.skip ) v M = (.nx v M) := rfl
theorem es_seq (a b : S) : evS Z (.seq a b) v M = ((evS Z a v M).andThen fun v M => evS Z b v M) := rfl
theorem es_cell (i : Nat) (e : E) : evS Z (.cell i e) v M = (((den Z.C e).v v M).thenS v fun x M1 => match asCell M1 x with
      | .ok y M2 => if i < v.length then .nx (v.set i (some y)) M2 else .no
      | _ => .no) := rfl
theorem es_par (is : List Nat) (cs : List Bool) (es : E) : evS Z (.par is cs es) v M = (((den Z.C es).p cs v M).thenS v fun xs M1 => match setAll v is xs with
      | some v1 => .nx v1 M1
      | none => .no) := rfl
theorem es_setix (o i e : E) : evS Z (.setix o i e) v M = (((den Z.C e).v v M).thenS v fun y M1 => match toD M1 y with
      | some (yd, M2) => ((den Z.C o).v v M2).thenS v fun x M3 => ((den Z.C i).v v M3).thenS v fun k M4 => match k with
        | .d kd => (match setIx M4 x kd yd with
          | some M5 => .nx v M5
          | none => .no)
        | _ => .no
      | none => .no) := rfl
theorem es_ex (e : E) : evS Z (.ex e) v M = (((den Z.C e).v v M).thenS v fun _ M1 => .nx v M1) := rfl
theorem es_ret (e : E) : evS Z (.ret e) v M = (((den Z.C e).v v M).thenS v fun x M1 => .ret x M1) := rfl
theorem es_retn  : evS Z (.retn ) v M = (.ret (.d .non) M) := rfl
theorem es_ite (c : E) (a b : S) : evS Z (.ite c a b) v M = (((den Z.C c).t v M).thenS v fun x M1 => if x then evS Z a v M1 else evS Z b v M1) := rfl
theorem es_brk  : evS Z (.brk ) v M = (.brk v M) := rfl
theorem es_cnt  : evS Z (.cnt ) v M = (.cnt v M) := rfl
theorem es_setN (i : Nat) (e : E) : evS Z (.set (.n i) e) v M = (((den Z.C e).v v M).thenS v fun x M1 => if i < v.length then .nx (v.set i (some (frz x))) M1 else .no) := rfl
theorem es_setT (r : T) (e : E) : evS Z (.set (.t r) e) v M = (((den Z.C e).v v M).thenS v fun x M1 => match frz x with
        | .d x => (match bindT (.t r) x v with
          | some v1 => .nx v1 M1
          | none => .no)
        | _ => .no) := rfl
end
theorem rng_of {C : Nat → List Vl → Mem → R Vl} {lo hi : E} {vs : Vars} {M M1 M2 : Mem} {l h : Int} (h1 : (den C lo).v vs M = .ok (.d (.int l)) M1) (h2 : (den C hi).v vs M1 = .ok (.d (.int h)) M2) (hr : rngOk l h = true) : (den C (.rng lo hi)).i vs M = .ok (rangeD l h, []) M2 := by
  simp only [di_rng, h1, h2, bind_ok', hr, if_true]
theorem rng_small {l h : Int} (h1 : -1000000 ≤ l) (h2 : l ≤ 1000000) (h3 : -1000000 ≤ h) (h4 : h ≤ 1000000) (h5 : h - l ≤ 100000) : rngOk l h = true := by
  unfold rngOk
  have z : (h - l).toNat ≤ sizeLine := len_le (by omega)
  have y : (2 : Int) ^ 62 = 4611686018427387904 := by decide
  rw [y]
  simp only [Bool.and_eq_true, decide_eq_true_eq]
  exact ⟨by omega, by omega, by omega, by omega, z⟩
theorem join_of {C : Nat → List Vl → Mem → R Vl} {o x : E} {vs : Vars} {M M1 M2 : Mem} {a : Str} {y : Vl} {ys : List D} {zs : List Str} (h1 : (den C o).v vs M = .ok (.d (.str a)) M1) (h2 : (den C x).v vs M1 = .ok y M2) (hy : der M2 (frz y) = some (.lst ys)) (hs : D.strs? ys = some zs)
    (hz : (zs.map (·.length)).sum + zs.length * a.length ≤ 16777216) : (den C (.bm .join o (.cons x .nil))).v vs M = .ok (.d (.str (Str.join a zs))) M2 := by
  have ej : bmP .join (.str a) [.lst ys] = some (.d (.str (Str.join a zs))) := by
    show joinP (.str a) [.lst ys] = _
    simp only [joinP, hs, Option.bind_some, if_pos hz]
  have et : bmTy .join (some (.str a)) = true := rfl
  have emt : Bm.join.mut = false := rfl
  have d1 : ∀ M, der M (.d (.str a)) = some (.str a) := fun _ => rfl
  simp only [dv_bm, da_cons, da_nil, h1, bind_ok', d1, et, if_true, h2, emt, Bool.false_eq_true, if_false, ders, hy, Option.bind_some, Option.map_some, ej, lift_some]
theorem call_it {C : Nat → List Vl → Mem → R Vl} {f : Nat} {a : E} {vs : Vars} {M M1 : Mem} {xs : List D} (h : (den C (.call f a)).v vs M = .ok (.new (.lst xs)) M1) : (den C (.call f a)).i vs M = .ok (xs, []) M1 := by
  rw [di_call, h]
  rfl
theorem call1 {C : Nat → List Vl → Mem → R Vl} {f : Nat} {a : E} {vs : Vars} {M M1 : Mem} {x y : Vl} {r : R Vl} (h1 : (den C a).v vs M = .ok x M1) (hx : frz x = y) (h : C f [y] M1 = r) : (den C (.call f (.cons a .nil))).v vs M = r := by
  subst hx
  rw [dv_call, da_cons, h1]
  exact h
theorem call2 {C : Nat → List Vl → Mem → R Vl} {f : Nat} {a b : E} {vs : Vars} {M M1 M2 : Mem} {x y x' y' : Vl} {r : R Vl} (h1 : (den C a).v vs M = .ok x M1) (h2 : (den C b).v vs M1 = .ok y M2) (hx : frz x = x') (hy : frz y = y') (h : C f [x', y'] M2 = r) : (den C (.call f (.cons a (.cons b .nil)))).v vs M = r := by
  subst hx hy
  rw [dv_call, da_cons, h1, bind_ok', da_cons, h2]
  exact h
theorem op2_cat {xs ys : List D} (h : xs.length + ys.length ≤ sizeLine) : op2 .add (.lst xs) (.lst ys) = some (.new (.lst (xs ++ ys))) := by
  show (if xs.length + ys.length ≤ sizeLine then _ else _) = _
  rw [if_pos h]
theorem ints_map : ∀ ns : List Int, D.ints? (ns.map D.int) = some ns
  | [] => rfl
  | n :: ns => by simp only [List.map_cons, D.ints?, ints_map ns, Option.map_some]
theorem strs_map : ∀ ns : List Str, D.strs? (ns.map D.str) = some ns
  | [] => rfl
  | n :: ns => by simp only [List.map_cons, D.strs?, strs_map ns, Option.map_some]
theorem bi_max {n : Int} {ns : List Int} : bi .max [.lst ((n :: ns).map D.int)] = some (.d (.int (maxL (n :: ns)))) := by
  show (D.ints? _).bind _ = _
  rw [ints_map]
  rfl
theorem append_of {xs : List D} {y : D} (h : xs.length ≤ 100000) : bmM .append xs [y] = some (xs ++ [y], .non) := by
  show (if xs.length < sizeLine then _ else _) = _
  rw [if_pos (len_lt h)]
theorem eqv_nil : op2 .eq (.lst []) (.lst []) = some (.d (.bl true)) := rfl
theorem app_of {Z : Sm} {vs : Vars} {M M1 M2 : Mem} {i c : Nat} {xs xs0 : List D} {x : E} {y : Vl} {d : D} (hv : vs[i]? = some (some (.loc c))) (h0 : M[c]? = some ⟨true, .lst xs0⟩) (h1 : (den Z.C x).v vs M = .ok y M1) (h2 : toD M1 (frz y) = some (d, M2)) (h3 : M2[c]? = some ⟨true, .lst xs⟩) (hl : xs.length ≤ 100000) :
    evS Z (.ex (.bm .append (.var i) (.cons x .nil))) vs M = .nx vs (M2.set c ⟨true, .lst (xs ++ [d])⟩) := by
  have e1 : (den Z.C (.var i)).v vs M = .ok (.loc c) M := by rw [dv_var, hv]
  have e2 : der M (.loc c) = some (.lst xs0) := by
    show (M[c]?).map _ = _
    rw [h0]
    rfl
  have e3 : bmTy .append (some (.lst xs0)) = true := rfl
  have e4 : toDs M1 [frz y] = some ([d], M2) := by simp only [toDs, h2, Option.bind_some, Option.map_some]
  have e5 : Bm.append.mut = true := rfl
  have e6 : mutate .append M2 (.loc c) [d] = .ok (.d .non) (M2.set c ⟨true, .lst (xs ++ [d])⟩) := by
    simp only [mutate, h3, append_of hl]
  have e7 : frz (.loc c) = .loc c := rfl
  rw [es_ex, dv_bm, e1, bind_ok', e2]
  simp only [e3, if_true, da_cons, da_nil, h1, bind_ok', e4, e5, e6, e7, thenS_ok]
theorem bi_sorted {ss : List Str} (h : ss.length ≤ 60) : bi .sorted [.lst (ss.map D.str)] = some (.new (.lst ((isortS ss).map D.str))) := by
  cases ss with
  | nil => rfl
  | cons s r =>
    show (D.strs? (r.map D.str)).bind _ = _
    rw [strs_map]
    have : r.length < 63 := by simp only [List.length_cons] at h; omega
    simp only [Option.bind_some, if_pos this]
theorem ne_str (a b : Str) : op2 .ne (.str a) (.str b) = some (.d (.bl (!(a == b)))) := by
  unfold op2
  simp only [D.flat, D.eqv, bool2, Bool.and_self, if_true]
end Pd

namespace Pd
open PySem PySem.Spec L2
/-! the defs as written forms (printed by gen.py) -/
abbrev i_is_integer : Nat := 0
abbrev i_is_within : Nat := 1
abbrev i_is_row : Nat := 2
abbrev i_is_tuple_of : Nat := 3
abbrev i_is_name : Nat := 4
abbrev i_is_reward : Nat := 5
abbrev i_checked_list : Nat := 6
abbrev i_check_points : Nat := 7
abbrev i_best_rows : Nat := 8
abbrev i_best_discount : Nat := 9
abbrev i_dominated : Nat := 10
abbrev i__law_taken : Nat := 11
abbrev i__law_pick : Nat := 12
abbrev i__law_alike : Nat := 13
abbrev i__law_name : Nat := 14
abbrev i__law_names : Nat := 15
abbrev i__law_list : Nat := 16
abbrev i__law_given : Nat := 17
abbrev i__law_best : Nat := 18
abbrev i_law : Nat := 19
def b_is_integer : S := (.seq (.ret (.and (.isi [.int] (.var 0)) (.not (.isi [.bool] (.var 0))))) .skip)
def f_is_integer : Fn := ⟨1, [], 1, b_is_integer⟩
def b_is_within : S := (.seq (.ret (.and (.call i_is_integer (.cons (.var 0) .nil)) (.chain .le .le (.var 1) (.var 0) (.var 2)))) .skip)
def f_is_within : Fn := ⟨3, [], 3, b_is_within⟩
def b_is_row : S := (.seq (.ret (.isi [.list, .tuple] (.var 0))) .skip)
def f_is_row : Fn := ⟨1, [], 1, b_is_row⟩
def b_is_tuple_of : S := (.seq (.ret (.and (.isi [.tuple] (.var 0)) (.op2 .eq (.bi .len (.cons (.var 0) .nil)) (.var 1)))) .skip)
def f_is_tuple_of : Fn := ⟨2, [], 2, b_is_tuple_of⟩
def b_is_name : S := (.seq (.ite (.or (.not (.isi [.str] (.var 0))) (.not (.chain .le .le (.k (.int 1)) (.bi .len (.cons (.var 0) .nil)) (.g "MOST_NAME" (.int 8))))) (.seq (.ret (.k (.bl false))) .skip) .skip) (.seq (.ret (.bi .all (.cons (.lc [1] (.n 1) (.var 0) .nil (.op2 .inn (.var 1) (.g "LETTERS" (.str "abcdefghijklmnopqrstuvwxyz")))) .nil))) .skip))
def f_is_name : Fn := ⟨1, [], 2, b_is_name⟩
def b_is_reward : S := (.seq (.ite (.or (.not (.call i_is_tuple_of (.cons (.var 0) (.cons (.k (.int 3)) .nil)))) (.not (.call i_is_name (.cons (.idx (.var 0) (.k (.int 0))) .nil)))) (.seq (.ret (.k (.bl false))) .skip) .skip) (.seq (.ret (.and (.call i_is_within (.cons (.idx (.var 0) (.k (.int 1))) (.cons (.k (.int 1)) (.cons (.g "MOST_PRICE" (.int 200)) .nil)))) (.call i_is_within (.cons (.idx (.var 0) (.k (.int 2))) (.cons (.k (.int 0)) (.cons (.g "MOST_DISCOUNT" (.int 10000)) .nil)))))) .skip))
def f_is_reward : Fn := ⟨1, [], 1, b_is_reward⟩
def b_checked_list : S := (.seq (.ite (.or (.not (.call i_is_row (.cons (.var 0) .nil))) (.not (.chain .le .le (.k (.int 1)) (.bi .len (.cons (.var 0) .nil)) (.g "MOST_REWARDS" (.int 12))))) (.seq .nev .skip) .skip) (.seq (.cell 1 (.lst .nil)) (.seq (.for (.t (.tc (.n 2) (.tc (.n 3) .t0))) (.enum (.var 0)) (.seq (.ite (.or (.not (.call i_is_reward (.cons (.var 3) .nil))) (.op2 .inn (.idx (.var 3) (.k (.int 0))) (.var 1))) (.seq .nev .skip) .skip) (.seq (.ex (.bm .append (.var 1) (.cons (.idx (.var 3) (.k (.int 0))) .nil))) .skip))) (.seq (.ret (.bi .tuple (.cons (.var 0) .nil))) .skip))))
def f_checked_list : Fn := ⟨1, [], 4, b_checked_list⟩
def b_check_points : S := (.seq (.ite (.not (.call i_is_within (.cons (.var 0) (.cons (.k (.int 0)) (.cons (.g "MOST_POINTS" (.int 500)) .nil))))) (.seq .nev .skip) .skip) .skip)
def f_check_points : Fn := ⟨1, [], 1, b_check_points⟩
def b_best_rows : S := (.seq (.cell 2 (.lst (.cons (.k (.int 0)) .nil))) (.seq (.cell 3 (.lst (.cons (.k .non) .nil))) (.seq (.for (.n 4) (.rng (.k (.int 1)) (.op2 .add (.var 1) (.k (.int 1)))) (.seq (.set (.n 5) (.idx (.var 2) (.op2 .sub (.var 4) (.k (.int 1))))) (.seq (.set (.n 6) (.k .non)) (.seq (.for (.n 7) (.var 0) (.seq (.ite (.and (.op2 .le (.idx (.var 7) (.k (.int 1))) (.var 4)) (.op2 .gt (.op2 .add (.idx (.var 2) (.op2 .sub (.var 4) (.idx (.var 7) (.k (.int 1))))) (.idx (.var 7) (.k (.int 2)))) (.var 5))) (.seq (.set (.n 5) (.op2 .add (.idx (.var 2) (.op2 .sub (.var 4) (.idx (.var 7) (.k (.int 1))))) (.idx (.var 7) (.k (.int 2))))) (.seq (.set (.n 6) (.var 7)) .skip)) .skip) .skip)) (.seq (.ex (.bm .append (.var 2) (.cons (.var 5) .nil))) (.seq (.ex (.bm .append (.var 3) (.cons (.var 6) .nil))) .skip)))))) (.seq (.ret (.tup (.cons (.var 2) (.cons (.var 3) .nil)))) .skip))))
def f_best_rows : Fn := ⟨2, [], 8, b_best_rows⟩
def b_best_discount : S := (.seq (.set (.n 2) (.call i_checked_list (.cons (.var 0) .nil))) (.seq (.ex (.call i_check_points (.cons (.var 1) .nil))) (.seq (.ret (.idx (.idx (.call i_best_rows (.cons (.var 2) (.cons (.var 1) .nil))) (.k (.int 0))) (.var 1))) .skip)))
def f_best_discount : Fn := ⟨2, [], 3, b_best_discount⟩
def b_dominated : S := (.seq (.set (.n 1) (.call i_checked_list (.cons (.var 0) .nil))) (.seq (.cell 2 (.lst .nil)) (.seq (.for (.t (.tc (.n 3) (.tc (.n 4) (.tc (.n 5) .t0)))) (.var 1) (.seq (.set (.n 6) (.lc [7] (.n 7) (.var 1) (.op2 .ne (.idx (.var 7) (.k (.int 0))) (.var 3)) (.var 7))) (.seq (.ite (.op2 .ge (.idx (.idx (.call i_best_rows (.cons (.var 6) (.cons (.var 4) .nil))) (.k (.int 0))) (.var 4)) (.var 5)) (.seq (.ex (.bm .append (.var 2) (.cons (.var 3) .nil))) .skip) .skip) .skip))) (.seq (.ret (.bi .sorted (.cons (.var 2) .nil))) .skip))))
def f_dominated : Fn := ⟨1, [], 8, b_dominated⟩
def b__law_taken : S := (.seq (.ite (.op2 .gt (.idx (.var 0) (.k (.int 3))) (.k (.int 0))) (.seq (.set (.n 2) (.op2 .mod (.bi .int (.cons (.idx (.var 0) (.k (.int 3))) .nil)) (.var 1))) (.seq (.setix (.var 0) (.k (.int 3)) (.op2 .fdiv (.idx (.var 0) (.k (.int 3))) (.var 1))) (.seq (.ret (.var 2)) .skip))) .skip) (.seq (.setix (.var 0) (.k (.int 1)) (.op2 .add (.idx (.var 0) (.k (.int 1))) (.k (.int 1)))) (.seq (.ite (.op2 .gt (.idx (.var 0) (.k (.int 1))) (.bi .len (.cons (.idx (.var 0) (.k (.int 0))) .nil))) (.seq (.setix (.var 0) (.k (.int 2)) (.op2 .mod (.bi .int (.cons (.op2 .add (.op2 .mul (.idx (.var 0) (.k (.int 2))) (.k (.int 48271))) (.k (.int 11))) .nil)) (.k (.int 2147483647)))) (.seq (.ret (.op2 .mod (.bi .int (.cons (.op2 .fdiv (.idx (.var 0) (.k (.int 2))) (.k (.int 7))) .nil)) (.var 1))) .skip)) .skip) (.seq (.set (.n 3) (.idx (.idx (.var 0) (.k (.int 0))) (.op2 .sub (.idx (.var 0) (.k (.int 1))) (.k (.int 1))))) (.seq (.setix (.var 0) (.k (.int 2)) (.op2 .mod (.bi .int (.cons (.op2 .add (.op2 .add (.op2 .mul (.idx (.var 0) (.k (.int 2))) (.k (.int 48271))) (.var 3)) (.k (.int 11))) .nil)) (.k (.int 2147483647)))) (.seq (.ite (.op2 .ge (.var 3) (.op2 .pow (.k (.int 10)) (.k (.int 18)))) (.seq (.setix (.var 0) (.k (.int 3)) (.op2 .fdiv (.var 3) (.var 1))) .skip) .skip) (.seq (.ret (.op2 .mod (.bi .int (.cons (.var 3) .nil)) (.var 1))) .skip)))))))
def f__law_taken : Fn := ⟨2, [], 4, b__law_taken⟩
def b__law_pick : S := (.seq (.ret (.idx (.var 1) (.call i__law_taken (.cons (.var 0) (.cons (.bi .len (.cons (.var 1) .nil)) .nil))))) .skip)
def f__law_pick : Fn := ⟨2, [], 2, b__law_pick⟩
def b__law_alike : S := (.seq (.ite (.isi [.tuple, .list] (.var 1)) (.seq (.ite (.or (.not (.isi [.tuple, .list] (.var 0))) (.op2 .ne (.isi [.list] (.var 0)) (.isi [.list] (.var 1)))) (.seq (.ret (.k (.bl false))) .skip) .skip) (.seq (.ite (.op2 .ne (.bi .len (.cons (.var 0) .nil)) (.bi .len (.cons (.var 1) .nil))) (.seq (.ret (.k (.bl false))) .skip) .skip) (.seq (.ret (.op2 .eq (.lc [2] (.n 2) (.rng (.k (.int 0)) (.bi .len (.cons (.var 1) .nil))) (.not (.call i__law_alike (.cons (.idx (.var 0) (.var 2)) (.cons (.idx (.var 1) (.var 2)) .nil)))) (.var 2)) (.lst .nil))) .skip))) .skip) (.seq (.ite (.isi [.dict] (.var 1)) (.seq (.ite (.or (.not (.isi [.dict] (.var 0))) (.op2 .ne (.bi .list (.cons (.var 0) .nil)) (.bi .list (.cons (.var 1) .nil)))) (.seq (.ret (.k (.bl false))) .skip) .skip) (.seq (.ret (.op2 .eq (.lc [3] (.n 3) (.var 1) (.not (.call i__law_alike (.cons (.idx (.var 0) (.var 3)) (.cons (.idx (.var 1) (.var 3)) .nil)))) (.var 3)) (.lst .nil))) .skip)) .skip) (.seq (.ite (.or (.op1 .isN (.var 1)) (.isi [.str] (.var 1))) (.seq (.ret (.and (.op2 .eq (.var 0) (.var 1)) (.op2 .eq (.isi [.str] (.var 0)) (.isi [.str] (.var 1))))) .skip) .skip) (.seq (.ret (.and (.isi [.int] (.var 0)) (.and (.op2 .eq (.isi [.bool] (.var 0)) (.isi [.bool] (.var 1))) (.op2 .eq (.var 0) (.var 1))))) .skip))))
def f__law_alike : Fn := ⟨2, [], 4, b__law_alike⟩
def b__law_name : S := (.seq (.set (.n 1) (.idx (.lst (.cons (.k (.int 1)) (.cons (.k (.int 1)) (.cons (.k (.int 2)) (.cons (.k (.int 3)) (.cons (.k (.int 5)) (.cons (.k (.int 8)) .nil))))))) (.call i__law_taken (.cons (.var 0) (.cons (.k (.int 6)) .nil))))) (.seq (.ret (.bm .join (.k (.str "")) (.cons (.lc [2] (.n 2) (.rng (.k (.int 0)) (.var 1)) .nil (.idx (.k (.str "abcdefghijklmnopqrstuvwxyz")) (.call i__law_taken (.cons (.var 0) (.cons (.k (.int 26)) .nil))))) .nil))) .skip))
def f__law_name : Fn := ⟨1, [], 3, b__law_name⟩
def b__law_names : S := (.seq (.cell 2 (.lst .nil)) (.seq (.for (.n 3) (.rng (.k (.int 0)) (.var 1)) (.seq (.set (.n 4) (.call i__law_name (.cons (.var 0) .nil))) (.seq (.ite (.op2 .inn (.var 4) (.var 2)) (.seq (.set (.n 4) (.idx (.lc [5] (.n 5) (.k (.str "abcdefghijklmnopqrstuvwxyz")) (.op2 .nin (.var 5) (.var 2)) (.var 5)) (.k (.int 0)))) .skip) .skip) (.seq (.ex (.bm .append (.var 2) (.cons (.var 4) .nil))) .skip)))) (.seq (.ret (.var 2)) .skip)))
def f__law_names : Fn := ⟨2, [], 6, b__law_names⟩
def b__law_list : S := (.seq (.par [1, 2] [true, false] (.cons (.lst .nil) (.cons (.op2 .eq (.call i__law_taken (.cons (.var 0) (.cons (.k (.int 12)) .nil))) (.k (.int 0))) .nil))) (.seq (.for (.n 3) (.call i__law_names (.cons (.var 0) (.cons (.ife (.var 2) (.k (.int 12)) (.op2 .add (.k (.int 1)) (.call i__law_taken (.cons (.var 0) (.cons (.k (.int 5)) .nil))))) .nil))) (.seq (.set (.n 4) (.call i__law_pick (.cons (.var 0) (.cons (.lst (.cons (.op2 .add (.k (.int 1)) (.call i__law_taken (.cons (.var 0) (.cons (.k (.int 6)) .nil)))) (.cons (.op2 .add (.k (.int 1)) (.call i__law_taken (.cons (.var 0) (.cons (.k (.int 20)) .nil)))) (.cons (.ife (.var 2) (.k (.int 200)) (.k (.int 7))) .nil)))) .nil)))) (.seq (.set (.n 5) (.call i__law_pick (.cons (.var 0) (.cons (.lst (.cons (.call i__law_taken (.cons (.var 0) (.cons (.k (.int 12)) .nil))) (.cons (.call i__law_taken (.cons (.var 0) (.cons (.k (.int 100)) .nil))) (.cons (.op2 .mul (.var 4) (.k (.int 5))) (.cons (.ife (.var 2) (.k (.int 10000)) (.k (.int 0))) .nil))))) .nil)))) (.seq (.ex (.bm .append (.var 1) (.cons (.tup (.cons (.var 3) (.cons (.var 4) (.cons (.var 5) .nil)))) .nil))) .skip)))) (.seq (.ret (.var 1)) .skip)))
def f__law_list : Fn := ⟨1, [], 6, b__law_list⟩
def b__law_given : S := (.seq (.ret (.ife (.op2 .eq (.call i__law_taken (.cons (.var 0) (.cons (.k (.int 2)) .nil))) (.k (.int 0))) (.bi .tuple (.cons (.var 1) .nil)) (.bi .list (.cons (.var 1) .nil)))) .skip)
def f__law_given : Fn := ⟨2, [], 2, b__law_given⟩
def b__law_best : S := (.seq (.cell 2 (.lst .nil)) (.seq (.for (.n 3) (.rng (.k (.int 0)) (.op2 .add (.var 1) (.k (.int 1)))) (.seq (.set (.n 4) (.op2 .add (.lst (.cons (.k (.int 0)) .nil)) (.lc [5] (.n 5) (.var 0) (.op2 .le (.idx (.var 5) (.k (.int 1))) (.var 3)) (.op2 .add (.idx (.var 2) (.op2 .sub (.var 3) (.idx (.var 5) (.k (.int 1))))) (.idx (.var 5) (.k (.int 2))))))) (.seq (.ex (.bm .append (.var 2) (.cons (.bi .max (.cons (.var 4) .nil)) .nil))) .skip))) (.seq (.ret (.var 2)) .skip)))
def f__law_best : Fn := ⟨2, [], 6, b__law_best⟩
def b_law : S := (.seq (.cell 1 (.lst (.cons (.var 0) (.cons (.k (.int 0)) (.cons (.k (.int 5903)) (.cons (.k (.int 0)) .nil)))))) (.seq (.for (.n 2) (.rng (.k (.int 0)) (.k (.int 3))) (.seq (.cell 3 (.call i__law_list (.cons (.var 1) .nil))) (.seq (.for (.n 4) (.sl (.call i__law_names (.cons (.var 1) (.cons (.k (.int 12)) .nil))) .nil (.call i__law_taken (.cons (.var 1) (.cons (.k (.int 4)) .nil)))) (.seq (.par [5, 6] [false, false] (.cons (.call i__law_pick (.cons (.var 1) (.cons (.var 3) .nil))) (.cons (.call i__law_pick (.cons (.var 1) (.cons (.var 3) .nil))) .nil))) (.seq (.set (.n 7) (.bi .min (.cons (.k (.int 200)) (.cons (.op2 .add (.op2 .add (.idx (.var 5) (.k (.int 1))) (.idx (.var 6) (.k (.int 1)))) (.call i__law_taken (.cons (.var 1) (.cons (.k (.int 2)) .nil)))) .nil)))) (.seq (.set (.n 8) (.tup (.cons (.var 4) (.cons (.var 7) (.cons (.bi .min (.cons (.k (.int 10000)) (.cons (.bi .max (.cons (.k (.int 0)) (.cons (.op2 .sub (.op2 .add (.op2 .add (.idx (.var 5) (.k (.int 2))) (.idx (.var 6) (.k (.int 2)))) (.call i__law_taken (.cons (.var 1) (.cons (.k (.int 3)) .nil)))) (.k (.int 1))) .nil))) .nil))) .nil))))) (.seq (.ite (.and (.op2 .nin (.var 4) (.lc [18] (.n 18) (.var 3) .nil (.idx (.var 18) (.k (.int 0))))) (.op2 .lt (.bi .len (.cons (.var 3) .nil)) (.k (.int 12)))) (.seq (.ex (.bm .insert (.var 3) (.cons (.call i__law_taken (.cons (.var 1) (.cons (.op2 .add (.bi .len (.cons (.var 3) .nil)) (.k (.int 1))) .nil))) (.cons (.var 8) .nil)))) .skip) .skip) .skip))))) (.seq (.par [9, 10] [false, true] (.cons (.call i__law_given (.cons (.var 1) (.cons (.var 3) .nil))) (.cons (.lst .nil) .nil))) (.seq (.for (.t (.tc (.n 4) (.tc (.n 7) (.tc (.n 11) .t0)))) (.var 3) (.seq (.set (.n 12) (.lc [5] (.n 5) (.var 3) (.op2 .ne (.idx (.var 5) (.k (.int 0))) (.var 4)) (.var 5))) (.seq (.ite (.op2 .ge (.idx (.call i__law_best (.cons (.var 12) (.cons (.var 7) .nil))) (.var 7)) (.var 11)) (.seq (.ex (.bm .append (.var 10) (.cons (.var 4) .nil))) .skip) .skip) .skip))) (.seq (.for (.n 13) (.rng (.k (.int 0)) (.k (.int 2))) (.seq (.cell 14 (.call i_dominated (.cons (.var 9) .nil))) (.seq (.ite (.or (.not (.call i__law_alike (.cons (.var 14) (.cons (.bi .sorted (.cons (.var 10) .nil)) .nil)))) (.op2 .ne (.bi .list (.cons (.var 9) .nil)) (.var 3))) (.seq (.ret (.k (.bl false))) .skip) .skip) (.seq (.ex (.bm .append (.var 14) (.cons (.k (.str "a")) .nil))) .skip)))) (.seq (.par [15, 16] [false, false] (.cons (.lc [5] (.n 5) (.var 3) (.op2 .nin (.idx (.var 5) (.k (.int 0))) (.var 10)) (.var 5)) (.cons (.call i__law_taken (.cons (.var 1) (.cons (.k (.int 41)) .nil))) .nil))) (.seq (.set (.n 17) (.lc [5] (.n 5) (.var 3) .nil (.sl (.var 5) (.k (.int 1)) .nil))) (.seq (.ite (.and (.op2 .ne (.var 15) (.lst .nil)) (.op2 .eq (.bi .len (.cons (.lc [5] (.n 5) (.var 17) (.op2 .gt (.bm .count (.var 17) (.cons (.var 5) .nil)) (.k (.int 1))) (.k (.int 1))) .nil)) (.k (.int 0)))) (.seq (.ite (.not (.call i__law_alike (.cons (.call i_best_discount (.cons (.var 9) (.cons (.var 16) .nil))) (.cons (.idx (.call i__law_best (.cons (.var 15) (.cons (.var 16) .nil))) (.var 16)) .nil)))) (.seq (.ret (.k (.bl false))) .skip) .skip) .skip) .skip) .skip))))))))) (.seq (.ret (.k (.bl true))) .skip)))
def f_law : Fn := ⟨1, [], 19, b_law⟩
def Pr : Pg := ⟨[f_is_integer, f_is_within, f_is_row, f_is_tuple_of, f_is_name, f_is_reward, f_checked_list, f_check_points, f_best_rows, f_best_discount, f_dominated, f__law_taken, f__law_pick, f__law_alike, f__law_name, f__law_names, f__law_list, f__law_given, f__law_best, f_law], [], 100000⟩
/-! the text -/
def top (i : Nat) : Stmt := PySem.Challenge.pw_noidlegain_k59_dominated_rewards.main.body.getD i (.Pass ⟨0, 0, 0, 0⟩)
abbrev s_is_integer : Stmt := top 3
abbrev s_is_within : Stmt := top 4
abbrev s_is_row : Stmt := top 5
abbrev s_is_tuple_of : Stmt := top 6
abbrev s_is_name : Stmt := top 7
abbrev s_is_reward : Stmt := top 16
abbrev s_checked_list : Stmt := top 17
abbrev s_check_points : Stmt := top 20
abbrev s_best_rows : Stmt := top 21
abbrev s_best_discount : Stmt := top 22
abbrev s_dominated : Stmt := top 24
abbrev s__law_taken : Stmt := top 26
abbrev s__law_pick : Stmt := top 27
abbrev s__law_alike : Stmt := top 28
abbrev s__law_name : Stmt := top 29
abbrev s__law_names : Stmt := top 30
abbrev s__law_list : Stmt := top 31
abbrev s__law_given : Stmt := top 32
abbrev s__law_best : Stmt := top 33
abbrev s_law : Stmt := top 34
def fes : List FE := [⟨"is_integer", 1, f_is_integer.dfl⟩, ⟨"is_within", 3, f_is_within.dfl⟩, ⟨"is_row", 1, f_is_row.dfl⟩, ⟨"is_tuple_of", 2, f_is_tuple_of.dfl⟩, ⟨"is_name", 1, f_is_name.dfl⟩, ⟨"is_reward", 1, f_is_reward.dfl⟩, ⟨"checked_list", 1, f_checked_list.dfl⟩, ⟨"check_points", 1, f_check_points.dfl⟩, ⟨"best_rows", 2, f_best_rows.dfl⟩, ⟨"best_discount", 2, f_best_discount.dfl⟩, ⟨"dominated", 1, f_dominated.dfl⟩, ⟨"_law_taken", 2, f__law_taken.dfl⟩, ⟨"_law_pick", 2, f__law_pick.dfl⟩, ⟨"_law_alike", 2, f__law_alike.dfl⟩, ⟨"_law_name", 1, f__law_name.dfl⟩, ⟨"_law_names", 2, f__law_names.dfl⟩, ⟨"_law_list", 1, f__law_list.dfl⟩, ⟨"_law_given", 2, f__law_given.dfl⟩, ⟨"_law_best", 2, f__law_best.dfl⟩, ⟨"law", 1, f_law.dfl⟩]
def glo : List (Str × D) := [("LETTERS", (.str "abcdefghijklmnopqrstuvwxyz")), ("MOST_DISCOUNT", (.int 10000)), ("MOST_NAME", (.int 8)), ("MOST_POINTS", (.int 500)), ("MOST_PRICE", (.int 200)), ("MOST_REWARDS", (.int 12))]
def free : List Str := ["all", "bool", "dict", "enumerate", "int", "isinstance", "len", "list", "max", "min", "range", "sorted", "str", "tuple"]
def N_is_integer : List Str := ["thing"]
def N_is_within : List Str := ["thing", "least", "most"]
def N_is_row : List Str := ["thing"]
def N_is_tuple_of : List Str := ["thing", "many"]
def N_is_name : List Str := ["thing", "sign"]
def N_is_reward : List Str := ["thing"]
def N_checked_list : List Str := ["rewards", "names", "index", "reward"]
def N_check_points : List Str := ["points"]
def N_best_rows : List Str := ["rewards", "most", "best", "last", "points", "value", "taken", "reward"]
def N_best_discount : List Str := ["rewards", "points", "checked"]
def N_dominated : List Str := ["rewards", "checked", "found", "name", "price", "discount", "others", "reward"]
def N__law_taken : List Str := ["row", "many", "found", "cell"]
def N__law_pick : List Str := ["row", "some"]
def N__law_alike : List Str := ["found", "due", "k", "key"]
def N__law_name : List Str := ["row", "many", "k"]
def N__law_names : List Str := ["row", "many", "found", "k", "name", "one"]
def N__law_list : List Str := ["row", "found", "wide", "name", "price", "discount"]
def N__law_given : List Str := ["row", "things"]
def N__law_best : List Str := ["rewards", "most", "found", "points", "some", "one"]
def N_law : List Str := ["script", "row", "turn", "rewards", "name", "one", "other", "price", "made", "given", "due", "discount", "others", "again", "told", "left", "points", "values", "reward"]
theorem c_is_integer : (ckS b_is_integer).ss ⟨N_is_integer, defScope s_is_integer, N_is_integer, fes, glo, free⟩ (defBody s_is_integer) = true := by decide +kernel
theorem c_is_within : (ckS b_is_within).ss ⟨N_is_within, defScope s_is_within, N_is_within, fes, glo, free⟩ (defBody s_is_within) = true := by decide +kernel
theorem c_is_row : (ckS b_is_row).ss ⟨N_is_row, defScope s_is_row, N_is_row, fes, glo, free⟩ (defBody s_is_row) = true := by decide +kernel
theorem c_is_tuple_of : (ckS b_is_tuple_of).ss ⟨N_is_tuple_of, defScope s_is_tuple_of, N_is_tuple_of, fes, glo, free⟩ (defBody s_is_tuple_of) = true := by decide +kernel
theorem c_is_name : (ckS b_is_name).ss ⟨N_is_name, defScope s_is_name, N_is_name, fes, glo, free⟩ (defBody s_is_name) = true := by decide +kernel
theorem c_is_reward : (ckS b_is_reward).ss ⟨N_is_reward, defScope s_is_reward, N_is_reward, fes, glo, free⟩ (defBody s_is_reward) = true := by decide +kernel
theorem c_checked_list : (ckS b_checked_list).ss ⟨N_checked_list, defScope s_checked_list, N_checked_list, fes, glo, free⟩ (defBody s_checked_list) = true := by decide +kernel
theorem c_check_points : (ckS b_check_points).ss ⟨N_check_points, defScope s_check_points, N_check_points, fes, glo, free⟩ (defBody s_check_points) = true := by decide +kernel
theorem c_best_rows : (ckS b_best_rows).ss ⟨N_best_rows, defScope s_best_rows, N_best_rows, fes, glo, free⟩ (defBody s_best_rows) = true := by decide +kernel
theorem c_best_discount : (ckS b_best_discount).ss ⟨N_best_discount, defScope s_best_discount, N_best_discount, fes, glo, free⟩ (defBody s_best_discount) = true := by decide +kernel
theorem c_dominated : (ckS b_dominated).ss ⟨N_dominated, defScope s_dominated, N_dominated, fes, glo, free⟩ (defBody s_dominated) = true := by decide +kernel
theorem c__law_taken : (ckS b__law_taken).ss ⟨N__law_taken, defScope s__law_taken, N__law_taken, fes, glo, free⟩ (defBody s__law_taken) = true := by decide +kernel
theorem c__law_pick : (ckS b__law_pick).ss ⟨N__law_pick, defScope s__law_pick, N__law_pick, fes, glo, free⟩ (defBody s__law_pick) = true := by decide +kernel
theorem c__law_alike : (ckS b__law_alike).ss ⟨N__law_alike, defScope s__law_alike, N__law_alike, fes, glo, free⟩ (defBody s__law_alike) = true := by decide +kernel
theorem c__law_name : (ckS b__law_name).ss ⟨N__law_name, defScope s__law_name, N__law_name, fes, glo, free⟩ (defBody s__law_name) = true := by decide +kernel
theorem c__law_names : (ckS b__law_names).ss ⟨N__law_names, defScope s__law_names, N__law_names, fes, glo, free⟩ (defBody s__law_names) = true := by decide +kernel
theorem c__law_list : (ckS b__law_list).ss ⟨N__law_list, defScope s__law_list, N__law_list, fes, glo, free⟩ (defBody s__law_list) = true := by decide +kernel
theorem c__law_given : (ckS b__law_given).ss ⟨N__law_given, defScope s__law_given, N__law_given, fes, glo, free⟩ (defBody s__law_given) = true := by decide +kernel
theorem c__law_best : (ckS b__law_best).ss ⟨N__law_best, defScope s__law_best, N__law_best, fes, glo, free⟩ (defBody s__law_best) = true := by decide +kernel
theorem c_law : (ckS b_law).ss ⟨N_law, defScope s_law, N_law, fes, glo, free⟩ (defBody s_law) = true := by decide +kernel
end Pd
namespace Pd
open PySem PySem.Spec L2
theorem ev_is_integer (n : Nat) (M : Mem) (i : Int) : evF Pr (n + 1) i_is_integer [.d (.int i)] M = .ok (.d (.bl true)) M := (evF_of rfl rfl rfl rfl).trans fin_d0
theorem ev_is_within (n : Nat) (M : Mem) (i a b : Int) : evF Pr (n + 2) i_is_within [.d (.int i), .d (.int a), .d (.int b)] M = .ok (.d (.bl (decide (a ≤ i) && decide (i ≤ b)))) M := by
  refine (evF_of (vs := [some (.d (.int i)), some (.d (.int a)), some (.d (.int b))]) (r := .ret (.d (.bl (decide (a ≤ i) && decide (i ≤ b)))) M) rfl rfl rfl ?_).trans fin_d0
  simp only [f_is_within, b_is_within, ev_is_integer, dv_var, dt_var, di_var, dv_k, dt_k, di_k, dv_g, dt_g, di_g, dv_op1, dt_op1, di_op1, dv_op2, dt_op2, di_op2, dv_chain, dt_chain, di_chain, dv_ife, dt_ife, di_ife, dv_tup, dt_tup, di_tup, dv_lst, dt_lst, di_lst, dv_idx, dt_idx, di_idx, dv_sl, dt_sl, di_sl, dv_bi, dt_bi, di_bi, dv_bm, dt_bm, di_bm, dv_call, dt_call, di_call, dv_isi, dt_isi, di_isi, dv_and, dv_or, dv_not, dt_and, dt_or, dt_not, da_nil, da_cons, dp_nil, dp_cons, di_rng, di_enum, di_lc, dt_lc, es_skip, es_seq, es_cell, es_par, es_setix, es_ex, es_ret, es_retn, es_ite, es_brk, es_cnt, es_setN, es_setT, bind_ok', thenS_ok, then_nx, then_ret, then_brk, then_cnt, lift_some, R.lift, der, op1, op2, opII, bool2, cmpI, asB, frz, D.truth, isTrueE, optI, Option.bind, Option.map, List.getElem?_cons_zero, List.getElem?_cons_succ, if_true, ite_true, ite_false, Bool.false_eq_true, toD, toDs, ders, decide_true, decide_false, beq_self_eq_true, isi, D.plainTy, Ty.has, List.any_cons, List.any_nil, Bool.or_false, Bool.false_or, Bool.true_or, Bool.or_true, Bool.not_true, Bool.not_false, List.length_cons, List.length_nil, bi, idx, ixD, List.set_cons_zero, List.set_cons_succ, bindT, bindTs, setAll, asCell, iterOf, Nat.reduceLT, Nat.reduceLeDiff, Nat.reduceAdd, Nat.zero_add, Bool.and_self, Bool.and_true, Bool.true_and, Bool.and_false, Bool.false_and]
  by_cases h : a ≤ i <;> by_cases k : i ≤ b <;> simp [h, k, dv_var, dt_var, di_var, dv_k, dt_k, di_k, dv_g, dt_g, di_g, dv_op1, dt_op1, di_op1, dv_op2, dt_op2, di_op2, dv_chain, dt_chain, di_chain, dv_ife, dt_ife, di_ife, dv_tup, dt_tup, di_tup, dv_lst, dt_lst, di_lst, dv_idx, dt_idx, di_idx, dv_sl, dt_sl, di_sl, dv_bi, dt_bi, di_bi, dv_bm, dt_bm, di_bm, dv_call, dt_call, di_call, dv_isi, dt_isi, di_isi, dv_and, dv_or, dv_not, dt_and, dt_or, dt_not, da_nil, da_cons, dp_nil, dp_cons, di_rng, di_enum, di_lc, dt_lc, es_skip, es_seq, es_cell, es_par, es_setix, es_ex, es_ret, es_retn, es_ite, es_brk, es_cnt, es_setN, es_setT, bind_ok', thenS_ok, then_nx, then_ret, then_brk, then_cnt, lift_some, R.lift, der, op1, op2, opII, bool2, cmpI, asB, frz, D.truth, isTrueE, optI, Option.bind, Option.map, List.getElem?_cons_zero, List.getElem?_cons_succ, if_true, ite_true, ite_false, Bool.false_eq_true, toD, toDs, ders, decide_true, decide_false, beq_self_eq_true, isi, D.plainTy, Ty.has, List.any_cons, List.any_nil, Bool.or_false, Bool.false_or, Bool.true_or, Bool.or_true, Bool.not_true, Bool.not_false, List.length_cons, List.length_nil, bi, idx, ixD, List.set_cons_zero, List.set_cons_succ, bindT, bindTs, setAll, asCell, iterOf, Nat.reduceLT, Nat.reduceLeDiff, Nat.reduceAdd, Nat.zero_add, Bool.and_self, Bool.and_true, Bool.true_and, Bool.and_false, Bool.false_and]
theorem ev_is_rowL (n : Nat) (M : Mem) (xs : List D) : evF Pr (n + 1) i_is_row [.d (.lst xs)] M = .ok (.d (.bl true)) M := (evF_of rfl rfl rfl rfl).trans fin_d0
theorem ev_is_rowT (n : Nat) (M : Mem) (xs : List D) : evF Pr (n + 1) i_is_row [.d (.tup xs)] M = .ok (.d (.bl true)) M := (evF_of rfl rfl rfl rfl).trans fin_d0
theorem ev_is_tuple_of (n : Nat) (M : Mem) (xs : List D) (k : Int) : evF Pr (n + 1) i_is_tuple_of [.d (.tup xs), .d (.int k)] M = .ok (.d (.bl ((xs.length : Int) == k))) M := (evF_of rfl rfl rfl rfl).trans fin_d0
def abc : Str := "abcdefghijklmnopqrstuvwxyz"
def isLow (c : Nat) : Bool := decide (97 ≤ c) && decide (c ≤ 122)
theorem low_in : ((List.range' 97 26).all fun c => inStr ⟨#[c]⟩ abc) = true := by decide +kernel
theorem low_abc {c : Nat} (h : isLow c = true) : inStr ⟨#[c]⟩ abc = true := by
  have h : (decide (97 ≤ c) && decide (c ≤ 122)) = true := h
  simp only [Bool.and_eq_true, decide_eq_true_eq] at h
  exact List.all_eq_true.mp low_in c (List.mem_range'_1.mpr ⟨h.1, by omega⟩)
def goodName (s : Str) : Bool := decide (1 ≤ s.length) && (decide (s.length ≤ 8) && s.cps.toList.all isLow)
theorem ev_is_name (n : Nat) (M : Mem) (s : Str) (h : goodName s = true) : evF Pr (n + 1) i_is_name [.d (.str s)] M = .ok (.d (.bl true)) M := by
  unfold goodName at h
  simp only [Bool.and_eq_true, decide_eq_true_eq] at h
  obtain ⟨h1, h2, h3⟩ := h
  refine (evF_of (vs := [some (.d (.str s)), none]) (r := .ret (.d (.bl true)) M) rfl rfl rfl ?_).trans fin_d0
  have hl := lc_map (t := .n 1) (g := []) (c := fun _ M => .ok true M) (e := (den (evF Pr n) (.op2 .inn (.var 1) (.g "LETTERS" (.str "abcdefghijklmnopqrstuvwxyz")))).v) (vs := [some (.d (.str s)), none]) (M := M) (fun _ => .bl true) (fun _ => true) rfl (xs := chars s) (by
    intro x hx
    obtain ⟨c, hc, ex⟩ := List.mem_map.mp hx
    subst ex
    have hin := low_abc (List.all_eq_true.mp h3 c hc)
    refine ⟨[some (.d (.str s)), some (.d (.str ⟨#[c]⟩))], rfl, rfl, fun _ => ⟨.d (.bl true), ?_, rfl⟩⟩
    simp only [dv_var, dt_var, di_var, dv_k, dt_k, di_k, dv_g, dt_g, di_g, dv_op1, dt_op1, di_op1, dv_op2, dt_op2, di_op2, dv_chain, dt_chain, di_chain, dv_ife, dt_ife, di_ife, dv_tup, dt_tup, di_tup, dv_lst, dt_lst, di_lst, dv_idx, dt_idx, di_idx, dv_sl, dt_sl, di_sl, dv_bi, dt_bi, di_bi, dv_bm, dt_bm, di_bm, dv_call, dt_call, di_call, dv_isi, dt_isi, di_isi, dv_and, dv_or, dv_not, dt_and, dt_or, dt_not, da_nil, da_cons, dp_nil, dp_cons, di_rng, di_enum, di_lc, dt_lc, es_skip, es_seq, es_cell, es_par, es_setix, es_ex, es_ret, es_retn, es_ite, es_brk, es_cnt, es_setN, es_setT, bind_ok', thenS_ok, then_nx, then_ret, then_brk, then_cnt, lift_some, R.lift, der, op1, op2, opII, bool2, cmpI, asB, frz, D.truth, isTrueE, optI, Option.bind, Option.map, List.getElem?_cons_zero, List.getElem?_cons_succ, if_true, ite_true, ite_false, Bool.false_eq_true, toD, toDs, ders, decide_true, decide_false, beq_self_eq_true, isi, D.plainTy, Ty.has, List.any_cons, List.any_nil, Bool.or_false, Bool.false_or, Bool.true_or, Bool.or_true, Bool.not_true, Bool.not_false, List.length_cons, List.length_nil, bi, idx, ixD, List.set_cons_zero, List.set_cons_succ, bindT, bindTs, setAll, asCell, iterOf, Nat.reduceLT, Nat.reduceLeDiff, Nat.reduceAdd, Nat.zero_add, Bool.and_self, Bool.and_true, Bool.true_and, Bool.and_false, Bool.false_and, abc] at hin ⊢
    rw [hin])
  have hc := lc_of (own := [1]) (it := .var 0) (c := .nil) (C := evF Pr n) (vs := [some (.d (.str s)), none]) (M := M) (xs := chars s) (g := []) rfl hl
  obtain ⟨bs, e1, e2⟩ := bls_true (xs := ((chars s).filter fun _ => true).map fun _ => D.bl true) (by
    intro x hx
    obtain ⟨y, _, e⟩ := List.mem_map.mp hx
    exact e.symm)
  have c1 : decide ((1 : Int) ≤ (s.length : Int)) = true := decide_eq_true (by omega)
  have c2 : decide ((s.length : Int) ≤ 8) = true := decide_eq_true (by omega)
  simp only [f_is_name, b_is_name, hc, e1, e2, dv_var, dt_var, di_var, dv_k, dt_k, di_k, dv_g, dt_g, di_g, dv_op1, dt_op1, di_op1, dv_op2, dt_op2, di_op2, dv_chain, dt_chain, di_chain, dv_ife, dt_ife, di_ife, dv_tup, dt_tup, di_tup, dv_lst, dt_lst, di_lst, dv_idx, dt_idx, di_idx, dv_sl, dt_sl, di_sl, dv_bi, dt_bi, di_bi, dv_bm, dt_bm, di_bm, dv_call, dt_call, di_call, dv_isi, dt_isi, di_isi, dv_and, dv_or, dv_not, dt_and, dt_or, dt_not, da_nil, da_cons, dp_nil, dp_cons, di_rng, di_enum, di_lc, dt_lc, es_skip, es_seq, es_cell, es_par, es_setix, es_ex, es_ret, es_retn, es_ite, es_brk, es_cnt, es_setN, es_setT, bind_ok', thenS_ok, then_nx, then_ret, then_brk, then_cnt, lift_some, R.lift, der, op1, op2, opII, bool2, cmpI, asB, frz, D.truth, isTrueE, optI, Option.bind, Option.map, List.getElem?_cons_zero, List.getElem?_cons_succ, if_true, ite_true, ite_false, Bool.false_eq_true, toD, toDs, ders, decide_true, decide_false, beq_self_eq_true, isi, D.plainTy, Ty.has, List.any_cons, List.any_nil, Bool.or_false, Bool.false_or, Bool.true_or, Bool.or_true, Bool.not_true, Bool.not_false, List.length_cons, List.length_nil, bi, idx, ixD, List.set_cons_zero, List.set_cons_succ, bindT, bindTs, setAll, asCell, iterOf, Nat.reduceLT, Nat.reduceLeDiff, Nat.reduceAdd, Nat.zero_add, Bool.and_self, Bool.and_true, Bool.true_and, Bool.and_false, Bool.false_and, c1, c2]
abbrev Rwd : Type := Str × Int × Int
def rD (r : Rwd) : D := .tup [.str r.1, .int r.2.1, .int r.2.2]
def goodR (r : Rwd) : Bool := goodName r.1 && ((decide (1 ≤ r.2.1) && decide (r.2.1 ≤ 200)) && (decide (0 ≤ r.2.2) && decide (r.2.2 ≤ 10000)))
theorem ev_is_reward (n : Nat) (M : Mem) (r : Rwd) (h : goodR r = true) : evF Pr (n + 3) i_is_reward [.d (rD r)] M = .ok (.d (.bl true)) M := by
  unfold goodR at h
  rw [Bool.and_eq_true, Bool.and_eq_true] at h
  obtain ⟨h1, h2, h3⟩ := h
  refine (evF_of (vs := [some (.d (rD r))]) (r := .ret (.d (.bl true)) M) rfl rfl rfl ?_).trans fin_d0
  have e1 : ((([D.str r.1, .int r.2.1, .int r.2.2].length : Nat) : Int) == 3) = true := rfl
  have a0 : atI [D.str r.1, .int r.2.1, .int r.2.2] 0 = some (.str r.1) := rfl
  have a1 : atI [D.str r.1, .int r.2.1, .int r.2.2] 1 = some (.int r.2.1) := rfl
  have a2 : atI [D.str r.1, .int r.2.1, .int r.2.2] 2 = some (.int r.2.2) := rfl
  have n1 := ev_is_name (n + 1) M r.1 h1
  have n2 := ev_is_tuple_of (n + 1) M [D.str r.1, .int r.2.1, .int r.2.2] 3
  rw [e1] at n2
  have n3 := ev_is_within n M r.2.1 1 200
  have n4 := ev_is_within n M r.2.2 0 10000
  rw [h2] at n3
  rw [h3] at n4
  simp only [f_is_reward, b_is_reward, rD, n1, n2, n3, n4, a0, a1, a2, dv_var, dt_var, di_var, dv_k, dt_k, di_k, dv_g, dt_g, di_g, dv_op1, dt_op1, di_op1, dv_op2, dt_op2, di_op2, dv_chain, dt_chain, di_chain, dv_ife, dt_ife, di_ife, dv_tup, dt_tup, di_tup, dv_lst, dt_lst, di_lst, dv_idx, dt_idx, di_idx, dv_sl, dt_sl, di_sl, dv_bi, dt_bi, di_bi, dv_bm, dt_bm, di_bm, dv_call, dt_call, di_call, dv_isi, dt_isi, di_isi, dv_and, dv_or, dv_not, dt_and, dt_or, dt_not, da_nil, da_cons, dp_nil, dp_cons, di_rng, di_enum, di_lc, dt_lc, es_skip, es_seq, es_cell, es_par, es_setix, es_ex, es_ret, es_retn, es_ite, es_brk, es_cnt, es_setN, es_setT, bind_ok', thenS_ok, then_nx, then_ret, then_brk, then_cnt, lift_some, R.lift, der, op1, op2, opII, bool2, cmpI, asB, frz, D.truth, isTrueE, optI, Option.bind, Option.map, List.getElem?_cons_zero, List.getElem?_cons_succ, if_true, ite_true, ite_false, Bool.false_eq_true, toD, toDs, ders, decide_true, decide_false, beq_self_eq_true, isi, D.plainTy, Ty.has, List.any_cons, List.any_nil, Bool.or_false, Bool.false_or, Bool.true_or, Bool.or_true, Bool.not_true, Bool.not_false, List.length_cons, List.length_nil, bi, idx, ixD, List.set_cons_zero, List.set_cons_succ, bindT, bindTs, setAll, asCell, iterOf, Nat.reduceLT, Nat.reduceLeDiff, Nat.reduceAdd, Nat.zero_add, Bool.and_self, Bool.and_true, Bool.true_and, Bool.and_false, Bool.false_and]
def goodRs (rs : List Rwd) : Prop := 1 ≤ rs.length ∧ rs.length ≤ 12 ∧ (∀ r ∈ rs, goodR r = true) ∧ (rs.map (·.1)).Nodup
abbrev body_checked : S := (.seq (.ite (.or (.not (.call i_is_reward (.cons (.var 3) .nil))) (.op2 .inn (.idx (.var 3) (.k (.int 0))) (.var 1))) (.seq .nev .skip) .skip) (.seq (.ex (.bm .append (.var 1) (.cons (.idx (.var 3) (.k (.int 0))) .nil))) .skip))
theorem loop_checked (n : Nat) (M : Mem) (x : Vl) : ∀ (todo done : List Rwd) (v2 v3 : Option Vl) (k : Nat), (∀ r ∈ todo, goodR r = true) → ((done ++ todo).map (·.1)).Nodup → (done ++ todo).length ≤ 12 →
    ∃ w2 w3, forGo (.t (.tc (.n 2) (.tc (.n 3) .t0))) [] (evS ⟨evF Pr (n + 3), Pr.W, Pr.X⟩ body_checked) (enumFrom k (todo.map rD)) [some x, some (.loc M.length), v2, v3] (M ++ [⟨true, .lst ((done.map (·.1)).map D.str)⟩])
      = .nx [some x, some (.loc M.length), w2, w3] (M ++ [⟨true, .lst (((done ++ todo).map (·.1)).map D.str)⟩])
  | [], done, v2, v3, k, _, _, _ => ⟨v2, v3, by
    rw [List.append_nil]
    rfl⟩
  | r :: todo, done, v2, v3, k, hg, hn, hl => by
    obtain ⟨w2, w3, ih⟩ := loop_checked n M x todo (done ++ [r]) (some (.d (.int k))) (some (.d (rD r))) (k + 1) (fun y hy => hg y (List.mem_cons_of_mem _ hy)) (by rw [List.append_assoc]; exact hn) (by rw [List.append_assoc]; exact hl)
    refine ⟨w2, w3, ?_⟩
    have h1 := ev_is_reward n (M ++ [⟨true, .lst ((done.map (·.1)).map D.str)⟩]) r (hg r List.mem_cons_self)
    have a0 : atI [D.str r.1, .int r.2.1, .int r.2.2] 0 = some (.str r.1) := rfl
    have ni : r.1 ∉ done.map (·.1) := by
      rw [List.map_append, List.map_cons, List.nodup_append] at hn
      exact fun h => hn.2.2 _ h _ List.mem_cons_self rfl
    have e1 := any_strs r.1 (done.map (·.1))
    rw [str_not_in ni] at e1
    have e2 : D.flat D.deep (.str r.1) = true := by simp only [D.flat]
    have e3 := flats_strs D.deep (done.map (·.1))
    have hlen : ((done.map (·.1)).map D.str).length < sizeLine := len_lt (by rw [List.length_map, List.length_map]; rw [List.length_append] at hl; omega)
    have ec : (done.map (·.1)).map D.str ++ [D.str r.1] = ((done ++ [r]).map (·.1)).map D.str := by simp
    have e4 : bmTy .append (some (.lst ((done.map (·.1)).map D.str))) = true := rfl
    rw [List.append_assoc, List.singleton_append] at ih
    rw [List.map_cons]
    refine for_nx (v1 := [some x, some (.loc M.length), some (.d (.int k)), some (.d (rD r))]) rfl rfl ?_ ih
    rw [← ec]
    simp only [rD] at h1
    simp only [body_checked, rD, h1, a0, e1, e2, e3, own_get0, own_set0, e4, Bm.mut, mutate, bmM, hlen, dv_var, dt_var, di_var, dv_k, dt_k, di_k, dv_g, dt_g, di_g, dv_op1, dt_op1, di_op1, dv_op2, dt_op2, di_op2, dv_chain, dt_chain, di_chain, dv_ife, dt_ife, di_ife, dv_tup, dt_tup, di_tup, dv_lst, dt_lst, di_lst, dv_idx, dt_idx, di_idx, dv_sl, dt_sl, di_sl, dv_bi, dt_bi, di_bi, dv_bm, dt_bm, di_bm, dv_call, dt_call, di_call, dv_isi, dt_isi, di_isi, dv_and, dv_or, dv_not, dt_and, dt_or, dt_not, da_nil, da_cons, dp_nil, dp_cons, di_rng, di_enum, di_lc, dt_lc, es_skip, es_seq, es_cell, es_par, es_setix, es_ex, es_ret, es_retn, es_ite, es_brk, es_cnt, es_setN, es_setT, bind_ok', thenS_ok, then_nx, then_ret, then_brk, then_cnt, lift_some, R.lift, der, op1, op2, opII, bool2, cmpI, asB, frz, D.truth, isTrueE, optI, Option.bind, Option.map, List.getElem?_cons_zero, List.getElem?_cons_succ, if_true, ite_true, ite_false, Bool.false_eq_true, toD, toDs, ders, decide_true, decide_false, beq_self_eq_true, isi, D.plainTy, Ty.has, List.any_cons, List.any_nil, Bool.or_false, Bool.false_or, Bool.true_or, Bool.or_true, Bool.not_true, Bool.not_false, List.length_cons, List.length_nil, bi, idx, ixD, List.set_cons_zero, List.set_cons_succ, bindT, bindTs, setAll, asCell, iterOf, Nat.reduceLT, Nat.reduceLeDiff, Nat.reduceAdd, Nat.zero_add, Bool.and_self, Bool.and_true, Bool.true_and, Bool.and_false, Bool.false_and]
theorem ev_checked (n : Nat) (M : Mem) (rs : List Rwd) (isT : Bool) (h : goodRs rs) : evF Pr (n + 4) i_checked_list [.d (if isT then .tup (rs.map rD) else .lst (rs.map rD))] M = .ok (.d (.tup (rs.map rD))) M := by
  obtain ⟨h1, h2, h3, h4⟩ := h
  have c1 : decide ((1 : Int) ≤ ((rs.map rD).length : Int)) = true := decide_eq_true (by rw [List.length_map]; omega)
  have c2 : decide (((rs.map rD).length : Int) ≤ 12) = true := decide_eq_true (by rw [List.length_map]; omega)
  cases isT with
  | true =>
    obtain ⟨w2, w3, hl⟩ := loop_checked n M (.d (.tup (rs.map rD))) rs [] none none 0 h3 h4 h2
    refine (evF_of (vs := [some (.d (.tup (rs.map rD))), none, none, none]) (r := .ret (.d (.tup (rs.map rD))) (M ++ [⟨true, .lst ((rs.map (·.1)).map D.str)⟩])) rfl rfl rfl ?_).trans fin_d
    have r1 := ev_is_rowT (n + 2) M (rs.map rD)
    refine seq_nx (v1 := [some (.d (.tup (rs.map rD))), none, none, none]) (M1 := M) (by simp only [r1, c1, c2, dv_var, dt_var, di_var, dv_k, dt_k, di_k, dv_g, dt_g, di_g, dv_op1, dt_op1, di_op1, dv_op2, dt_op2, di_op2, dv_chain, dt_chain, di_chain, dv_ife, dt_ife, di_ife, dv_tup, dt_tup, di_tup, dv_lst, dt_lst, di_lst, dv_idx, dt_idx, di_idx, dv_sl, dt_sl, di_sl, dv_bi, dt_bi, di_bi, dv_bm, dt_bm, di_bm, dv_call, dt_call, di_call, dv_isi, dt_isi, di_isi, dv_and, dv_or, dv_not, dt_and, dt_or, dt_not, da_nil, da_cons, dp_nil, dp_cons, di_rng, di_enum, di_lc, dt_lc, es_skip, es_seq, es_cell, es_par, es_setix, es_ex, es_ret, es_retn, es_ite, es_brk, es_cnt, es_setN, es_setT, bind_ok', thenS_ok, then_nx, then_ret, then_brk, then_cnt, lift_some, R.lift, der, op1, op2, opII, bool2, cmpI, asB, frz, D.truth, isTrueE, optI, Option.bind, Option.map, List.getElem?_cons_zero, List.getElem?_cons_succ, if_true, ite_true, ite_false, Bool.false_eq_true, toD, toDs, ders, decide_true, decide_false, beq_self_eq_true, isi, D.plainTy, Ty.has, List.any_cons, List.any_nil, Bool.or_false, Bool.false_or, Bool.true_or, Bool.or_true, Bool.not_true, Bool.not_false, List.length_cons, List.length_nil, bi, idx, ixD, List.set_cons_zero, List.set_cons_succ, bindT, bindTs, setAll, asCell, iterOf, Nat.reduceLT, Nat.reduceLeDiff, Nat.reduceAdd, Nat.zero_add, Bool.and_self, Bool.and_true, Bool.true_and, Bool.and_false, Bool.false_and]) ?_
    refine seq_nx (v1 := [some (.d (.tup (rs.map rD))), some (.loc M.length), none, none]) (M1 := M ++ [⟨true, .lst []⟩]) rfl ?_
    refine seq_nx (for_of (xs := enumFrom 0 (rs.map rD)) (g := []) rfl hl) ?_
    rfl
  | false =>
    obtain ⟨w2, w3, hl⟩ := loop_checked n M (.d (.lst (rs.map rD))) rs [] none none 0 h3 h4 h2
    refine (evF_of (vs := [some (.d (.lst (rs.map rD))), none, none, none]) (r := .ret (.d (.tup (rs.map rD))) (M ++ [⟨true, .lst ((rs.map (·.1)).map D.str)⟩])) rfl rfl rfl ?_).trans fin_d
    have r1 := ev_is_rowL (n + 2) M (rs.map rD)
    refine seq_nx (v1 := [some (.d (.lst (rs.map rD))), none, none, none]) (M1 := M) (by simp only [r1, c1, c2, dv_var, dt_var, di_var, dv_k, dt_k, di_k, dv_g, dt_g, di_g, dv_op1, dt_op1, di_op1, dv_op2, dt_op2, di_op2, dv_chain, dt_chain, di_chain, dv_ife, dt_ife, di_ife, dv_tup, dt_tup, di_tup, dv_lst, dt_lst, di_lst, dv_idx, dt_idx, di_idx, dv_sl, dt_sl, di_sl, dv_bi, dt_bi, di_bi, dv_bm, dt_bm, di_bm, dv_call, dt_call, di_call, dv_isi, dt_isi, di_isi, dv_and, dv_or, dv_not, dt_and, dt_or, dt_not, da_nil, da_cons, dp_nil, dp_cons, di_rng, di_enum, di_lc, dt_lc, es_skip, es_seq, es_cell, es_par, es_setix, es_ex, es_ret, es_retn, es_ite, es_brk, es_cnt, es_setN, es_setT, bind_ok', thenS_ok, then_nx, then_ret, then_brk, then_cnt, lift_some, R.lift, der, op1, op2, opII, bool2, cmpI, asB, frz, D.truth, isTrueE, optI, Option.bind, Option.map, List.getElem?_cons_zero, List.getElem?_cons_succ, if_true, ite_true, ite_false, Bool.false_eq_true, toD, toDs, ders, decide_true, decide_false, beq_self_eq_true, isi, D.plainTy, Ty.has, List.any_cons, List.any_nil, Bool.or_false, Bool.false_or, Bool.true_or, Bool.or_true, Bool.not_true, Bool.not_false, List.length_cons, List.length_nil, bi, idx, ixD, List.set_cons_zero, List.set_cons_succ, bindT, bindTs, setAll, asCell, iterOf, Nat.reduceLT, Nat.reduceLeDiff, Nat.reduceAdd, Nat.zero_add, Bool.and_self, Bool.and_true, Bool.true_and, Bool.and_false, Bool.false_and]) ?_
    refine seq_nx (v1 := [some (.d (.lst (rs.map rD))), some (.loc M.length), none, none]) (M1 := M ++ [⟨true, .lst []⟩]) rfl ?_
    refine seq_nx (for_of (xs := enumFrom 0 (rs.map rD)) (g := []) rfl hl) ?_
    rfl
theorem ev_check_points (n : Nat) (M : Mem) (p : Int) (h : 0 ≤ p) (h' : p ≤ 500) : evF Pr (n + 3) i_check_points [.d (.int p)] M = .ok (.d .non) M := by
  refine (evF_of (vs := [some (.d (.int p))]) (r := .nx [some (.d (.int p))] M) rfl rfl rfl ?_).trans fin_nx0
  have n3 := ev_is_within n M p 0 500
  rw [decide_eq_true h, decide_eq_true h'] at n3
  simp only [f_check_points, b_check_points, n3, dv_var, dt_var, di_var, dv_k, dt_k, di_k, dv_g, dt_g, di_g, dv_op1, dt_op1, di_op1, dv_op2, dt_op2, di_op2, dv_chain, dt_chain, di_chain, dv_ife, dt_ife, di_ife, dv_tup, dt_tup, di_tup, dv_lst, dt_lst, di_lst, dv_idx, dt_idx, di_idx, dv_sl, dt_sl, di_sl, dv_bi, dt_bi, di_bi, dv_bm, dt_bm, di_bm, dv_call, dt_call, di_call, dv_isi, dt_isi, di_isi, dv_and, dv_or, dv_not, dt_and, dt_or, dt_not, da_nil, da_cons, dp_nil, dp_cons, di_rng, di_enum, di_lc, dt_lc, es_skip, es_seq, es_cell, es_par, es_setix, es_ex, es_ret, es_retn, es_ite, es_brk, es_cnt, es_setN, es_setT, bind_ok', thenS_ok, then_nx, then_ret, then_brk, then_cnt, lift_some, R.lift, der, op1, op2, opII, bool2, cmpI, asB, frz, D.truth, isTrueE, optI, Option.bind, Option.map, List.getElem?_cons_zero, List.getElem?_cons_succ, if_true, ite_true, ite_false, Bool.false_eq_true, toD, toDs, ders, decide_true, decide_false, beq_self_eq_true, isi, D.plainTy, Ty.has, List.any_cons, List.any_nil, Bool.or_false, Bool.false_or, Bool.true_or, Bool.or_true, Bool.not_true, Bool.not_false, List.length_cons, List.length_nil, bi, idx, ixD, List.set_cons_zero, List.set_cons_succ, bindT, bindTs, setAll, asCell, iterOf, Nat.reduceLT, Nat.reduceLeDiff, Nat.reduceAdd, Nat.zero_add, Bool.and_self, Bool.and_true, Bool.true_and, Bool.and_false, Bool.false_and, Bool.and_self]
end Pd
namespace Pd
open PySem PySem.Spec L2
/-- the table of a list, by the program -/
def bstep (best : List Int) (p : Int) (v : Int) (r : Rwd) : Int := if r.2.1 ≤ p ∧ v < best.getD (p - r.2.1).toNat 0 + r.2.2 then best.getD (p - r.2.1).toNat 0 + r.2.2 else v
def bnext (rs : List Rwd) (best : List Int) (p : Int) : Int := rs.foldl (bstep best p) (best.getD (p - 1).toNat 0)
def btab (rs : List Rwd) : Nat → List Int
  | 0 => [0]
  | m + 1 => btab rs m ++ [bnext rs (btab rs m) (m + 1 : Nat)]
theorem btab_len (rs : List Rwd) : ∀ m, (btab rs m).length = m + 1
  | 0 => rfl
  | m + 1 => by simp [btab, btab_len rs m]
abbrev body_in : S := (.seq (.ite (.and (.op2 .le (.idx (.var 7) (.k (.int 1))) (.var 4)) (.op2 .gt (.op2 .add (.idx (.var 2) (.op2 .sub (.var 4) (.idx (.var 7) (.k (.int 1))))) (.idx (.var 7) (.k (.int 2)))) (.var 5))) (.seq (.set (.n 5) (.op2 .add (.idx (.var 2) (.op2 .sub (.var 4) (.idx (.var 7) (.k (.int 1))))) (.idx (.var 7) (.k (.int 2))))) (.seq (.set (.n 6) (.var 7)) .skip)) .skip) .skip)
theorem loop_in (n : Nat) (M : Mem) (a0 a1 : Vl) (best : List Int) (last : List D) (p : Int) (hp : p ≤ best.length) : ∀ (todo : List Rwd) (v : Int) (t : D) (w7 : Option Vl), (∀ r ∈ todo, 1 ≤ r.2.1) →
    ∃ t' w7', forGo (.n 7) [] (evS ⟨evF Pr n, Pr.W, Pr.X⟩ body_in) (todo.map rD) [some a0, some a1, some (.loc M.length), some (.loc (M.length + 1)), some (.d (.int p)), some (.d (.int v)), some (.d t), w7] (M ++ [⟨true, .lst (best.map D.int)⟩, ⟨true, .lst last⟩])
      = .nx [some a0, some a1, some (.loc M.length), some (.loc (M.length + 1)), some (.d (.int p)), some (.d (.int (todo.foldl (bstep best p) v))), some (.d t'), w7'] (M ++ [⟨true, .lst (best.map D.int)⟩, ⟨true, .lst last⟩])
  | [], v, t, w7, _ => ⟨t, w7, rfl⟩
  | r :: todo, v, t, w7, h => by
    have e0 : atI [D.str r.1, .int r.2.1, .int r.2.2] 1 = some (.int r.2.1) := rfl
    have e1 : atI [D.str r.1, .int r.2.1, .int r.2.2] 2 = some (.int r.2.2) := rfl
    have h1 := h r List.mem_cons_self
    rw [List.map_cons, List.foldl_cons]
    by_cases c1 : r.2.1 ≤ p
    · have ea : atI (best.map D.int) (p - r.2.1) = some (.int (best.getD (p - r.2.1).toNat 0)) := at_ints (by omega) (by omega)
      by_cases c2 : v < best.getD (p - r.2.1).toNat 0 + r.2.2
      · obtain ⟨t', w7', ih⟩ := loop_in n M a0 a1 best last p hp todo (best.getD (p - r.2.1).toNat 0 + r.2.2) (rD r) (some (.d (rD r))) fun y hy => h y (List.mem_cons_of_mem _ hy)
        have eb : bstep best p v r = best.getD (p - r.2.1).toNat 0 + r.2.2 := if_pos ⟨c1, c2⟩
        rw [eb]
        refine ⟨t', w7', for_nx (v1 := [some a0, some a1, some (.loc M.length), some (.loc (M.length + 1)), some (.d (.int p)), some (.d (.int v)), some (.d t), some (.d (rD r))]) rfl rfl ?_ ih⟩
        have d1 := decide_eq_true c1
        have d2 := decide_eq_true c2
        simp only [body_in, rD, e0, e1, ea, own_get0, d1, d2, dv_var, dt_var, di_var, dv_k, dt_k, di_k, dv_g, dt_g, di_g, dv_op1, dt_op1, di_op1, dv_op2, dt_op2, di_op2, dv_chain, dt_chain, di_chain, dv_ife, dt_ife, di_ife, dv_tup, dt_tup, di_tup, dv_lst, dt_lst, di_lst, dv_idx, dt_idx, di_idx, dv_sl, dt_sl, di_sl, dv_bi, dt_bi, di_bi, dv_bm, dt_bm, di_bm, dv_call, dt_call, di_call, dv_isi, dt_isi, di_isi, dv_and, dv_or, dv_not, dt_and, dt_or, dt_not, da_nil, da_cons, dp_nil, dp_cons, di_rng, di_enum, di_lc, dt_lc, es_skip, es_seq, es_cell, es_par, es_setix, es_ex, es_ret, es_retn, es_ite, es_brk, es_cnt, es_setN, es_setT, bind_ok', thenS_ok, then_nx, then_ret, then_brk, then_cnt, lift_some, R.lift, der, op1, op2, opII, bool2, cmpI, asB, frz, D.truth, isTrueE, optI, Option.bind, Option.map, List.getElem?_cons_zero, List.getElem?_cons_succ, if_true, ite_true, ite_false, Bool.false_eq_true, toD, toDs, ders, decide_true, decide_false, beq_self_eq_true, isi, D.plainTy, Ty.has, List.any_cons, List.any_nil, Bool.or_false, Bool.false_or, Bool.true_or, Bool.or_true, Bool.not_true, Bool.not_false, List.length_cons, List.length_nil, bi, idx, ixD, List.set_cons_zero, List.set_cons_succ, bindT, bindTs, setAll, asCell, iterOf, Nat.reduceLT, Nat.reduceLeDiff, Nat.reduceAdd, Nat.zero_add, Bool.and_self, Bool.and_true, Bool.true_and, Bool.and_false, Bool.false_and]
      · obtain ⟨t', w7', ih⟩ := loop_in n M a0 a1 best last p hp todo v t (some (.d (rD r))) fun y hy => h y (List.mem_cons_of_mem _ hy)
        have eb : bstep best p v r = v := if_neg fun z => c2 z.2
        rw [eb]
        refine ⟨t', w7', for_nx (v1 := [some a0, some a1, some (.loc M.length), some (.loc (M.length + 1)), some (.d (.int p)), some (.d (.int v)), some (.d t), some (.d (rD r))]) rfl rfl ?_ ih⟩
        have d1 := decide_eq_true c1
        have d2 := decide_eq_false c2
        simp only [body_in, rD, e0, e1, ea, own_get0, d1, d2, dv_var, dt_var, di_var, dv_k, dt_k, di_k, dv_g, dt_g, di_g, dv_op1, dt_op1, di_op1, dv_op2, dt_op2, di_op2, dv_chain, dt_chain, di_chain, dv_ife, dt_ife, di_ife, dv_tup, dt_tup, di_tup, dv_lst, dt_lst, di_lst, dv_idx, dt_idx, di_idx, dv_sl, dt_sl, di_sl, dv_bi, dt_bi, di_bi, dv_bm, dt_bm, di_bm, dv_call, dt_call, di_call, dv_isi, dt_isi, di_isi, dv_and, dv_or, dv_not, dt_and, dt_or, dt_not, da_nil, da_cons, dp_nil, dp_cons, di_rng, di_enum, di_lc, dt_lc, es_skip, es_seq, es_cell, es_par, es_setix, es_ex, es_ret, es_retn, es_ite, es_brk, es_cnt, es_setN, es_setT, bind_ok', thenS_ok, then_nx, then_ret, then_brk, then_cnt, lift_some, R.lift, der, op1, op2, opII, bool2, cmpI, asB, frz, D.truth, isTrueE, optI, Option.bind, Option.map, List.getElem?_cons_zero, List.getElem?_cons_succ, if_true, ite_true, ite_false, Bool.false_eq_true, toD, toDs, ders, decide_true, decide_false, beq_self_eq_true, isi, D.plainTy, Ty.has, List.any_cons, List.any_nil, Bool.or_false, Bool.false_or, Bool.true_or, Bool.or_true, Bool.not_true, Bool.not_false, List.length_cons, List.length_nil, bi, idx, ixD, List.set_cons_zero, List.set_cons_succ, bindT, bindTs, setAll, asCell, iterOf, Nat.reduceLT, Nat.reduceLeDiff, Nat.reduceAdd, Nat.zero_add, Bool.and_self, Bool.and_true, Bool.true_and, Bool.and_false, Bool.false_and]
    · obtain ⟨t', w7', ih⟩ := loop_in n M a0 a1 best last p hp todo v t (some (.d (rD r))) fun y hy => h y (List.mem_cons_of_mem _ hy)
      have eb : bstep best p v r = v := if_neg fun z => c1 z.1
      rw [eb]
      refine ⟨t', w7', for_nx (v1 := [some a0, some a1, some (.loc M.length), some (.loc (M.length + 1)), some (.d (.int p)), some (.d (.int v)), some (.d t), some (.d (rD r))]) rfl rfl ?_ ih⟩
      have d1 := decide_eq_false c1
      simp only [body_in, rD, e0, e1, own_get0, d1, dv_var, dt_var, di_var, dv_k, dt_k, di_k, dv_g, dt_g, di_g, dv_op1, dt_op1, di_op1, dv_op2, dt_op2, di_op2, dv_chain, dt_chain, di_chain, dv_ife, dt_ife, di_ife, dv_tup, dt_tup, di_tup, dv_lst, dt_lst, di_lst, dv_idx, dt_idx, di_idx, dv_sl, dt_sl, di_sl, dv_bi, dt_bi, di_bi, dv_bm, dt_bm, di_bm, dv_call, dt_call, di_call, dv_isi, dt_isi, di_isi, dv_and, dv_or, dv_not, dt_and, dt_or, dt_not, da_nil, da_cons, dp_nil, dp_cons, di_rng, di_enum, di_lc, dt_lc, es_skip, es_seq, es_cell, es_par, es_setix, es_ex, es_ret, es_retn, es_ite, es_brk, es_cnt, es_setN, es_setT, bind_ok', thenS_ok, then_nx, then_ret, then_brk, then_cnt, lift_some, R.lift, der, op1, op2, opII, bool2, cmpI, asB, frz, D.truth, isTrueE, optI, Option.bind, Option.map, List.getElem?_cons_zero, List.getElem?_cons_succ, if_true, ite_true, ite_false, Bool.false_eq_true, toD, toDs, ders, decide_true, decide_false, beq_self_eq_true, isi, D.plainTy, Ty.has, List.any_cons, List.any_nil, Bool.or_false, Bool.false_or, Bool.true_or, Bool.or_true, Bool.not_true, Bool.not_false, List.length_cons, List.length_nil, bi, idx, ixD, List.set_cons_zero, List.set_cons_succ, bindT, bindTs, setAll, asCell, iterOf, Nat.reduceLT, Nat.reduceLeDiff, Nat.reduceAdd, Nat.zero_add, Bool.and_self, Bool.and_true, Bool.true_and, Bool.and_false, Bool.false_and]
theorem range_succ {a : Int} {k : Nat} : rangeD a (a + ((k + 1 : Nat) : Int)) = .int a :: rangeD (a + 1) (a + 1 + (k : Int)) := by
  unfold rangeD
  have e1 : (a + ((k + 1 : Nat) : Int) - a).toNat = k + 1 := by omega
  have e2 : (a + 1 + (k : Int) - (a + 1)).toNat = k := by omega
  rw [e1, e2, List.range_succ_eq_map, List.map_cons, List.map_map]
  congr 1
  · simp
  · apply List.map_congr_left
    intro i _
    simp only [Function.comp]
    congr 1
    push_cast
    omega
abbrev body_out : S := (.seq (.set (.n 5) (.idx (.var 2) (.op2 .sub (.var 4) (.k (.int 1))))) (.seq (.set (.n 6) (.k .non)) (.seq (.for (.n 7) (.var 0) body_in) (.seq (.ex (.bm .append (.var 2) (.cons (.var 5) .nil))) (.seq (.ex (.bm .append (.var 3) (.cons (.var 6) .nil))) .skip)))))
theorem loop_out (n : Nat) (M : Mem) (isT : Bool) (a1 : Vl) (rs : List Rwd) (hr : ∀ r ∈ rs, 1 ≤ r.2.1) : ∀ (k m : Nat) (last : List D) (w4 w5 w6 w7 : Option Vl), last.length = m + 1 → m + k ≤ 1000 →
    ∃ last' w4' w5' w6' w7', forGo (.n 4) [] (evS ⟨evF Pr n, Pr.W, Pr.X⟩ body_out) (rangeD ((m + 1 : Nat) : Int) (((m + 1 : Nat) : Int) + (k : Int))) [some (.d (if isT then .tup (rs.map rD) else .lst (rs.map rD))), some a1, some (.loc M.length), some (.loc (M.length + 1)), w4, w5, w6, w7] (M ++ [⟨true, .lst ((btab rs m).map D.int)⟩, ⟨true, .lst last⟩])
      = .nx [some (.d (if isT then .tup (rs.map rD) else .lst (rs.map rD))), some a1, some (.loc M.length), some (.loc (M.length + 1)), w4', w5', w6', w7'] (M ++ [⟨true, .lst ((btab rs (m + k)).map D.int)⟩, ⟨true, .lst last'⟩])
  | 0, m, last, w4, w5, w6, w7, _, _ => ⟨last, w4, w5, w6, w7, by
    have e : rangeD ((m + 1 : Nat) : Int) (((m + 1 : Nat) : Int) + ((0 : Nat) : Int)) = [] := by
      unfold rangeD
      have : (((m + 1 : Nat) : Int) + ((0 : Nat) : Int) - ((m + 1 : Nat) : Int)).toNat = 0 := by omega
      rw [this]
      rfl
    rw [e]
    exact for_end rfl⟩
  | k + 1, m, last, w4, w5, w6, w7, hl, hk => by
    have hb := btab_len rs m
    obtain ⟨t', w7', hin⟩ := loop_in n M (.d (if isT then .tup (rs.map rD) else .lst (rs.map rD))) a1 (btab rs m) last ((m + 1 : Nat) : Int) (by omega) rs ((btab rs m).getD (((m + 1 : Nat) : Int) - 1).toNat 0) .non w7 hr
    obtain ⟨last2, x4, x5, x6, x7, ih⟩ := loop_out n M isT a1 rs hr k (m + 1) (last ++ [t']) (some (.d (.int ((m + 1 : Nat) : Int)))) (some (.d (.int (bnext rs (btab rs m) ((m + 1 : Nat) : Int))))) (some (.d t')) w7' (by simp [hl]) (by omega)
    refine ⟨last2, x4, x5, x6, x7, ?_⟩
    have em : m + 1 + k = m + (k + 1) := by omega
    have er : (((m + 1 + 1 : Nat)) : Int) = ((m + 1 : Nat) : Int) + 1 := by push_cast; rfl
    rw [em, er] at ih
    rw [range_succ]
    refine for_nx (v1 := [some (.d (if isT then .tup (rs.map rD) else .lst (rs.map rD))), some a1, some (.loc M.length), some (.loc (M.length + 1)), some (.d (.int ((m + 1 : Nat) : Int))), w5, w6, w7]) rfl rfl ?_ ih
    have ea : atI ((btab rs m).map D.int) (((m + 1 : Nat) : Int) - 1) = some (.int ((btab rs m).getD (((m + 1 : Nat) : Int) - 1).toNat 0)) := at_ints (by omega) (by omega)
    refine seq_nx (v1 := [some (.d (if isT then .tup (rs.map rD) else .lst (rs.map rD))), some a1, some (.loc M.length), some (.loc (M.length + 1)), some (.d (.int ((m + 1 : Nat) : Int))), some (.d (.int ((btab rs m).getD (((m + 1 : Nat) : Int) - 1).toNat 0))), w6, w7]) (M1 := M ++ [⟨true, .lst ((btab rs m).map D.int)⟩, ⟨true, .lst last⟩]) (by simp only [own_get0, ea, dv_var, dt_var, di_var, dv_k, dt_k, di_k, dv_g, dt_g, di_g, dv_op1, dt_op1, di_op1, dv_op2, dt_op2, di_op2, dv_chain, dt_chain, di_chain, dv_ife, dt_ife, di_ife, dv_tup, dt_tup, di_tup, dv_lst, dt_lst, di_lst, dv_idx, dt_idx, di_idx, dv_sl, dt_sl, di_sl, dv_bi, dt_bi, di_bi, dv_bm, dt_bm, di_bm, dv_call, dt_call, di_call, dv_isi, dt_isi, di_isi, dv_and, dv_or, dv_not, dt_and, dt_or, dt_not, da_nil, da_cons, dp_nil, dp_cons, di_rng, di_enum, di_lc, dt_lc, es_skip, es_seq, es_cell, es_par, es_setix, es_ex, es_ret, es_retn, es_ite, es_brk, es_cnt, es_setN, es_setT, bind_ok', thenS_ok, then_nx, then_ret, then_brk, then_cnt, lift_some, R.lift, der, op1, op2, opII, bool2, cmpI, asB, frz, D.truth, isTrueE, optI, Option.bind, Option.map, List.getElem?_cons_zero, List.getElem?_cons_succ, if_true, ite_true, ite_false, Bool.false_eq_true, toD, toDs, ders, decide_true, decide_false, beq_self_eq_true, isi, D.plainTy, Ty.has, List.any_cons, List.any_nil, Bool.or_false, Bool.false_or, Bool.true_or, Bool.or_true, Bool.not_true, Bool.not_false, List.length_cons, List.length_nil, bi, idx, ixD, List.set_cons_zero, List.set_cons_succ, bindT, bindTs, setAll, asCell, iterOf, Nat.reduceLT, Nat.reduceLeDiff, Nat.reduceAdd, Nat.zero_add, Bool.and_self, Bool.and_true, Bool.true_and, Bool.and_false, Bool.false_and]) ?_
    refine seq_nx (v1 := [some (.d (if isT then .tup (rs.map rD) else .lst (rs.map rD))), some a1, some (.loc M.length), some (.loc (M.length + 1)), some (.d (.int ((m + 1 : Nat) : Int))), some (.d (.int ((btab rs m).getD (((m + 1 : Nat) : Int) - 1).toNat 0))), some (.d .non), w7]) (M1 := M ++ [⟨true, .lst ((btab rs m).map D.int)⟩, ⟨true, .lst last⟩]) rfl ?_
    refine seq_nx (for_of (xs := rs.map rD) (g := []) (by cases isT <;> rfl) hin) ?_
    have e4 : ∀ ys, bmTy .append (some (.lst ys)) = true := fun _ => rfl
    have l1 : ((btab rs m).map D.int).length < sizeLine := len_lt (by rw [List.length_map]; omega)
    have l2 : last.length < sizeLine := len_lt (by omega)
    have et : (btab rs m).map D.int ++ [D.int (bnext rs (btab rs m) ((m + 1 : Nat) : Int))] = (btab rs (m + 1)).map D.int := by simp [btab]
    show evS _ _ [_, _, _, _, _, some (.d (.int (bnext rs (btab rs m) ((m + 1 : Nat) : Int)))), _, _] _ = _
    rw [← et]
    simp only [own_get0, own_set0, own_get1, own_set1, e4, Bm.mut, mutate, bmM, l1, l2, dv_var, dt_var, di_var, dv_k, dt_k, di_k, dv_g, dt_g, di_g, dv_op1, dt_op1, di_op1, dv_op2, dt_op2, di_op2, dv_chain, dt_chain, di_chain, dv_ife, dt_ife, di_ife, dv_tup, dt_tup, di_tup, dv_lst, dt_lst, di_lst, dv_idx, dt_idx, di_idx, dv_sl, dt_sl, di_sl, dv_bi, dt_bi, di_bi, dv_bm, dt_bm, di_bm, dv_call, dt_call, di_call, dv_isi, dt_isi, di_isi, dv_and, dv_or, dv_not, dt_and, dt_or, dt_not, da_nil, da_cons, dp_nil, dp_cons, di_rng, di_enum, di_lc, dt_lc, es_skip, es_seq, es_cell, es_par, es_setix, es_ex, es_ret, es_retn, es_ite, es_brk, es_cnt, es_setN, es_setT, bind_ok', thenS_ok, then_nx, then_ret, then_brk, then_cnt, lift_some, R.lift, der, op1, op2, opII, bool2, cmpI, asB, frz, D.truth, isTrueE, optI, Option.bind, Option.map, List.getElem?_cons_zero, List.getElem?_cons_succ, if_true, ite_true, ite_false, Bool.false_eq_true, toD, toDs, ders, decide_true, decide_false, beq_self_eq_true, isi, D.plainTy, Ty.has, List.any_cons, List.any_nil, Bool.or_false, Bool.false_or, Bool.true_or, Bool.or_true, Bool.not_true, Bool.not_false, List.length_cons, List.length_nil, bi, idx, ixD, List.set_cons_zero, List.set_cons_succ, bindT, bindTs, setAll, asCell, iterOf, Nat.reduceLT, Nat.reduceLeDiff, Nat.reduceAdd, Nat.zero_add, Bool.and_self, Bool.and_true, Bool.true_and, Bool.and_false, Bool.false_and]
theorem ev_best_rows (n : Nat) (M : Mem) (isT : Bool) (rs : List Rwd) (hr : ∀ r ∈ rs, 1 ≤ r.2.1) (m : Nat) (hm : m ≤ 1000) : ∃ last, evF Pr (n + 1) i_best_rows [.d (if isT then .tup (rs.map rD) else .lst (rs.map rD)), .d (.int m)] M = .ok (.d (.tup [.lst ((btab rs m).map D.int), .lst last])) M := by
  obtain ⟨last', w4, w5, w6, w7, hl⟩ := loop_out n M isT (.d (.int m)) rs hr m 0 [.non] none none none none rfl (by omega)
  refine ⟨last', (evF_of (vs := [some (.d (if isT then .tup (rs.map rD) else .lst (rs.map rD))), some (.d (.int m)), none, none, none, none, none, none]) (r := .ret (.d (.tup [.lst ((btab rs m).map D.int), .lst last'])) (M ++ [⟨false, .lst ((btab rs m).map D.int)⟩, ⟨false, .lst last'⟩])) rfl rfl rfl ?_).trans fin_d⟩
  refine seq_nx (v1 := [some (.d (if isT then .tup (rs.map rD) else .lst (rs.map rD))), some (.d (.int m)), some (.loc M.length), none, none, none, none, none]) (M1 := M ++ [⟨true, .lst [.int 0]⟩]) (by simp only [dv_var, dt_var, di_var, dv_k, dt_k, di_k, dv_g, dt_g, di_g, dv_op1, dt_op1, di_op1, dv_op2, dt_op2, di_op2, dv_chain, dt_chain, di_chain, dv_ife, dt_ife, di_ife, dv_tup, dt_tup, di_tup, dv_lst, dt_lst, di_lst, dv_idx, dt_idx, di_idx, dv_sl, dt_sl, di_sl, dv_bi, dt_bi, di_bi, dv_bm, dt_bm, di_bm, dv_call, dt_call, di_call, dv_isi, dt_isi, di_isi, dv_and, dv_or, dv_not, dt_and, dt_or, dt_not, da_nil, da_cons, dp_nil, dp_cons, di_rng, di_enum, di_lc, dt_lc, es_skip, es_seq, es_cell, es_par, es_setix, es_ex, es_ret, es_retn, es_ite, es_brk, es_cnt, es_setN, es_setT, bind_ok', thenS_ok, then_nx, then_ret, then_brk, then_cnt, lift_some, R.lift, der, op1, op2, opII, bool2, cmpI, asB, frz, D.truth, isTrueE, optI, Option.bind, Option.map, List.getElem?_cons_zero, List.getElem?_cons_succ, if_true, ite_true, ite_false, Bool.false_eq_true, toD, toDs, ders, decide_true, decide_false, beq_self_eq_true, isi, D.plainTy, Ty.has, List.any_cons, List.any_nil, Bool.or_false, Bool.false_or, Bool.true_or, Bool.or_true, Bool.not_true, Bool.not_false, List.length_cons, List.length_nil, bi, idx, ixD, List.set_cons_zero, List.set_cons_succ, bindT, bindTs, setAll, asCell, iterOf, Nat.reduceLT, Nat.reduceLeDiff, Nat.reduceAdd, Nat.zero_add, Bool.and_self, Bool.and_true, Bool.true_and, Bool.and_false, Bool.false_and]) ?_
  refine seq_nx (v1 := [some (.d (if isT then .tup (rs.map rD) else .lst (rs.map rD))), some (.d (.int m)), some (.loc M.length), some (.loc (M.length + 1)), none, none, none, none]) (M1 := M ++ [⟨true, .lst [.int 0]⟩, ⟨true, .lst [.non]⟩]) (by simp only [dv_var, dt_var, di_var, dv_k, dt_k, di_k, dv_g, dt_g, di_g, dv_op1, dt_op1, di_op1, dv_op2, dt_op2, di_op2, dv_chain, dt_chain, di_chain, dv_ife, dt_ife, di_ife, dv_tup, dt_tup, di_tup, dv_lst, dt_lst, di_lst, dv_idx, dt_idx, di_idx, dv_sl, dt_sl, di_sl, dv_bi, dt_bi, di_bi, dv_bm, dt_bm, di_bm, dv_call, dt_call, di_call, dv_isi, dt_isi, di_isi, dv_and, dv_or, dv_not, dt_and, dt_or, dt_not, da_nil, da_cons, dp_nil, dp_cons, di_rng, di_enum, di_lc, dt_lc, es_skip, es_seq, es_cell, es_par, es_setix, es_ex, es_ret, es_retn, es_ite, es_brk, es_cnt, es_setN, es_setT, bind_ok', thenS_ok, then_nx, then_ret, then_brk, then_cnt, lift_some, R.lift, der, op1, op2, opII, bool2, cmpI, asB, frz, D.truth, isTrueE, optI, Option.bind, Option.map, List.getElem?_cons_zero, List.getElem?_cons_succ, if_true, ite_true, ite_false, Bool.false_eq_true, toD, toDs, ders, decide_true, decide_false, beq_self_eq_true, isi, D.plainTy, Ty.has, List.any_cons, List.any_nil, Bool.or_false, Bool.false_or, Bool.true_or, Bool.or_true, Bool.not_true, Bool.not_false, List.length_cons, List.length_nil, bi, idx, ixD, List.set_cons_zero, List.set_cons_succ, bindT, bindTs, setAll, asCell, iterOf, Nat.reduceLT, Nat.reduceLeDiff, Nat.reduceAdd, Nat.zero_add, Bool.and_self, Bool.and_true, Bool.true_and, Bool.and_false, Bool.false_and, List.append_assoc, List.length_append, List.singleton_append]) ?_
  rw [Nat.zero_add] at hl
  have er : rngOk 1 ((m : Int) + 1) = true := rng_small (by omega) (by omega) (by omega) (by omega) (by omega)
  have ez : (((0 + 1 : Nat)) : Int) + (m : Int) = (m : Int) + 1 := by push_cast; omega
  have e1 : (((0 + 1 : Nat)) : Int) = 1 := rfl
  rw [ez, e1] at hl
  have eh : (den (evF Pr n) (.rng (.k (.int 1)) (.op2 .add (.var 1) (.k (.int 1))))).i [some (.d (if isT then .tup (rs.map rD) else .lst (rs.map rD))), some (.d (.int m)), some (.loc M.length), some (.loc (M.length + 1)), none, none, none, none] (M ++ [⟨true, .lst [.int 0]⟩, ⟨true, .lst [.non]⟩]) = .ok (rangeD 1 ((m : Int) + 1), []) (M ++ [⟨true, .lst [.int 0]⟩, ⟨true, .lst [.non]⟩]) := rng_of rfl (by simp only [dv_var, dt_var, di_var, dv_k, dt_k, di_k, dv_g, dt_g, di_g, dv_op1, dt_op1, di_op1, dv_op2, dt_op2, di_op2, dv_chain, dt_chain, di_chain, dv_ife, dt_ife, di_ife, dv_tup, dt_tup, di_tup, dv_lst, dt_lst, di_lst, dv_idx, dt_idx, di_idx, dv_sl, dt_sl, di_sl, dv_bi, dt_bi, di_bi, dv_bm, dt_bm, di_bm, dv_call, dt_call, di_call, dv_isi, dt_isi, di_isi, dv_and, dv_or, dv_not, dt_and, dt_or, dt_not, da_nil, da_cons, dp_nil, dp_cons, di_rng, di_enum, di_lc, dt_lc, es_skip, es_seq, es_cell, es_par, es_setix, es_ex, es_ret, es_retn, es_ite, es_brk, es_cnt, es_setN, es_setT, bind_ok', thenS_ok, then_nx, then_ret, then_brk, then_cnt, lift_some, R.lift, der, op1, op2, opII, bool2, cmpI, asB, frz, D.truth, isTrueE, optI, Option.bind, Option.map, List.getElem?_cons_zero, List.getElem?_cons_succ, if_true, ite_true, ite_false, Bool.false_eq_true, toD, toDs, ders, decide_true, decide_false, beq_self_eq_true, isi, D.plainTy, Ty.has, List.any_cons, List.any_nil, Bool.or_false, Bool.false_or, Bool.true_or, Bool.or_true, Bool.not_true, Bool.not_false, List.length_cons, List.length_nil, bi, idx, ixD, List.set_cons_zero, List.set_cons_succ, bindT, bindTs, setAll, asCell, iterOf, Nat.reduceLT, Nat.reduceLeDiff, Nat.reduceAdd, Nat.zero_add, Bool.and_self, Bool.and_true, Bool.true_and, Bool.and_false, Bool.false_and]) er
  refine seq_nx (for_of eh hl) ?_
  simp only [own_get0, own_get1, own_set0, own_set1, Nat.zero_add, dv_var, dt_var, di_var, dv_k, dt_k, di_k, dv_g, dt_g, di_g, dv_op1, dt_op1, di_op1, dv_op2, dt_op2, di_op2, dv_chain, dt_chain, di_chain, dv_ife, dt_ife, di_ife, dv_tup, dt_tup, di_tup, dv_lst, dt_lst, di_lst, dv_idx, dt_idx, di_idx, dv_sl, dt_sl, di_sl, dv_bi, dt_bi, di_bi, dv_bm, dt_bm, di_bm, dv_call, dt_call, di_call, dv_isi, dt_isi, di_isi, dv_and, dv_or, dv_not, dt_and, dt_or, dt_not, da_nil, da_cons, dp_nil, dp_cons, di_rng, di_enum, di_lc, dt_lc, es_skip, es_seq, es_cell, es_par, es_setix, es_ex, es_ret, es_retn, es_ite, es_brk, es_cnt, es_setN, es_setT, bind_ok', thenS_ok, then_nx, then_ret, then_brk, then_cnt, lift_some, R.lift, der, op1, op2, opII, bool2, cmpI, asB, frz, D.truth, isTrueE, optI, Option.bind, Option.map, List.getElem?_cons_zero, List.getElem?_cons_succ, if_true, ite_true, ite_false, Bool.false_eq_true, toD, toDs, ders, decide_true, decide_false, beq_self_eq_true, isi, D.plainTy, Ty.has, List.any_cons, List.any_nil, Bool.or_false, Bool.false_or, Bool.true_or, Bool.or_true, Bool.not_true, Bool.not_false, List.length_cons, List.length_nil, bi, idx, ixD, List.set_cons_zero, List.set_cons_succ, bindT, bindTs, setAll, asCell, iterOf, Nat.reduceLT, Nat.reduceLeDiff, Nat.reduceAdd, Nat.zero_add, Bool.and_self, Bool.and_true, Bool.true_and, Bool.and_false, Bool.false_and]
end Pd
namespace Pd
open PySem PySem.Spec L2
/-- the state of the draws -/
structure RowS where
  i : Int
  s : Int
  b : Int
  hi : 0 ≤ i
  h0 : 0 ≤ s
  h1 : s < 2147483648
def RowS.c (ns : List Int) (r : RowS) : Cell := ⟨true, .lst [.scr ns, .int r.i, .int r.s, .int r.b]⟩
theorem log_lt {n k : Nat} (h : n < 2 ^ k) (hk : 0 < k) : Nat.log2 n < k := by
  by_cases hn : n = 0
  · subst hn
    exact hk
  · exact (Nat.log2_lt hn).mpr h
theorem div_ok {j : Int} (h : 0 < j) (h2 : j ≤ 1000000) : divOk j = true := by
  unfold divOk
  have : j.natAbs.log2 < 9000 := Nat.lt_trans (log_lt (k := 20) (by omega) (by omega)) (by omega)
  rw [decide_eq_true h, decide_eq_true this]
  rfl
theorem mul_ok48 {s : Int} (h0 : 0 ≤ s) (h1 : s < 2147483648) : mulOk s 48271 = true := by
  unfold mulOk
  have a : s.natAbs.log2 < 31 := log_lt (by omega) (by omega)
  have b : (48271 : Int).natAbs.log2 < 16 := log_lt (by decide) (by omega)
  exact decide_eq_true (by omega)
theorem pow18 : powOk 10 18 = true := by decide +kernel
section
variable (ns : List Int) (a b c d : Int) (T : Mem)
def rowC : Cell := ⟨true, .lst [.scr ns, .int a, .int b, .int c]⟩
theorem set1 : setIx (rowC ns a b c :: T) (.loc 0) (.int 1) (.int d) = some (rowC ns d b c :: T) := rfl
theorem set2 : setIx (rowC ns a b c :: T) (.loc 0) (.int 2) (.int d) = some (rowC ns a d c :: T) := rfl
theorem set3 : setIx (rowC ns a b c :: T) (.loc 0) (.int 3) (.int d) = some (rowC ns a b d :: T) := rfl
theorem rowD : (rowC ns a b c).d = .lst [.scr ns, .int a, .int b, .int c] := rfl
theorem der0 : der (rowC ns a b c :: T) (.loc 0) = some (.lst [.scr ns, .int a, .int b, .int c]) := rfl
theorem at0 : atI [D.scr ns, .int a, .int b, .int c] 0 = some (.scr ns) := rfl
theorem at1 : atI [D.scr ns, .int a, .int b, .int c] 1 = some (.int a) := rfl
theorem at2 : atI [D.scr ns, .int a, .int b, .int c] 2 = some (.int b) := rfl
theorem at3 : atI [D.scr ns, .int a, .int b, .int c] 3 = some (.int c) := rfl
end
theorem der_d (M : Mem) (x : D) : der M (.d x) = some x := rfl
theorem int_int (i : Int) : bi .int [.int i] = some (.d (.int i)) := rfl
theorem ev_taken (n : Nat) (ns : List Int) (r : RowS) (T : Mem) (many : Int) (h : 0 < many) (h' : many ≤ 1000000) : ∃ v r', evF Pr (n + 1) i__law_taken [.loc 0, .d (.int many)] (r.c ns :: T) = .ok (.d (.int v)) (RowS.c ns r' :: T) ∧ 0 ≤ v ∧ v < many := by
  obtain ⟨i, s, b, hi, h0, h1⟩ := r
  have hd := div_ok h h'
  have hmod : ∀ x : Int, 0 ≤ x % many ∧ x % many < many := fun x => ⟨Int.emod_nonneg _ (by omega), Int.emod_lt_of_pos _ h⟩
  have hmod2 : ∀ x : Int, 0 ≤ x % 2147483647 ∧ x % 2147483647 < 2147483648 := fun x => ⟨Int.emod_nonneg _ (by omega), Int.lt_trans (Int.emod_lt_of_pos _ (by omega)) (by omega)⟩
  have hm := mul_ok48 h0 h1
  have hd7 := div_ok (j := 7) (by omega) (by omega)
  have hp : (0 : Int) < 2147483647 := by decide
  show ∃ v r', evF Pr (n + 1) i__law_taken [.loc 0, .d (.int many)] (rowC ns i s b :: T) = _ ∧ _ ∧ _
  by_cases c1 : 0 < b
  · refine ⟨b % many, ⟨i, s, b / many, hi, h0, h1⟩, (evF_of (vs := [some (.loc 0), some (.d (.int many)), none, none]) (r := .ret (.d (.int (b % many))) (rowC ns i s (b / many) :: T)) rfl rfl rfl ?_).trans (fin_d0 (M := rowC ns i s (b / many) :: T)), hmod b⟩
    have d1 := decide_eq_true c1
    simp only [f__law_taken, b__law_taken, rowD, at3, int_int, set3, d1, h, hd, dv_var, dt_var, di_var, dv_k, dt_k, di_k, dv_g, dt_g, di_g, dv_op1, dt_op1, di_op1, dv_op2, dt_op2, di_op2, dv_chain, dt_chain, di_chain, dv_ife, dt_ife, di_ife, dv_tup, dt_tup, di_tup, dv_lst, dt_lst, di_lst, dv_idx, dt_idx, di_idx, dv_sl, dt_sl, di_sl, dv_bi, dt_bi, di_bi, dv_bm, dt_bm, di_bm, dv_call, dt_call, di_call, dv_isi, dt_isi, di_isi, dv_and, dv_or, dv_not, dt_and, dt_or, dt_not, da_nil, da_cons, dp_nil, dp_cons, di_rng, di_enum, di_lc, dt_lc, es_skip, es_seq, es_cell, es_par, es_setix, es_ex, es_ret, es_retn, es_ite, es_brk, es_cnt, es_setN, es_setT, bind_ok', thenS_ok, then_nx, then_ret, then_brk, then_cnt, lift_some, R.lift, der, op1, op2, opII, bool2, cmpI, asB, frz, D.truth, isTrueE, optI, Option.bind, Option.map, List.getElem?_cons_zero, List.getElem?_cons_succ, if_true, ite_true, ite_false, Bool.false_eq_true, toD, toDs, ders, decide_true, decide_false, beq_self_eq_true, isi, D.plainTy, Ty.has, List.any_cons, List.any_nil, Bool.or_false, Bool.false_or, Bool.true_or, Bool.or_true, Bool.not_true, Bool.not_false, List.length_cons, List.length_nil, bi, idx, ixD, List.set_cons_zero, List.set_cons_succ, bindT, bindTs, setAll, asCell, iterOf, Nat.reduceLT, Nat.reduceLeDiff, Nat.reduceAdd, Nat.zero_add, Bool.and_self, Bool.and_true, Bool.true_and, Bool.and_false, Bool.false_and]
  · have d1 := decide_eq_false c1
    by_cases c2 : (ns.length : Int) < i + 1
    · have d2 := decide_eq_true c2
      refine ⟨((s * 48271 + 11) % 2147483647 / 7) % many, ⟨i + 1, (s * 48271 + 11) % 2147483647, b, by omega, (hmod2 _).1, (hmod2 _).2⟩, (evF_of (vs := [some (.loc 0), some (.d (.int many)), none, none]) (r := .ret (.d (.int (((s * 48271 + 11) % 2147483647 / 7) % many))) (rowC ns (i + 1) ((s * 48271 + 11) % 2147483647) b :: T)) rfl rfl rfl ?_).trans (fin_d0 (M := rowC ns (i + 1) ((s * 48271 + 11) % 2147483647) b :: T)), hmod _⟩
      simp only [f__law_taken, b__law_taken, rowD, at0, at1, at2, at3, int_int, set1, set2, d1, d2, h, hd, hd7, hm, hp, dv_var, dt_var, di_var, dv_k, dt_k, di_k, dv_g, dt_g, di_g, dv_op1, dt_op1, di_op1, dv_op2, dt_op2, di_op2, dv_chain, dt_chain, di_chain, dv_ife, dt_ife, di_ife, dv_tup, dt_tup, di_tup, dv_lst, dt_lst, di_lst, dv_idx, dt_idx, di_idx, dv_sl, dt_sl, di_sl, dv_bi, dt_bi, di_bi, dv_bm, dt_bm, di_bm, dv_call, dt_call, di_call, dv_isi, dt_isi, di_isi, dv_and, dv_or, dv_not, dt_and, dt_or, dt_not, da_nil, da_cons, dp_nil, dp_cons, di_rng, di_enum, di_lc, dt_lc, es_skip, es_seq, es_cell, es_par, es_setix, es_ex, es_ret, es_retn, es_ite, es_brk, es_cnt, es_setN, es_setT, bind_ok', thenS_ok, then_nx, then_ret, then_brk, then_cnt, lift_some, R.lift, der, op1, op2, opII, bool2, cmpI, asB, frz, D.truth, isTrueE, optI, Option.bind, Option.map, List.getElem?_cons_zero, List.getElem?_cons_succ, if_true, ite_true, ite_false, Bool.false_eq_true, toD, toDs, ders, decide_true, decide_false, beq_self_eq_true, isi, D.plainTy, Ty.has, List.any_cons, List.any_nil, Bool.or_false, Bool.false_or, Bool.true_or, Bool.or_true, Bool.not_true, Bool.not_false, List.length_cons, List.length_nil, bi, idx, ixD, List.set_cons_zero, List.set_cons_succ, bindT, bindTs, setAll, asCell, iterOf, Nat.reduceLT, Nat.reduceLeDiff, Nat.reduceAdd, Nat.zero_add, Bool.and_self, Bool.and_true, Bool.true_and, Bool.and_false, Bool.false_and]
    · have d2 := decide_eq_false c2
      have ea : atI ns (i + 1 - 1) = some (ns.getD i.toNat 0) := by
        rw [show i + 1 - 1 = i by omega]
        exact at_pos hi (by omega)
      by_cases c3 : (10 : Int) ^ (18 : Int).toNat ≤ ns.getD i.toNat 0
      · have d3 := decide_eq_true c3
        refine ⟨ns.getD i.toNat 0 % many, ⟨i + 1, (s * 48271 + ns.getD i.toNat 0 + 11) % 2147483647, ns.getD i.toNat 0 / many, by omega, (hmod2 _).1, (hmod2 _).2⟩, (evF_of (vs := [some (.loc 0), some (.d (.int many)), none, none]) (r := .ret (.d (.int (ns.getD i.toNat 0 % many))) (rowC ns (i + 1) ((s * 48271 + ns.getD i.toNat 0 + 11) % 2147483647) (ns.getD i.toNat 0 / many) :: T)) rfl rfl rfl ?_).trans (fin_d0 (M := rowC ns (i + 1) ((s * 48271 + ns.getD i.toNat 0 + 11) % 2147483647) (ns.getD i.toNat 0 / many) :: T)), hmod _⟩
        simp only [f__law_taken, b__law_taken, rowD, at0, at1, at2, at3, int_int, set1, set2, set3, d1, d2, d3, ea, pow18, h, hd, hd7, hm, hp, dv_var, dt_var, di_var, dv_k, dt_k, di_k, dv_g, dt_g, di_g, dv_op1, dt_op1, di_op1, dv_op2, dt_op2, di_op2, dv_chain, dt_chain, di_chain, dv_ife, dt_ife, di_ife, dv_tup, dt_tup, di_tup, dv_lst, dt_lst, di_lst, dv_idx, dt_idx, di_idx, dv_sl, dt_sl, di_sl, dv_bi, dt_bi, di_bi, dv_bm, dt_bm, di_bm, dv_call, dt_call, di_call, dv_isi, dt_isi, di_isi, dv_and, dv_or, dv_not, dt_and, dt_or, dt_not, da_nil, da_cons, dp_nil, dp_cons, di_rng, di_enum, di_lc, dt_lc, es_skip, es_seq, es_cell, es_par, es_setix, es_ex, es_ret, es_retn, es_ite, es_brk, es_cnt, es_setN, es_setT, bind_ok', thenS_ok, then_nx, then_ret, then_brk, then_cnt, lift_some, R.lift, der, op1, op2, opII, bool2, cmpI, asB, frz, D.truth, isTrueE, optI, Option.bind, Option.map, List.getElem?_cons_zero, List.getElem?_cons_succ, if_true, ite_true, ite_false, Bool.false_eq_true, toD, toDs, ders, decide_true, decide_false, beq_self_eq_true, isi, D.plainTy, Ty.has, List.any_cons, List.any_nil, Bool.or_false, Bool.false_or, Bool.true_or, Bool.or_true, Bool.not_true, Bool.not_false, List.length_cons, List.length_nil, bi, idx, ixD, List.set_cons_zero, List.set_cons_succ, bindT, bindTs, setAll, asCell, iterOf, Nat.reduceLT, Nat.reduceLeDiff, Nat.reduceAdd, Nat.zero_add, Bool.and_self, Bool.and_true, Bool.true_and, Bool.and_false, Bool.false_and]
      · have d3 := decide_eq_false c3
        refine ⟨ns.getD i.toNat 0 % many, ⟨i + 1, (s * 48271 + ns.getD i.toNat 0 + 11) % 2147483647, b, by omega, (hmod2 _).1, (hmod2 _).2⟩, (evF_of (vs := [some (.loc 0), some (.d (.int many)), none, none]) (r := .ret (.d (.int (ns.getD i.toNat 0 % many))) (rowC ns (i + 1) ((s * 48271 + ns.getD i.toNat 0 + 11) % 2147483647) b :: T)) rfl rfl rfl ?_).trans (fin_d0 (M := rowC ns (i + 1) ((s * 48271 + ns.getD i.toNat 0 + 11) % 2147483647) b :: T)), hmod _⟩
        simp only [f__law_taken, b__law_taken, rowD, at0, at1, at2, at3, int_int, set1, set2, set3, d1, d2, d3, ea, pow18, h, hd, hd7, hm, hp, dv_var, dt_var, di_var, dv_k, dt_k, di_k, dv_g, dt_g, di_g, dv_op1, dt_op1, di_op1, dv_op2, dt_op2, di_op2, dv_chain, dt_chain, di_chain, dv_ife, dt_ife, di_ife, dv_tup, dt_tup, di_tup, dv_lst, dt_lst, di_lst, dv_idx, dt_idx, di_idx, dv_sl, dt_sl, di_sl, dv_bi, dt_bi, di_bi, dv_bm, dt_bm, di_bm, dv_call, dt_call, di_call, dv_isi, dt_isi, di_isi, dv_and, dv_or, dv_not, dt_and, dt_or, dt_not, da_nil, da_cons, dp_nil, dp_cons, di_rng, di_enum, di_lc, dt_lc, es_skip, es_seq, es_cell, es_par, es_setix, es_ex, es_ret, es_retn, es_ite, es_brk, es_cnt, es_setN, es_setT, bind_ok', thenS_ok, then_nx, then_ret, then_brk, then_cnt, lift_some, R.lift, der, op1, op2, opII, bool2, cmpI, asB, frz, D.truth, isTrueE, optI, Option.bind, Option.map, List.getElem?_cons_zero, List.getElem?_cons_succ, if_true, ite_true, ite_false, Bool.false_eq_true, toD, toDs, ders, decide_true, decide_false, beq_self_eq_true, isi, D.plainTy, Ty.has, List.any_cons, List.any_nil, Bool.or_false, Bool.false_or, Bool.true_or, Bool.or_true, Bool.not_true, Bool.not_false, List.length_cons, List.length_nil, bi, idx, ixD, List.set_cons_zero, List.set_cons_succ, bindT, bindTs, setAll, asCell, iterOf, Nat.reduceLT, Nat.reduceLeDiff, Nat.reduceAdd, Nat.zero_add, Bool.and_self, Bool.and_true, Bool.true_and, Bool.and_false, Bool.false_and]
end Pd
namespace Pd
open PySem PySem.Spec L2
/-- a list that stays, whatever the draws' cell is -/
def Stays (T : Mem) (v : Vl) (xs : List D) : Prop := frz v = v ∧ ∀ c, der (c :: T) v = some (.lst xs)
theorem Stays.d {T : Mem} {xs : List D} : Stays T (.d (.lst xs)) xs := ⟨rfl, fun _ => rfl⟩
theorem at_some {α : Type} {xs : List α} {v : Int} (h : 0 ≤ v) (h2 : v < xs.length) : ∃ x, atI xs v = some x ∧ x ∈ xs := by
  have hj : v.toNat < xs.length := by omega
  refine ⟨xs[v.toNat], ?_, List.getElem_mem hj⟩
  unfold L2.atI L2.ixN
  rw [if_pos h, if_pos h2]
  simp only [Option.bind_some, List.getElem?_eq_getElem hj]
theorem idx_lst (xs : List D) (i : Int) : idx (.lst xs) (.int i) = (atI xs i).map Vl.d := rfl
theorem len_lst (xs : List D) : bi .len [.lst xs] = some (.d (.int xs.length)) := rfl
theorem frz_d (x : D) : frz (.d x) = .d x := rfl
theorem ev_pick (n : Nat) (ns : List Int) (r : RowS) (T : Mem) (v : Vl) (xs : List D) (hv : Stays T v xs) (h : 0 < xs.length) (h' : xs.length ≤ 1000) : ∃ x r', evF Pr (n + 2) i__law_pick [.loc 0, v] (r.c ns :: T) = .ok (.d x) (RowS.c ns r' :: T) ∧ x ∈ xs := by
  obtain ⟨k, r', e, h1, h2⟩ := ev_taken n ns r T xs.length (by omega) (by omega)
  obtain ⟨x, e1, e2⟩ := at_some h1 h2
  refine ⟨x, r', (evF_of (vs := [some (.loc 0), some v]) (r := .ret (.d x) (RowS.c ns r' :: T)) rfl rfl rfl ?_).trans (fin_d0 (M := RowS.c ns r' :: T)), e2⟩
  refine seq_ret ?_
  have v1 : ∀ M, (den (evF Pr (n + 1)) (.var 1)).v [some (.loc 0), some v] M = .ok v M := fun _ => rfl
  have v0 : ∀ M, (den (evF Pr (n + 1)) (.var 0)).v [some (.loc 0), some v] M = .ok (.loc 0) M := fun _ => rfl
  have f0 : frz (.loc 0) = .loc 0 := rfl
  have dl : ders (r.c ns :: T) [v] = some [.lst xs] := by simp only [ders, hv.2, Option.bind_some, Option.map_some]
  simp only [es_ret, dv_idx, dv_call, da_cons, da_nil, v1, v0, bind_ok', hv.1, f0, dv_bi, dl, Option.bind_some, len_lst, lift_some, frz_d, e, hv.2, der_d, idx_lst, e1, Option.map_some, thenS_ok]
theorem ev_given (n : Nat) (ns : List Int) (r : RowS) (T : Mem) (v : Vl) (xs : List D) (hv : Stays T v xs) : ∃ (isT : Bool) (z : Vl) (r' : RowS), evF Pr (n + 2) i__law_given [.loc 0, v] (r.c ns :: T) = .ok z (RowS.c ns r' :: T) ∧ frz z = .d (if isT then .tup xs else .lst xs) ∧ (z = .d (.tup xs) ∨ z = .new (.lst xs)) := by
  obtain ⟨k, r', e, h1, h2⟩ := ev_taken n ns r T 2 (by omega) (by omega)
  have v1 : ∀ M, (den (evF Pr (n + 1)) (.var 1)).v [some (.loc 0), some v] M = .ok v M := fun _ => rfl
  have dl : ders (RowS.c ns r' :: T) [v] = some [.lst xs] := by simp only [ders, hv.2, Option.bind_some, Option.map_some]
  have b1 : bi .tuple [.lst xs] = some (.d (.tup xs)) := rfl
  have b2 : bi .list [.lst xs] = some (.new (.lst xs)) := rfl
  by_cases hk : k = 0
  · subst hk
    refine ⟨true, .d (.tup xs), r', (evF_of (vs := [some (.loc 0), some v]) (r := .ret (.d (.tup xs)) (RowS.c ns r' :: T)) rfl rfl rfl ?_).trans (fin_d0 (M := RowS.c ns r' :: T)), rfl, .inl rfl⟩
    refine seq_ret ?_
    have tt : (den (evF Pr (n + 1)) (.op2 .eq (.call i__law_taken (.cons (.var 0) (.cons (.k (.int 2)) .nil))) (.k (.int 0)))).t [some (.loc 0), some v] (r.c ns :: T) = .ok true (RowS.c ns r' :: T) := by
      simp only [e, dv_var, dt_var, di_var, dv_k, dt_k, di_k, dv_g, dt_g, di_g, dv_op1, dt_op1, di_op1, dv_op2, dt_op2, di_op2, dv_chain, dt_chain, di_chain, dv_ife, dt_ife, di_ife, dv_tup, dt_tup, di_tup, dv_lst, dt_lst, di_lst, dv_idx, dt_idx, di_idx, dv_sl, dt_sl, di_sl, dv_bi, dt_bi, di_bi, dv_bm, dt_bm, di_bm, dv_call, dt_call, di_call, dv_isi, dt_isi, di_isi, dv_and, dv_or, dv_not, dt_and, dt_or, dt_not, da_nil, da_cons, dp_nil, dp_cons, di_rng, di_enum, di_lc, dt_lc, es_skip, es_seq, es_cell, es_par, es_setix, es_ex, es_ret, es_retn, es_ite, es_brk, es_cnt, es_setN, es_setT, bind_ok', thenS_ok, then_nx, then_ret, then_brk, then_cnt, lift_some, R.lift, der, op1, op2, opII, bool2, cmpI, asB, frz, D.truth, isTrueE, optI, Option.bind, Option.map, List.getElem?_cons_zero, List.getElem?_cons_succ, if_true, ite_true, ite_false, Bool.false_eq_true, toD, toDs, ders, decide_true, decide_false, beq_self_eq_true, isi, D.plainTy, Ty.has, List.any_cons, List.any_nil, Bool.or_false, Bool.false_or, Bool.true_or, Bool.or_true, Bool.not_true, Bool.not_false, List.length_cons, List.length_nil, bi, idx, ixD, List.set_cons_zero, List.set_cons_succ, bindT, bindTs, setAll, asCell, iterOf, Nat.reduceLT, Nat.reduceLeDiff, Nat.reduceAdd, Nat.zero_add, Bool.and_self, Bool.and_true, Bool.true_and, Bool.and_false, Bool.false_and]
    simp only [es_ret, dv_ife, tt, bind_ok', if_true, dv_bi, da_cons, da_nil, v1, hv.1, dl, Option.bind_some, b1, lift_some, thenS_ok]
  · refine ⟨false, .new (.lst xs), r', (evF_of (vs := [some (.loc 0), some v]) (r := .ret (.new (.lst xs)) (RowS.c ns r' :: T)) rfl rfl rfl ?_).trans (by simp [finish]), rfl, .inr rfl⟩
    refine seq_ret ?_
    have hk' : (k == 0) = false := by simpa using hk
    have tt : (den (evF Pr (n + 1)) (.op2 .eq (.call i__law_taken (.cons (.var 0) (.cons (.k (.int 2)) .nil))) (.k (.int 0)))).t [some (.loc 0), some v] (r.c ns :: T) = .ok false (RowS.c ns r' :: T) := by
      simp only [e, hk', dv_var, dt_var, di_var, dv_k, dt_k, di_k, dv_g, dt_g, di_g, dv_op1, dt_op1, di_op1, dv_op2, dt_op2, di_op2, dv_chain, dt_chain, di_chain, dv_ife, dt_ife, di_ife, dv_tup, dt_tup, di_tup, dv_lst, dt_lst, di_lst, dv_idx, dt_idx, di_idx, dv_sl, dt_sl, di_sl, dv_bi, dt_bi, di_bi, dv_bm, dt_bm, di_bm, dv_call, dt_call, di_call, dv_isi, dt_isi, di_isi, dv_and, dv_or, dv_not, dt_and, dt_or, dt_not, da_nil, da_cons, dp_nil, dp_cons, di_rng, di_enum, di_lc, dt_lc, es_skip, es_seq, es_cell, es_par, es_setix, es_ex, es_ret, es_retn, es_ite, es_brk, es_cnt, es_setN, es_setT, bind_ok', thenS_ok, then_nx, then_ret, then_brk, then_cnt, lift_some, R.lift, der, op1, op2, opII, bool2, cmpI, asB, frz, D.truth, isTrueE, optI, Option.bind, Option.map, List.getElem?_cons_zero, List.getElem?_cons_succ, if_true, ite_true, ite_false, Bool.false_eq_true, toD, toDs, ders, decide_true, decide_false, beq_self_eq_true, isi, D.plainTy, Ty.has, List.any_cons, List.any_nil, Bool.or_false, Bool.false_or, Bool.true_or, Bool.or_true, Bool.not_true, Bool.not_false, List.length_cons, List.length_nil, bi, idx, ixD, List.set_cons_zero, List.set_cons_succ, bindT, bindTs, setAll, asCell, iterOf, Nat.reduceLT, Nat.reduceLeDiff, Nat.reduceAdd, Nat.zero_add, Bool.and_self, Bool.and_true, Bool.true_and, Bool.and_false, Bool.false_and]
    simp only [es_ret, dv_ife, tt, bind_ok', Bool.false_eq_true, if_false, dv_bi, da_cons, da_nil, v1, hv.1, dl, Option.bind_some, b2, lift_some, thenS_ok]
/-! ### names -/
theorem join_nil_app : ∀ ys : List Str, (Str.join "" ys).cps.toList = (ys.map fun y => y.cps.toList).flatten
  | [] => rfl
  | [y] => by
    show y.cps.toList = _
    simp
  | x :: y :: r => by
    have ih := join_nil_app (y :: r)
    have e : Str.join "" (x :: y :: r) = x ++ "" ++ Str.join "" (y :: r) := rfl
    rw [e]
    show ((x.cps ++ ("" : Str).cps) ++ (Str.join "" (y :: r)).cps).toList = _
    rw [Array.toList_append, Array.toList_append, ih, List.map_cons, List.flatten_cons]
    have e0 : ("" : Str).cps.toList = [] := by decide
    rw [e0, List.append_nil]
    rfl
def isLetter (x : D) : Prop := ∃ c, x = .str ⟨#[c]⟩ ∧ isLow c = true
theorem letters_join : ∀ {xs : List D}, (∀ x ∈ xs, isLetter x) → ∃ ys : List Str, D.strs? xs = some ys ∧ ys.length = xs.length ∧ (ys.map (·.length)).sum = xs.length ∧ (∀ c ∈ (ys.map fun y => y.cps.toList).flatten, isLow c = true) ∧ ((ys.map fun y => y.cps.toList).flatten).length = xs.length
  | [], _ => ⟨[], rfl, rfl, rfl, (fun c hc => by cases hc), rfl⟩
  | x :: xs, h => by
    obtain ⟨ys, e1, e2, e3, e4, e5⟩ := letters_join (xs := xs) fun y hy => h y (List.mem_cons_of_mem _ hy)
    obtain ⟨c, ex, hc⟩ := h x List.mem_cons_self
    subst ex
    refine ⟨⟨#[c]⟩ :: ys, by simp only [D.strs?, e1, Option.map_some], by simp [e2], ?_, fun d hd => ?_, ?_⟩
    · rw [List.map_cons, List.sum_cons, e3, List.length_cons]
      show 1 + _ = _
      omega
    · rw [List.map_cons, List.flatten_cons] at hd
      rcases List.mem_append.mp hd with z | z
      · have z : d = c := by simpa using z
        rw [z]
        exact hc
      · exact e4 d z
    · rw [List.map_cons, List.flatten_cons, List.length_append, e5]
      show 1 + xs.length = xs.length + 1
      omega
theorem abc_at {v : Int} (h : 0 ≤ v) (h2 : v < 26) : ∃ c, atI abc.cps.toList v = some c ∧ isLow c = true := by
  have hl : abc.cps.toList.length = 26 := by decide +kernel
  have ha : abc.cps.toList.all isLow = true := by decide +kernel
  obtain ⟨c, e1, e2⟩ := at_some (xs := abc.cps.toList) h (by rw [hl]; exact h2)
  exact ⟨c, e1, List.all_eq_true.mp ha c e2⟩
theorem idx_str (z : Str) (i : Int) : idx (.str z) (.int i) = (atI z.cps.toList i).map fun c => Vl.d (.str ⟨#[c]⟩) := rfl
theorem ev_name (n : Nat) (ns : List Int) (r : RowS) (T : Mem) : ∃ s r', evF Pr (n + 2) i__law_name [.loc 0] (r.c ns :: T) = .ok (.d (.str s)) (RowS.c ns r' :: T) ∧ goodName s = true := by
  obtain ⟨k, r1, e, h1, h2⟩ := ev_taken n ns r T 6 (by omega) (by omega)
  have hm : ∃ m : Nat, atI [D.int 1, .int 1, .int 2, .int 3, .int 5, .int 8] k = some (.int (m : Int)) ∧ 1 ≤ m ∧ m ≤ 8 := by
    have : k = 0 ∨ k = 1 ∨ k = 2 ∨ k = 3 ∨ k = 4 ∨ k = 5 := by omega
    rcases this with rfl | rfl | rfl | rfl | rfl | rfl
    · exact ⟨1, rfl, by omega, by omega⟩
    · exact ⟨1, rfl, by omega, by omega⟩
    · exact ⟨2, rfl, by omega, by omega⟩
    · exact ⟨3, rfl, by omega, by omega⟩
    · exact ⟨5, rfl, by omega, by omega⟩
    · exact ⟨8, rfl, by omega, by omega⟩
  obtain ⟨m, em, m1, m2⟩ := hm
  have hd := lc_draw (t := .n 2) (g := []) (c := fun _ M => .ok true M) (e := (den (evF Pr (n + 1)) (.idx (.k (.str "abcdefghijklmnopqrstuvwxyz")) (.call i__law_taken (.cons (.var 0) (.cons (.k (.int 26)) .nil))))).v) (vs := [some (.loc 0), some (.d (.int m)), none]) (fun r : RowS => r.c ns :: T) isLetter (fun _ => rfl) (rangeD 0 m) r1 (by
    intro x hx a
    obtain ⟨k2, a2, e2, h3, h4⟩ := ev_taken n ns a T 26 (by omega) (by omega)
    obtain ⟨c, e3, h5⟩ := abc_at h3 h4
    refine ⟨[some (.loc 0), some (.d (.int m)), some (.d x)], rfl, rfl, .str ⟨#[c]⟩, a2, ?_, c, rfl, h5⟩
    have e3 : atI (Str.ofString "abcdefghijklmnopqrstuvwxyz").cps.toList k2 = some c := e3
    simp only [dv_idx, dv_k, dv_call, da_cons, da_nil, dv_var, List.getElem?_cons_zero, bind_ok', frz, e2, der, Option.bind_some, idx_str, e3, Option.map_some, lift_some])
  obtain ⟨ys, r2, e4, l4, j4⟩ := hd
  obtain ⟨zs, z1, z2, z3, z4, z5⟩ := letters_join j4
  have lr : (rangeD 0 m).length = m := by
    unfold rangeD
    rw [List.length_map, List.length_range]
    omega
  have hs : (zs.map (·.length)).sum + zs.length * ("" : Str).length ≤ 16777216 := by
    have : ("" : Str).length = 0 := by decide
    rw [this, z3, l4, lr]
    omega
  have eL : (Str.join "" zs).cps.toList.length = m := by rw [join_nil_app, z5, l4, lr]
  refine ⟨Str.join "" zs, r2, (evF_of (vs := [some (.loc 0), none, none]) (r := .ret (.d (.str (Str.join "" zs))) (RowS.c ns r2 :: T)) rfl rfl rfl ?_).trans (fin_d0 (M := RowS.c ns r2 :: T)), ?_⟩
  · refine seq_nx (v1 := [some (.loc 0), some (.d (.int m)), none]) (M1 := RowS.c ns r1 :: T) ?_ (seq_ret ?_)
    · simp only [e, em, dv_var, dt_var, di_var, dv_k, dt_k, di_k, dv_g, dt_g, di_g, dv_op1, dt_op1, di_op1, dv_op2, dt_op2, di_op2, dv_chain, dt_chain, di_chain, dv_ife, dt_ife, di_ife, dv_tup, dt_tup, di_tup, dv_lst, dt_lst, di_lst, dv_idx, dt_idx, di_idx, dv_sl, dt_sl, di_sl, dv_bi, dt_bi, di_bi, dv_bm, dt_bm, di_bm, dv_call, dt_call, di_call, dv_isi, dt_isi, di_isi, dv_and, dv_or, dv_not, dt_and, dt_or, dt_not, da_nil, da_cons, dp_nil, dp_cons, di_rng, di_enum, di_lc, dt_lc, es_skip, es_seq, es_cell, es_par, es_setix, es_ex, es_ret, es_retn, es_ite, es_brk, es_cnt, es_setN, es_setT, bind_ok', thenS_ok, then_nx, then_ret, then_brk, then_cnt, lift_some, R.lift, der, op1, op2, opII, bool2, cmpI, asB, frz, D.truth, isTrueE, optI, Option.bind, Option.map, List.getElem?_cons_zero, List.getElem?_cons_succ, if_true, ite_true, ite_false, Bool.false_eq_true, toD, toDs, ders, decide_true, decide_false, beq_self_eq_true, isi, D.plainTy, Ty.has, List.any_cons, List.any_nil, Bool.or_false, Bool.false_or, Bool.true_or, Bool.or_true, Bool.not_true, Bool.not_false, List.length_cons, List.length_nil, bi, idx, ixD, List.set_cons_zero, List.set_cons_succ, bindT, bindTs, setAll, asCell, iterOf, Nat.reduceLT, Nat.reduceLeDiff, Nat.reduceAdd, Nat.zero_add, Bool.and_self, Bool.and_true, Bool.true_and, Bool.and_false, Bool.false_and]
    · have er : rngOk 0 (m : Int) = true := rng_small (by omega) (by omega) (by omega) (by omega) (by omega)
      have ei : (den (evF Pr (n + 1)) (.rng (.k (.int 0)) (.var 1))).i [some (.loc 0), some (.d (.int m)), none] (RowS.c ns r1 :: T) = .ok (rangeD 0 m, []) (RowS.c ns r1 :: T) := rng_of rfl rfl er
      have el := lc_of (C := evF Pr (n + 1)) (own := [2]) (c := .nil) ei e4
      have ej := join_of (C := evF Pr (n + 1)) (o := .k (.str "")) (vs := [some (.loc 0), some (.d (.int m)), none]) (a := "") rfl el rfl z1 hs
      simp only [es_ret, ej, thenS_ok]
  · unfold goodName
    have l1 : (Str.join "" zs).length = m := by
      rw [← eL, Array.length_toList]
      rfl
    rw [l1, decide_eq_true m1, decide_eq_true m2, Bool.true_and, Bool.true_and, List.all_eq_true, join_nil_app]
    exact z4
end Pd
namespace Pd
open PySem PySem.Spec L2
theorem pigeon : ∀ (L done : List Str), L.Nodup → done.length < L.length → ∃ x ∈ L, x ∉ done
  | [], done, _, h => by simp at h
  | y :: L, done, nd, h => by
    obtain ⟨n1, n2⟩ := List.nodup_cons.mp nd
    by_cases hy : y ∈ done
    · have hl := List.length_erase_of_mem hy
      have hp : 0 < done.length := List.length_pos_of_mem hy
      obtain ⟨x, hx, hn⟩ := pigeon L (done.erase y) n2 (by rw [hl]; simp only [List.length_cons] at h; omega)
      refine ⟨x, List.mem_cons_of_mem _ hx, fun hd => hn ?_⟩
      have hne : x ≠ y := fun e => n1 (e ▸ hx)
      exact (List.mem_erase_of_ne hne).mpr hd
    · exact ⟨y, List.mem_cons_self, hy⟩
def letters : List Str := abc.cps.toList.map fun c => ⟨#[c]⟩
theorem chars_abc : chars abc = letters.map D.str := by
  unfold chars letters
  rw [List.map_map]
  rfl
theorem letters_nd : letters.Nodup := by decide +kernel
theorem letters_len : letters.length = 26 := by decide +kernel
theorem letters_good : letters.all goodName = true := by decide +kernel
def notIn (done : List Str) : D → Bool
  | .str s => !done.any (· == s)
  | _ => false
theorem free_letter {done : List Str} (h : done.length < 26) : ∃ s rest, (letters.map D.str).filter (notIn done) = .str s :: rest ∧ s ∉ done ∧ goodName s = true := by
  obtain ⟨x, hx, hn⟩ := pigeon letters done letters_nd (by rw [letters_len]; exact h)
  have hm : D.str x ∈ (letters.map D.str).filter (notIn done) := List.mem_filter.mpr ⟨List.mem_map.mpr ⟨x, hx, rfl⟩, by simp only [notIn, str_not_in hn, Bool.not_false]⟩
  cases e : (letters.map D.str).filter (notIn done) with
  | nil => rw [e] at hm; cases hm
  | cons y rest =>
    have hy : y ∈ (letters.map D.str).filter (notIn done) := by rw [e]; exact List.mem_cons_self
    obtain ⟨h1, h2⟩ := List.mem_filter.mp hy
    obtain ⟨s, hs, es⟩ := List.mem_map.mp h1
    subst es
    refine ⟨s, rest, rfl, fun hd => ?_, List.all_eq_true.mp letters_good s hs⟩
    have h2 : (!done.any (· == s)) = true := h2
    have : done.any (· == s) = true := List.any_eq_true.mpr ⟨s, hd, beq_self_eq_true s⟩
    rw [this] at h2
    cases h2
def namesC (done : List Str) : Cell := ⟨true, .lst (done.map D.str)⟩
theorem namesD (done : List Str) : (namesC done).d = .lst (done.map D.str) := rfl
abbrev body_names : S := (.seq (.set (.n 4) (.call i__law_name (.cons (.var 0) .nil))) (.seq (.ite (.op2 .inn (.var 4) (.var 2)) (.seq (.set (.n 4) (.idx (.lc [5] (.n 5) (.k (.str "abcdefghijklmnopqrstuvwxyz")) (.op2 .nin (.var 5) (.var 2)) (.var 5)) (.k (.int 0)))) .skip) .skip) (.seq (.ex (.bm .append (.var 2) (.cons (.var 4) .nil))) .skip)))
theorem app_names (n : Nat) (ns : List Int) (T : Mem) (r : RowS) (done : List Str) (s : Str) (w1 w3 : Option Vl) (hl : done.length ≤ 1000) : evS ⟨evF Pr n, Pr.W, Pr.X⟩ (.seq (.ex (.bm .append (.var 2) (.cons (.var 4) .nil))) .skip) [some (.loc 0), w1, some (.loc (T.length + 1)), w3, some (.d (.str s)), none] (r.c ns :: (T ++ [namesC done])) = .nx [some (.loc 0), w1, some (.loc (T.length + 1)), w3, some (.d (.str s)), none] (r.c ns :: (T ++ [namesC (done ++ [s])])) := by
  have e4 : ∀ ys, bmTy .append (some (.lst ys)) = true := fun _ => rfl
  have l1 : (done.map D.str).length < sizeLine := len_lt (by rw [List.length_map]; omega)
  have ec : namesC (done ++ [s]) = ⟨true, .lst (done.map D.str ++ [D.str s])⟩ := by simp [namesC]
  have en : namesC done = ⟨true, .lst (done.map D.str)⟩ := rfl
  rw [ec]
  simp only [en, own_get0, own_set0, e4, Bm.mut, mutate, bmM, l1, dv_var, dt_var, di_var, dv_k, dt_k, di_k, dv_g, dt_g, di_g, dv_op1, dt_op1, di_op1, dv_op2, dt_op2, di_op2, dv_chain, dt_chain, di_chain, dv_ife, dt_ife, di_ife, dv_tup, dt_tup, di_tup, dv_lst, dt_lst, di_lst, dv_idx, dt_idx, di_idx, dv_sl, dt_sl, di_sl, dv_bi, dt_bi, di_bi, dv_bm, dt_bm, di_bm, dv_call, dt_call, di_call, dv_isi, dt_isi, di_isi, dv_and, dv_or, dv_not, dt_and, dt_or, dt_not, da_nil, da_cons, dp_nil, dp_cons, di_rng, di_enum, di_lc, dt_lc, es_skip, es_seq, es_cell, es_par, es_setix, es_ex, es_ret, es_retn, es_ite, es_brk, es_cnt, es_setN, es_setT, bind_ok', thenS_ok, then_nx, then_ret, then_brk, then_cnt, lift_some, R.lift, der, op1, op2, opII, bool2, cmpI, asB, frz, D.truth, isTrueE, optI, Option.bind, Option.map, List.getElem?_cons_zero, List.getElem?_cons_succ, if_true, ite_true, ite_false, Bool.false_eq_true, toD, toDs, ders, decide_true, decide_false, beq_self_eq_true, isi, D.plainTy, Ty.has, List.any_cons, List.any_nil, Bool.or_false, Bool.false_or, Bool.true_or, Bool.or_true, Bool.not_true, Bool.not_false, List.length_cons, List.length_nil, bi, idx, ixD, List.set_cons_zero, List.set_cons_succ, bindT, bindTs, setAll, asCell, iterOf, Nat.reduceLT, Nat.reduceLeDiff, Nat.reduceAdd, Nat.zero_add, Bool.and_self, Bool.and_true, Bool.true_and, Bool.and_false, Bool.false_and]
theorem loop_names (n : Nat) (ns : List Int) (T : Mem) (w1 : Option Vl) : ∀ (j : Nat) (k0 : Int) (done : List Str) (r : RowS) (w3 w4 : Option Vl), done.length + j ≤ 12 → done.Nodup → (∀ s ∈ done, goodName s = true) →
    ∃ all r' w3' w4', forGo (.n 3) [] (evS ⟨evF Pr (n + 2), Pr.W, Pr.X⟩ body_names) (rangeD k0 (k0 + (j : Int))) [some (.loc 0), w1, some (.loc (T.length + 1)), w3, w4, none] (r.c ns :: (T ++ [namesC done])) = .nx [some (.loc 0), w1, some (.loc (T.length + 1)), w3', w4', none] (RowS.c ns r' :: (T ++ [namesC all])) ∧
      all.length = done.length + j ∧ all.Nodup ∧ ∀ s ∈ all, goodName s = true
  | 0, k0, done, r, w3, w4, _, nd, hg => ⟨done, r, w3, w4, by
    have e : rangeD k0 (k0 + ((0 : Nat) : Int)) = [] := by
      unfold rangeD
      have : (k0 + ((0 : Nat) : Int) - k0).toNat = 0 := by omega
      rw [this]
      rfl
    rw [e]
    exact for_end rfl, rfl, nd, hg⟩
  | j + 1, k0, done, r, w3, w4, hl, nd, hg => by
    obtain ⟨s, r1, e1, hs⟩ := ev_name n ns r (T ++ [namesC done])
    have any1 := any_strs s done
    have f1 : D.flat D.deep (.str s) = true := by simp only [D.flat]
    have f2 := flats_strs D.deep done
    have fin : ∀ (z : Str), z ∉ done → goodName z = true → ∃ all r' w3' w4', forGo (.n 3) [] (evS ⟨evF Pr (n + 2), Pr.W, Pr.X⟩ body_names) (rangeD (k0 + 1) (k0 + 1 + (j : Int))) [some (.loc 0), w1, some (.loc (T.length + 1)), some (.d (.int k0)), some (.d (.str z)), none] (r1.c ns :: (T ++ [namesC (done ++ [z])])) = .nx [some (.loc 0), w1, some (.loc (T.length + 1)), w3', w4', none] (RowS.c ns r' :: (T ++ [namesC all])) ∧
      all.length = done.length + (j + 1) ∧ all.Nodup ∧ ∀ s ∈ all, goodName s = true := fun z hz gz => by
      obtain ⟨all, r', w3', w4', e, l, n1, g1⟩ := loop_names n ns T w1 j (k0 + 1) (done ++ [z]) r1 (some (.d (.int k0))) (some (.d (.str z))) (by simp; omega) (by
        rw [List.nodup_append]
        exact ⟨nd, by simp, fun a ha b hb e => hz (by rw [List.mem_singleton.mp hb] at e; exact e ▸ ha)⟩) (fun y hy => by
        rcases List.mem_append.mp hy with q | q
        · exact hg y q
        · rw [List.mem_singleton.mp q]; exact gz)
      exact ⟨all, r', w3', w4', e, by rw [l]; simp; omega, n1, g1⟩
    rw [range_succ]
    by_cases hin : s ∈ done
    · obtain ⟨z, rest, ef, hz, gz⟩ := free_letter (done := done) (by omega)
      obtain ⟨all, r', w3', w4', e, l, n1, g1⟩ := fin z hz gz
      refine ⟨all, r', w3', w4', for_nx (v1 := [some (.loc 0), w1, some (.loc (T.length + 1)), some (.d (.int k0)), w4, none]) rfl rfl ?_ e, l, n1, g1⟩
      refine seq_nx (v1 := [some (.loc 0), w1, some (.loc (T.length + 1)), some (.d (.int k0)), some (.d (.str s)), none]) (M1 := RowS.c ns r1 :: (T ++ [namesC done])) (by simp only [e1, dv_var, dt_var, di_var, dv_k, dt_k, di_k, dv_g, dt_g, di_g, dv_op1, dt_op1, di_op1, dv_op2, dt_op2, di_op2, dv_chain, dt_chain, di_chain, dv_ife, dt_ife, di_ife, dv_tup, dt_tup, di_tup, dv_lst, dt_lst, di_lst, dv_idx, dt_idx, di_idx, dv_sl, dt_sl, di_sl, dv_bi, dt_bi, di_bi, dv_bm, dt_bm, di_bm, dv_call, dt_call, di_call, dv_isi, dt_isi, di_isi, dv_and, dv_or, dv_not, dt_and, dt_or, dt_not, da_nil, da_cons, dp_nil, dp_cons, di_rng, di_enum, di_lc, dt_lc, es_skip, es_seq, es_cell, es_par, es_setix, es_ex, es_ret, es_retn, es_ite, es_brk, es_cnt, es_setN, es_setT, bind_ok', thenS_ok, then_nx, then_ret, then_brk, then_cnt, lift_some, R.lift, der, op1, op2, opII, bool2, cmpI, asB, frz, D.truth, isTrueE, optI, Option.bind, Option.map, List.getElem?_cons_zero, List.getElem?_cons_succ, if_true, ite_true, ite_false, Bool.false_eq_true, toD, toDs, ders, decide_true, decide_false, beq_self_eq_true, isi, D.plainTy, Ty.has, List.any_cons, List.any_nil, Bool.or_false, Bool.false_or, Bool.true_or, Bool.or_true, Bool.not_true, Bool.not_false, List.length_cons, List.length_nil, bi, idx, ixD, List.set_cons_zero, List.set_cons_succ, bindT, bindTs, setAll, asCell, iterOf, Nat.reduceLT, Nat.reduceLeDiff, Nat.reduceAdd, Nat.zero_add, Bool.and_self, Bool.and_true, Bool.true_and, Bool.and_false, Bool.false_and]) ?_
      refine seq_nx (v1 := [some (.loc 0), w1, some (.loc (T.length + 1)), some (.d (.int k0)), some (.d (.str z)), none]) (M1 := RowS.c ns r1 :: (T ++ [namesC done])) ?_ (app_names (n + 2) ns T r1 done z w1 (some (.d (.int k0))) (by omega))
      have a1 : done.any (· == s) = true := List.any_eq_true.mpr ⟨s, hin, beq_self_eq_true s⟩
      rw [a1] at any1
      have hlc := lc_map (t := .n 5) (g := []) (c := (den (evF Pr (n + 2)) (.op2 .nin (.var 5) (.var 2))).t) (e := (den (evF Pr (n + 2)) (.var 5)).v) (vs := [some (.loc 0), w1, some (.loc (T.length + 1)), some (.d (.int k0)), some (.d (.str s)), none]) (M := RowS.c ns r1 :: (T ++ [namesC done])) id (notIn done) rfl (xs := letters.map D.str) (by
        intro x hx
        obtain ⟨y, hy, ey⟩ := List.mem_map.mp hx
        subst ey
        refine ⟨[some (.loc 0), w1, some (.loc (T.length + 1)), some (.d (.int k0)), some (.d (.str s)), some (.d (.str y))], rfl, ?_, fun _ => ⟨.d (.str y), rfl, rfl⟩⟩
        have a2 := any_strs y done
        have f3 : D.flat D.deep (.str y) = true := by simp only [D.flat]
        simp only [namesD, own_get0, a2, f3, f2, notIn, dv_var, dt_var, di_var, dv_k, dt_k, di_k, dv_g, dt_g, di_g, dv_op1, dt_op1, di_op1, dv_op2, dt_op2, di_op2, dv_chain, dt_chain, di_chain, dv_ife, dt_ife, di_ife, dv_tup, dt_tup, di_tup, dv_lst, dt_lst, di_lst, dv_idx, dt_idx, di_idx, dv_sl, dt_sl, di_sl, dv_bi, dt_bi, di_bi, dv_bm, dt_bm, di_bm, dv_call, dt_call, di_call, dv_isi, dt_isi, di_isi, dv_and, dv_or, dv_not, dt_and, dt_or, dt_not, da_nil, da_cons, dp_nil, dp_cons, di_rng, di_enum, di_lc, dt_lc, es_skip, es_seq, es_cell, es_par, es_setix, es_ex, es_ret, es_retn, es_ite, es_brk, es_cnt, es_setN, es_setT, bind_ok', thenS_ok, then_nx, then_ret, then_brk, then_cnt, lift_some, R.lift, der, op1, op2, opII, bool2, cmpI, asB, frz, D.truth, isTrueE, optI, Option.bind, Option.map, List.getElem?_cons_zero, List.getElem?_cons_succ, if_true, ite_true, ite_false, Bool.false_eq_true, toD, toDs, ders, decide_true, decide_false, beq_self_eq_true, isi, D.plainTy, Ty.has, List.any_cons, List.any_nil, Bool.or_false, Bool.false_or, Bool.true_or, Bool.or_true, Bool.not_true, Bool.not_false, List.length_cons, List.length_nil, bi, idx, ixD, List.set_cons_zero, List.set_cons_succ, bindT, bindTs, setAll, asCell, iterOf, Nat.reduceLT, Nat.reduceLeDiff, Nat.reduceAdd, Nat.zero_add, Bool.and_self, Bool.and_true, Bool.true_and, Bool.and_false, Bool.false_and])
      rw [List.map_id, ef] at hlc
      have el := lc_of (C := evF Pr (n + 2)) (own := [5]) (it := .k (.str "abcdefghijklmnopqrstuvwxyz")) (c := .op2 .nin (.var 5) (.var 2)) (vs := [some (.loc 0), w1, some (.loc (T.length + 1)), some (.d (.int k0)), some (.d (.str s)), none]) (M := RowS.c ns r1 :: (T ++ [namesC done])) (xs := letters.map D.str) (g := []) (by
        rw [← chars_abc]
        rfl) hlc
      have ez : atI (D.str z :: rest) 0 = some (.str z) := by
        unfold L2.atI L2.ixN
        have : (0 : Int) < ((D.str z :: rest).length : Int) := by simp only [List.length_cons]; omega
        rw [if_pos (Int.le_refl 0), if_pos this]
        rfl
      simp only [namesD, own_get0, any1, f1, f2, el, ez, dv_var, dt_var, di_var, dv_k, dt_k, di_k, dv_g, dt_g, di_g, dv_op1, dt_op1, di_op1, dv_op2, dt_op2, di_op2, dv_chain, dt_chain, di_chain, dv_ife, dt_ife, di_ife, dv_tup, dt_tup, di_tup, dv_lst, dt_lst, di_lst, dv_idx, dt_idx, di_idx, dv_sl, dt_sl, di_sl, dv_bi, dt_bi, di_bi, dv_bm, dt_bm, di_bm, dv_call, dt_call, di_call, dv_isi, dt_isi, di_isi, dv_and, dv_or, dv_not, dt_and, dt_or, dt_not, da_nil, da_cons, dp_nil, dp_cons, di_rng, di_enum, di_lc, dt_lc, es_skip, es_seq, es_cell, es_par, es_setix, es_ex, es_ret, es_retn, es_ite, es_brk, es_cnt, es_setN, es_setT, bind_ok', thenS_ok, then_nx, then_ret, then_brk, then_cnt, lift_some, R.lift, der, op1, op2, opII, bool2, cmpI, asB, frz, D.truth, isTrueE, optI, Option.bind, Option.map, List.getElem?_cons_zero, List.getElem?_cons_succ, if_true, ite_true, ite_false, Bool.false_eq_true, toD, toDs, ders, decide_true, decide_false, beq_self_eq_true, isi, D.plainTy, Ty.has, List.any_cons, List.any_nil, Bool.or_false, Bool.false_or, Bool.true_or, Bool.or_true, Bool.not_true, Bool.not_false, List.length_cons, List.length_nil, bi, idx, ixD, List.set_cons_zero, List.set_cons_succ, bindT, bindTs, setAll, asCell, iterOf, Nat.reduceLT, Nat.reduceLeDiff, Nat.reduceAdd, Nat.zero_add, Bool.and_self, Bool.and_true, Bool.true_and, Bool.and_false, Bool.false_and]
    · obtain ⟨all, r', w3', w4', e, l, n1, g1⟩ := fin s hin hs
      refine ⟨all, r', w3', w4', for_nx (v1 := [some (.loc 0), w1, some (.loc (T.length + 1)), some (.d (.int k0)), w4, none]) rfl rfl ?_ e, l, n1, g1⟩
      refine seq_nx (v1 := [some (.loc 0), w1, some (.loc (T.length + 1)), some (.d (.int k0)), some (.d (.str s)), none]) (M1 := RowS.c ns r1 :: (T ++ [namesC done])) (by simp only [e1, dv_var, dt_var, di_var, dv_k, dt_k, di_k, dv_g, dt_g, di_g, dv_op1, dt_op1, di_op1, dv_op2, dt_op2, di_op2, dv_chain, dt_chain, di_chain, dv_ife, dt_ife, di_ife, dv_tup, dt_tup, di_tup, dv_lst, dt_lst, di_lst, dv_idx, dt_idx, di_idx, dv_sl, dt_sl, di_sl, dv_bi, dt_bi, di_bi, dv_bm, dt_bm, di_bm, dv_call, dt_call, di_call, dv_isi, dt_isi, di_isi, dv_and, dv_or, dv_not, dt_and, dt_or, dt_not, da_nil, da_cons, dp_nil, dp_cons, di_rng, di_enum, di_lc, dt_lc, es_skip, es_seq, es_cell, es_par, es_setix, es_ex, es_ret, es_retn, es_ite, es_brk, es_cnt, es_setN, es_setT, bind_ok', thenS_ok, then_nx, then_ret, then_brk, then_cnt, lift_some, R.lift, der, op1, op2, opII, bool2, cmpI, asB, frz, D.truth, isTrueE, optI, Option.bind, Option.map, List.getElem?_cons_zero, List.getElem?_cons_succ, if_true, ite_true, ite_false, Bool.false_eq_true, toD, toDs, ders, decide_true, decide_false, beq_self_eq_true, isi, D.plainTy, Ty.has, List.any_cons, List.any_nil, Bool.or_false, Bool.false_or, Bool.true_or, Bool.or_true, Bool.not_true, Bool.not_false, List.length_cons, List.length_nil, bi, idx, ixD, List.set_cons_zero, List.set_cons_succ, bindT, bindTs, setAll, asCell, iterOf, Nat.reduceLT, Nat.reduceLeDiff, Nat.reduceAdd, Nat.zero_add, Bool.and_self, Bool.and_true, Bool.true_and, Bool.and_false, Bool.false_and]) ?_
      refine seq_nx (v1 := [some (.loc 0), w1, some (.loc (T.length + 1)), some (.d (.int k0)), some (.d (.str s)), none]) (M1 := RowS.c ns r1 :: (T ++ [namesC done])) ?_ (app_names (n + 2) ns T r1 done s w1 (some (.d (.int k0))) (by omega))
      rw [str_not_in hin] at any1
      simp only [namesD, own_get0, any1, f1, f2, dv_var, dt_var, di_var, dv_k, dt_k, di_k, dv_g, dt_g, di_g, dv_op1, dt_op1, di_op1, dv_op2, dt_op2, di_op2, dv_chain, dt_chain, di_chain, dv_ife, dt_ife, di_ife, dv_tup, dt_tup, di_tup, dv_lst, dt_lst, di_lst, dv_idx, dt_idx, di_idx, dv_sl, dt_sl, di_sl, dv_bi, dt_bi, di_bi, dv_bm, dt_bm, di_bm, dv_call, dt_call, di_call, dv_isi, dt_isi, di_isi, dv_and, dv_or, dv_not, dt_and, dt_or, dt_not, da_nil, da_cons, dp_nil, dp_cons, di_rng, di_enum, di_lc, dt_lc, es_skip, es_seq, es_cell, es_par, es_setix, es_ex, es_ret, es_retn, es_ite, es_brk, es_cnt, es_setN, es_setT, bind_ok', thenS_ok, then_nx, then_ret, then_brk, then_cnt, lift_some, R.lift, der, op1, op2, opII, bool2, cmpI, asB, frz, D.truth, isTrueE, optI, Option.bind, Option.map, List.getElem?_cons_zero, List.getElem?_cons_succ, if_true, ite_true, ite_false, Bool.false_eq_true, toD, toDs, ders, decide_true, decide_false, beq_self_eq_true, isi, D.plainTy, Ty.has, List.any_cons, List.any_nil, Bool.or_false, Bool.false_or, Bool.true_or, Bool.or_true, Bool.not_true, Bool.not_false, List.length_cons, List.length_nil, bi, idx, ixD, List.set_cons_zero, List.set_cons_succ, bindT, bindTs, setAll, asCell, iterOf, Nat.reduceLT, Nat.reduceLeDiff, Nat.reduceAdd, Nat.zero_add, Bool.and_self, Bool.and_true, Bool.true_and, Bool.and_false, Bool.false_and]
theorem ev_names (n : Nat) (ns : List Int) (r : RowS) (T : Mem) (m : Nat) (hm : m ≤ 12) : ∃ (all : List Str) (r' : RowS), evF Pr (n + 3) i__law_names [.loc 0, .d (.int m)] (r.c ns :: T) = .ok (.new (.lst (all.map D.str))) (RowS.c ns r' :: T) ∧ all.length = m ∧ all.Nodup ∧ ∀ s ∈ all, goodName s = true := by
  obtain ⟨all, r', w3, w4, e, l, n1, g1⟩ := loop_names n ns T (some (.d (.int m))) m 0 [] r none none (by simp; omega) List.nodup_nil (fun s hs => by cases hs)
  refine ⟨all, r', (evF_of (vs := [some (.loc 0), some (.d (.int m)), none, none, none, none]) (r := .ret (.loc (T.length + 1)) (RowS.c ns r' :: (T ++ [namesC all]))) rfl rfl rfl ?_).trans ?_, by simpa using l, n1, g1⟩
  · refine seq_nx (v1 := [some (.loc 0), some (.d (.int m)), some (.loc (T.length + 1)), none, none, none]) (M1 := r.c ns :: (T ++ [namesC []])) rfl ?_
    have er : rngOk 0 (m : Int) = true := rng_small (by omega) (by omega) (by omega) (by omega) (by omega)
    rw [Int.zero_add] at e
    refine seq_nx (for_of (rng_of rfl rfl er) e) ?_
    rfl
  · have z := fin_loc (M := RowS.c ns r' :: T) (T := [namesC all]) (k := 0) (x := .lst (all.map D.str)) rfl
    exact z
end Pd
namespace Pd
open PySem PySem.Spec L2
def listC (rs : List Rwd) : Cell := ⟨true, .lst (rs.map rD)⟩
theorem mul_small {i j : Int} (h1 : i.natAbs < 2 ^ 40) (h2 : j.natAbs < 2 ^ 40) : mulOk i j = true := by
  unfold mulOk
  have a : i.natAbs.log2 < 40 := log_lt h1 (by omega)
  have b : j.natAbs.log2 < 40 := log_lt h2 (by omega)
  exact decide_eq_true (by omega)
abbrev e_price : E := (.call i__law_pick (.cons (.var 0) (.cons (.lst (.cons (.op2 .add (.k (.int 1)) (.call i__law_taken (.cons (.var 0) (.cons (.k (.int 6)) .nil)))) (.cons (.op2 .add (.k (.int 1)) (.call i__law_taken (.cons (.var 0) (.cons (.k (.int 20)) .nil)))) (.cons (.ife (.var 2) (.k (.int 200)) (.k (.int 7))) .nil)))) .nil)))
abbrev e_disc : E := (.call i__law_pick (.cons (.var 0) (.cons (.lst (.cons (.call i__law_taken (.cons (.var 0) (.cons (.k (.int 12)) .nil))) (.cons (.call i__law_taken (.cons (.var 0) (.cons (.k (.int 100)) .nil))) (.cons (.op2 .mul (.var 4) (.k (.int 5))) (.cons (.ife (.var 2) (.k (.int 10000)) (.k (.int 0))) .nil))))) .nil)))
abbrev body_list : S := (.seq (.set (.n 4) e_price) (.seq (.set (.n 5) e_disc) (.seq (.ex (.bm .append (.var 1) (.cons (.tup (.cons (.var 3) (.cons (.var 4) (.cons (.var 5) .nil)))) .nil))) .skip)))
theorem ev_price (n : Nat) (ns : List Int) (r : RowS) (T : Mem) (wide : Bool) (w1 w3 w4 w5 : Option Vl) : ∃ p r', (den (evF Pr (n + 2)) e_price).v [some (.loc 0), w1, some (.d (.bl wide)), w3, w4, w5] (r.c ns :: T) = .ok (.d (.int p)) (RowS.c ns r' :: T) ∧ 1 ≤ p ∧ p ≤ 200 := by
  obtain ⟨a, r1, e1, a1, a2⟩ := ev_taken (n + 1) ns r T 6 (by omega) (by omega)
  obtain ⟨b, r2, e2, b1, b2⟩ := ev_taken (n + 1) ns r1 T 20 (by omega) (by omega)
  cases wide with
  | true =>
    obtain ⟨x, r3, e3, hx⟩ := ev_pick n ns r2 T (.d (.lst [.int (1 + a), .int (1 + b), .int 200])) [.int (1 + a), .int (1 + b), .int 200] Stays.d (by simp) (by simp)
    have : ∃ p, x = .int p ∧ 1 ≤ p ∧ p ≤ 200 := by
      simp only [List.mem_cons, List.not_mem_nil, or_false] at hx
      rcases hx with h | h | h
      · exact ⟨_, h, by omega, by omega⟩
      · exact ⟨_, h, by omega, by omega⟩
      · exact ⟨_, h, by omega, by omega⟩
    obtain ⟨p, ex, h1, h2⟩ := this
    subst ex
    exact ⟨p, r3, by simp only [e_price, e1, e2, e3, dv_var, dt_var, di_var, dv_k, dt_k, di_k, dv_g, dt_g, di_g, dv_op1, dt_op1, di_op1, dv_op2, dt_op2, di_op2, dv_chain, dt_chain, di_chain, dv_ife, dt_ife, di_ife, dv_tup, dt_tup, di_tup, dv_lst, dt_lst, di_lst, dv_idx, dt_idx, di_idx, dv_sl, dt_sl, di_sl, dv_bi, dt_bi, di_bi, dv_bm, dt_bm, di_bm, dv_call, dt_call, di_call, dv_isi, dt_isi, di_isi, dv_and, dv_or, dv_not, dt_and, dt_or, dt_not, da_nil, da_cons, dp_nil, dp_cons, di_rng, di_enum, di_lc, dt_lc, es_skip, es_seq, es_cell, es_par, es_setix, es_ex, es_ret, es_retn, es_ite, es_brk, es_cnt, es_setN, es_setT, bind_ok', thenS_ok, then_nx, then_ret, then_brk, then_cnt, lift_some, R.lift, der, op1, op2, opII, bool2, cmpI, asB, frz, D.truth, isTrueE, optI, Option.bind, Option.map, List.getElem?_cons_zero, List.getElem?_cons_succ, if_true, ite_true, ite_false, Bool.false_eq_true, toD, toDs, ders, decide_true, decide_false, beq_self_eq_true, isi, D.plainTy, Ty.has, List.any_cons, List.any_nil, Bool.or_false, Bool.false_or, Bool.true_or, Bool.or_true, Bool.not_true, Bool.not_false, List.length_cons, List.length_nil, bi, idx, ixD, List.set_cons_zero, List.set_cons_succ, bindT, bindTs, setAll, asCell, iterOf, Nat.reduceLT, Nat.reduceLeDiff, Nat.reduceAdd, Nat.zero_add, Bool.and_self, Bool.and_true, Bool.true_and, Bool.and_false, Bool.false_and], h1, h2⟩
  | false =>
    obtain ⟨x, r3, e3, hx⟩ := ev_pick n ns r2 T (.d (.lst [.int (1 + a), .int (1 + b), .int 7])) [.int (1 + a), .int (1 + b), .int 7] Stays.d (by simp) (by simp)
    have : ∃ p, x = .int p ∧ 1 ≤ p ∧ p ≤ 200 := by
      simp only [List.mem_cons, List.not_mem_nil, or_false] at hx
      rcases hx with h | h | h
      · exact ⟨_, h, by omega, by omega⟩
      · exact ⟨_, h, by omega, by omega⟩
      · exact ⟨_, h, by omega, by omega⟩
    obtain ⟨p, ex, h1, h2⟩ := this
    subst ex
    exact ⟨p, r3, by simp only [e_price, e1, e2, e3, dv_var, dt_var, di_var, dv_k, dt_k, di_k, dv_g, dt_g, di_g, dv_op1, dt_op1, di_op1, dv_op2, dt_op2, di_op2, dv_chain, dt_chain, di_chain, dv_ife, dt_ife, di_ife, dv_tup, dt_tup, di_tup, dv_lst, dt_lst, di_lst, dv_idx, dt_idx, di_idx, dv_sl, dt_sl, di_sl, dv_bi, dt_bi, di_bi, dv_bm, dt_bm, di_bm, dv_call, dt_call, di_call, dv_isi, dt_isi, di_isi, dv_and, dv_or, dv_not, dt_and, dt_or, dt_not, da_nil, da_cons, dp_nil, dp_cons, di_rng, di_enum, di_lc, dt_lc, es_skip, es_seq, es_cell, es_par, es_setix, es_ex, es_ret, es_retn, es_ite, es_brk, es_cnt, es_setN, es_setT, bind_ok', thenS_ok, then_nx, then_ret, then_brk, then_cnt, lift_some, R.lift, der, op1, op2, opII, bool2, cmpI, asB, frz, D.truth, isTrueE, optI, Option.bind, Option.map, List.getElem?_cons_zero, List.getElem?_cons_succ, if_true, ite_true, ite_false, Bool.false_eq_true, toD, toDs, ders, decide_true, decide_false, beq_self_eq_true, isi, D.plainTy, Ty.has, List.any_cons, List.any_nil, Bool.or_false, Bool.false_or, Bool.true_or, Bool.or_true, Bool.not_true, Bool.not_false, List.length_cons, List.length_nil, bi, idx, ixD, List.set_cons_zero, List.set_cons_succ, bindT, bindTs, setAll, asCell, iterOf, Nat.reduceLT, Nat.reduceLeDiff, Nat.reduceAdd, Nat.zero_add, Bool.and_self, Bool.and_true, Bool.true_and, Bool.and_false, Bool.false_and], h1, h2⟩
theorem ev_disc (n : Nat) (ns : List Int) (r : RowS) (T : Mem) (wide : Bool) (w1 w3 w5 : Option Vl) (p : Int) (p1 : 1 ≤ p) (p2 : p ≤ 200) : ∃ d r', (den (evF Pr (n + 2)) e_disc).v [some (.loc 0), w1, some (.d (.bl wide)), w3, some (.d (.int p)), w5] (r.c ns :: T) = .ok (.d (.int d)) (RowS.c ns r' :: T) ∧ 0 ≤ d ∧ d ≤ 10000 := by
  obtain ⟨a, r1, e1, a1, a2⟩ := ev_taken (n + 1) ns r T 12 (by omega) (by omega)
  obtain ⟨b, r2, e2, b1, b2⟩ := ev_taken (n + 1) ns r1 T 100 (by omega) (by omega)
  have hm : mulOk p 5 = true := mul_small (by omega) (by decide)
  cases wide with
  | true =>
    obtain ⟨x, r3, e3, hx⟩ := ev_pick n ns r2 T (.d (.lst [.int a, .int b, .int (p * 5), .int 10000])) [.int a, .int b, .int (p * 5), .int 10000] Stays.d (by simp) (by simp)
    have : ∃ p, x = .int p ∧ 0 ≤ p ∧ p ≤ 10000 := by
      simp only [List.mem_cons, List.not_mem_nil, or_false] at hx
      rcases hx with h | h | h | h
      · exact ⟨_, h, by omega, by omega⟩
      · exact ⟨_, h, by omega, by omega⟩
      · exact ⟨_, h, by omega, by omega⟩
      · exact ⟨_, h, by omega, by omega⟩
    obtain ⟨d, ex, h1, h2⟩ := this
    subst ex
    exact ⟨d, r3, by simp only [e_disc, e1, e2, e3, hm, dv_var, dt_var, di_var, dv_k, dt_k, di_k, dv_g, dt_g, di_g, dv_op1, dt_op1, di_op1, dv_op2, dt_op2, di_op2, dv_chain, dt_chain, di_chain, dv_ife, dt_ife, di_ife, dv_tup, dt_tup, di_tup, dv_lst, dt_lst, di_lst, dv_idx, dt_idx, di_idx, dv_sl, dt_sl, di_sl, dv_bi, dt_bi, di_bi, dv_bm, dt_bm, di_bm, dv_call, dt_call, di_call, dv_isi, dt_isi, di_isi, dv_and, dv_or, dv_not, dt_and, dt_or, dt_not, da_nil, da_cons, dp_nil, dp_cons, di_rng, di_enum, di_lc, dt_lc, es_skip, es_seq, es_cell, es_par, es_setix, es_ex, es_ret, es_retn, es_ite, es_brk, es_cnt, es_setN, es_setT, bind_ok', thenS_ok, then_nx, then_ret, then_brk, then_cnt, lift_some, R.lift, der, op1, op2, opII, bool2, cmpI, asB, frz, D.truth, isTrueE, optI, Option.bind, Option.map, List.getElem?_cons_zero, List.getElem?_cons_succ, if_true, ite_true, ite_false, Bool.false_eq_true, toD, toDs, ders, decide_true, decide_false, beq_self_eq_true, isi, D.plainTy, Ty.has, List.any_cons, List.any_nil, Bool.or_false, Bool.false_or, Bool.true_or, Bool.or_true, Bool.not_true, Bool.not_false, List.length_cons, List.length_nil, bi, idx, ixD, List.set_cons_zero, List.set_cons_succ, bindT, bindTs, setAll, asCell, iterOf, Nat.reduceLT, Nat.reduceLeDiff, Nat.reduceAdd, Nat.zero_add, Bool.and_self, Bool.and_true, Bool.true_and, Bool.and_false, Bool.false_and], h1, h2⟩
  | false =>
    obtain ⟨x, r3, e3, hx⟩ := ev_pick n ns r2 T (.d (.lst [.int a, .int b, .int (p * 5), .int 0])) [.int a, .int b, .int (p * 5), .int 0] Stays.d (by simp) (by simp)
    have : ∃ p, x = .int p ∧ 0 ≤ p ∧ p ≤ 10000 := by
      simp only [List.mem_cons, List.not_mem_nil, or_false] at hx
      rcases hx with h | h | h | h
      · exact ⟨_, h, by omega, by omega⟩
      · exact ⟨_, h, by omega, by omega⟩
      · exact ⟨_, h, by omega, by omega⟩
      · exact ⟨_, h, by omega, by omega⟩
    obtain ⟨d, ex, h1, h2⟩ := this
    subst ex
    exact ⟨d, r3, by simp only [e_disc, e1, e2, e3, hm, dv_var, dt_var, di_var, dv_k, dt_k, di_k, dv_g, dt_g, di_g, dv_op1, dt_op1, di_op1, dv_op2, dt_op2, di_op2, dv_chain, dt_chain, di_chain, dv_ife, dt_ife, di_ife, dv_tup, dt_tup, di_tup, dv_lst, dt_lst, di_lst, dv_idx, dt_idx, di_idx, dv_sl, dt_sl, di_sl, dv_bi, dt_bi, di_bi, dv_bm, dt_bm, di_bm, dv_call, dt_call, di_call, dv_isi, dt_isi, di_isi, dv_and, dv_or, dv_not, dt_and, dt_or, dt_not, da_nil, da_cons, dp_nil, dp_cons, di_rng, di_enum, di_lc, dt_lc, es_skip, es_seq, es_cell, es_par, es_setix, es_ex, es_ret, es_retn, es_ite, es_brk, es_cnt, es_setN, es_setT, bind_ok', thenS_ok, then_nx, then_ret, then_brk, then_cnt, lift_some, R.lift, der, op1, op2, opII, bool2, cmpI, asB, frz, D.truth, isTrueE, optI, Option.bind, Option.map, List.getElem?_cons_zero, List.getElem?_cons_succ, if_true, ite_true, ite_false, Bool.false_eq_true, toD, toDs, ders, decide_true, decide_false, beq_self_eq_true, isi, D.plainTy, Ty.has, List.any_cons, List.any_nil, Bool.or_false, Bool.false_or, Bool.true_or, Bool.or_true, Bool.not_true, Bool.not_false, List.length_cons, List.length_nil, bi, idx, ixD, List.set_cons_zero, List.set_cons_succ, bindT, bindTs, setAll, asCell, iterOf, Nat.reduceLT, Nat.reduceLeDiff, Nat.reduceAdd, Nat.zero_add, Bool.and_self, Bool.and_true, Bool.true_and, Bool.and_false, Bool.false_and], h1, h2⟩
theorem loop_list (n : Nat) (ns : List Int) (T : Mem) (wide : Bool) : ∀ (todo : List Str) (done : List Rwd) (r : RowS) (w3 w4 w5 : Option Vl), (∀ s ∈ todo, goodName s = true) → done.length + todo.length ≤ 12 → (∀ r ∈ done, goodR r = true) →
    ∃ (all : List Rwd) (r' : RowS) (w3' w4' w5' : Option Vl), forGo (.n 3) [] (evS ⟨evF Pr (n + 2), Pr.W, Pr.X⟩ body_list) (todo.map D.str) [some (.loc 0), some (.loc (T.length + 1)), some (.d (.bl wide)), w3, w4, w5] (r.c ns :: (T ++ [listC done])) = .nx [some (.loc 0), some (.loc (T.length + 1)), some (.d (.bl wide)), w3', w4', w5'] (RowS.c ns r' :: (T ++ [listC all])) ∧
      all.map (·.1) = done.map (·.1) ++ todo ∧ ∀ r ∈ all, goodR r = true
  | [], done, r, w3, w4, w5, _, _, hg => ⟨done, r, w3, w4, w5, rfl, by simp, hg⟩
  | s :: todo, done, r, w3, w4, w5, hs, hl, hg => by
    obtain ⟨p, r1, e1, p1, p2⟩ := ev_price n ns r (T ++ [listC done]) wide (some (.loc (T.length + 1))) (some (.d (.str s))) w4 w5
    obtain ⟨d, r2, e2, d1, d2⟩ := ev_disc n ns r1 (T ++ [listC done]) wide (some (.loc (T.length + 1))) (some (.d (.str s))) w5 p p1 p2
    have gr : goodR (s, p, d) = true := by
      unfold goodR
      rw [hs s List.mem_cons_self, decide_eq_true p1, decide_eq_true p2, decide_eq_true d1, decide_eq_true d2]
      rfl
    obtain ⟨all, r', w3', w4', w5', e, l, g1⟩ := loop_list n ns T wide todo (done ++ [(s, p, d)]) r2 (some (.d (.str s))) (some (.d (.int p))) (some (.d (.int d))) (fun y hy => hs y (List.mem_cons_of_mem _ hy)) (by simp at hl ⊢; omega) (fun y hy => by
      rcases List.mem_append.mp hy with q | q
      · exact hg y q
      · rw [List.mem_singleton.mp q]; exact gr)
    refine ⟨all, r', w3', w4', w5', for_nx (v1 := [some (.loc 0), some (.loc (T.length + 1)), some (.d (.bl wide)), some (.d (.str s)), w4, w5]) rfl rfl ?_ e, by rw [l]; simp, g1⟩
    refine seq_nx (v1 := [some (.loc 0), some (.loc (T.length + 1)), some (.d (.bl wide)), some (.d (.str s)), some (.d (.int p)), w5]) (M1 := RowS.c ns r1 :: (T ++ [listC done])) (by simp only [es_setN, e1, thenS_ok, List.length_cons, List.length_nil, Nat.reduceAdd, Nat.reduceLT, if_true, frz, List.set_cons_succ, List.set_cons_zero]) ?_
    refine seq_nx (v1 := [some (.loc 0), some (.loc (T.length + 1)), some (.d (.bl wide)), some (.d (.str s)), some (.d (.int p)), some (.d (.int d))]) (M1 := RowS.c ns r2 :: (T ++ [listC done])) (by simp only [es_setN, e2, thenS_ok, List.length_cons, List.length_nil, Nat.reduceAdd, Nat.reduceLT, if_true, frz, List.set_cons_succ, List.set_cons_zero]) ?_
    have e4 : ∀ ys, bmTy .append (some (.lst ys)) = true := fun _ => rfl
    have l1 : (done.map rD).length < sizeLine := len_lt (by rw [List.length_map]; omega)
    have ec : listC (done ++ [(s, p, d)]) = ⟨true, .lst (done.map rD ++ [D.tup [.str s, .int p, .int d]])⟩ := by simp [listC, rD]
    have en : listC done = ⟨true, .lst (done.map rD)⟩ := rfl
    rw [ec]
    simp only [en, own_get0, own_set0, e4, Bm.mut, mutate, bmM, l1, dv_var, dt_var, di_var, dv_k, dt_k, di_k, dv_g, dt_g, di_g, dv_op1, dt_op1, di_op1, dv_op2, dt_op2, di_op2, dv_chain, dt_chain, di_chain, dv_ife, dt_ife, di_ife, dv_tup, dt_tup, di_tup, dv_lst, dt_lst, di_lst, dv_idx, dt_idx, di_idx, dv_sl, dt_sl, di_sl, dv_bi, dt_bi, di_bi, dv_bm, dt_bm, di_bm, dv_call, dt_call, di_call, dv_isi, dt_isi, di_isi, dv_and, dv_or, dv_not, dt_and, dt_or, dt_not, da_nil, da_cons, dp_nil, dp_cons, di_rng, di_enum, di_lc, dt_lc, es_skip, es_seq, es_cell, es_par, es_setix, es_ex, es_ret, es_retn, es_ite, es_brk, es_cnt, es_setN, es_setT, bind_ok', thenS_ok, then_nx, then_ret, then_brk, then_cnt, lift_some, R.lift, der, op1, op2, opII, bool2, cmpI, asB, frz, D.truth, isTrueE, optI, Option.bind, Option.map, List.getElem?_cons_zero, List.getElem?_cons_succ, if_true, ite_true, ite_false, Bool.false_eq_true, toD, toDs, ders, decide_true, decide_false, beq_self_eq_true, isi, D.plainTy, Ty.has, List.any_cons, List.any_nil, Bool.or_false, Bool.false_or, Bool.true_or, Bool.or_true, Bool.not_true, Bool.not_false, List.length_cons, List.length_nil, bi, idx, ixD, List.set_cons_zero, List.set_cons_succ, bindT, bindTs, setAll, asCell, iterOf, Nat.reduceLT, Nat.reduceLeDiff, Nat.reduceAdd, Nat.zero_add, Bool.and_self, Bool.and_true, Bool.true_and, Bool.and_false, Bool.false_and]
theorem ev_list (n : Nat) (ns : List Int) (r : RowS) (T : Mem) : ∃ (rs : List Rwd) (r' : RowS), evF Pr (n + 4) i__law_list [.loc 0] (r.c ns :: T) = .ok (.new (.lst (rs.map rD))) (RowS.c ns r' :: T) ∧ goodRs rs := by
  obtain ⟨k, r1, e1, _, _⟩ := ev_taken (n + 2) ns r (T ++ [listC []]) 12 (by omega) (by omega)
  have many : ∃ (m : Nat) (r2 : RowS), (den (evF Pr (n + 3)) (.ife (.var 2) (.k (.int 12)) (.op2 .add (.k (.int 1)) (.call i__law_taken (.cons (.var 0) (.cons (.k (.int 5)) .nil)))))).v [some (.loc 0), some (.loc (T.length + 1)), some (.d (.bl (k == 0))), none, none, none] (RowS.c ns r1 :: (T ++ [listC []])) = .ok (.d (.int (m : Int))) (RowS.c ns r2 :: (T ++ [listC []])) ∧ 1 ≤ m ∧ m ≤ 12 := by
    by_cases hk : (k == 0) = true
    · refine ⟨12, r1, ?_, by omega, by omega⟩
      simp only [hk, dv_var, dt_var, di_var, dv_k, dt_k, di_k, dv_g, dt_g, di_g, dv_op1, dt_op1, di_op1, dv_op2, dt_op2, di_op2, dv_chain, dt_chain, di_chain, dv_ife, dt_ife, di_ife, dv_tup, dt_tup, di_tup, dv_lst, dt_lst, di_lst, dv_idx, dt_idx, di_idx, dv_sl, dt_sl, di_sl, dv_bi, dt_bi, di_bi, dv_bm, dt_bm, di_bm, dv_call, dt_call, di_call, dv_isi, dt_isi, di_isi, dv_and, dv_or, dv_not, dt_and, dt_or, dt_not, da_nil, da_cons, dp_nil, dp_cons, di_rng, di_enum, di_lc, dt_lc, es_skip, es_seq, es_cell, es_par, es_setix, es_ex, es_ret, es_retn, es_ite, es_brk, es_cnt, es_setN, es_setT, bind_ok', thenS_ok, then_nx, then_ret, then_brk, then_cnt, lift_some, R.lift, der, op1, op2, opII, bool2, cmpI, asB, frz, D.truth, isTrueE, optI, Option.bind, Option.map, List.getElem?_cons_zero, List.getElem?_cons_succ, if_true, ite_true, ite_false, Bool.false_eq_true, toD, toDs, ders, decide_true, decide_false, beq_self_eq_true, isi, D.plainTy, Ty.has, List.any_cons, List.any_nil, Bool.or_false, Bool.false_or, Bool.true_or, Bool.or_true, Bool.not_true, Bool.not_false, List.length_cons, List.length_nil, bi, idx, ixD, List.set_cons_zero, List.set_cons_succ, bindT, bindTs, setAll, asCell, iterOf, Nat.reduceLT, Nat.reduceLeDiff, Nat.reduceAdd, Nat.zero_add, Bool.and_self, Bool.and_true, Bool.true_and, Bool.and_false, Bool.false_and]
      rfl
    · obtain ⟨j, r2, e2, j1, j2⟩ := ev_taken (n + 2) ns r1 (T ++ [listC []]) 5 (by omega) (by omega)
      refine ⟨(1 + j).toNat, r2, ?_, by omega, by omega⟩
      have hk : (k == 0) = false := by simpa using hk
      have ej : (((1 + j).toNat : Nat) : Int) = 1 + j := by omega
      rw [ej]
      simp only [hk, e2, dv_var, dt_var, di_var, dv_k, dt_k, di_k, dv_g, dt_g, di_g, dv_op1, dt_op1, di_op1, dv_op2, dt_op2, di_op2, dv_chain, dt_chain, di_chain, dv_ife, dt_ife, di_ife, dv_tup, dt_tup, di_tup, dv_lst, dt_lst, di_lst, dv_idx, dt_idx, di_idx, dv_sl, dt_sl, di_sl, dv_bi, dt_bi, di_bi, dv_bm, dt_bm, di_bm, dv_call, dt_call, di_call, dv_isi, dt_isi, di_isi, dv_and, dv_or, dv_not, dt_and, dt_or, dt_not, da_nil, da_cons, dp_nil, dp_cons, di_rng, di_enum, di_lc, dt_lc, es_skip, es_seq, es_cell, es_par, es_setix, es_ex, es_ret, es_retn, es_ite, es_brk, es_cnt, es_setN, es_setT, bind_ok', thenS_ok, then_nx, then_ret, then_brk, then_cnt, lift_some, R.lift, der, op1, op2, opII, bool2, cmpI, asB, frz, D.truth, isTrueE, optI, Option.bind, Option.map, List.getElem?_cons_zero, List.getElem?_cons_succ, if_true, ite_true, ite_false, Bool.false_eq_true, toD, toDs, ders, decide_true, decide_false, beq_self_eq_true, isi, D.plainTy, Ty.has, List.any_cons, List.any_nil, Bool.or_false, Bool.false_or, Bool.true_or, Bool.or_true, Bool.not_true, Bool.not_false, List.length_cons, List.length_nil, bi, idx, ixD, List.set_cons_zero, List.set_cons_succ, bindT, bindTs, setAll, asCell, iterOf, Nat.reduceLT, Nat.reduceLeDiff, Nat.reduceAdd, Nat.zero_add, Bool.and_self, Bool.and_true, Bool.true_and, Bool.and_false, Bool.false_and]
  obtain ⟨m, r2, e2, m1, m2⟩ := many
  obtain ⟨names, r3, e3, ln, nd, gn⟩ := ev_names n ns r2 (T ++ [listC []]) m m2
  obtain ⟨all, r', w3', w4', w5', e, l, g1⟩ := loop_list (n + 1) ns T (k == 0) names [] r3 none none none gn (by simp; omega) (fun y hy => by cases hy)
  have la : all.map (·.1) = names := by simpa using l
  refine ⟨all, r', (evF_of (vs := [some (.loc 0), none, none, none, none, none]) (r := .ret (.loc (T.length + 1)) (RowS.c ns r' :: (T ++ [listC all]))) rfl rfl rfl ?_).trans ?_, ?_, ?_, g1, ?_⟩
  · refine seq_nx (v1 := [some (.loc 0), some (.loc (T.length + 1)), some (.d (.bl (k == 0))), none, none, none]) (M1 := RowS.c ns r1 :: (T ++ [listC []])) ?_ ?_
    · have el : listC [] = ⟨true, .lst []⟩ := rfl
      rw [el] at e1 ⊢
      simp only [e1, List.cons_append, dv_var, dt_var, di_var, dv_k, dt_k, di_k, dv_g, dt_g, di_g, dv_op1, dt_op1, di_op1, dv_op2, dt_op2, di_op2, dv_chain, dt_chain, di_chain, dv_ife, dt_ife, di_ife, dv_tup, dt_tup, di_tup, dv_lst, dt_lst, di_lst, dv_idx, dt_idx, di_idx, dv_sl, dt_sl, di_sl, dv_bi, dt_bi, di_bi, dv_bm, dt_bm, di_bm, dv_call, dt_call, di_call, dv_isi, dt_isi, di_isi, dv_and, dv_or, dv_not, dt_and, dt_or, dt_not, da_nil, da_cons, dp_nil, dp_cons, di_rng, di_enum, di_lc, dt_lc, es_skip, es_seq, es_cell, es_par, es_setix, es_ex, es_ret, es_retn, es_ite, es_brk, es_cnt, es_setN, es_setT, bind_ok', thenS_ok, then_nx, then_ret, then_brk, then_cnt, lift_some, R.lift, der, op1, op2, opII, bool2, cmpI, asB, frz, D.truth, isTrueE, optI, Option.bind, Option.map, List.getElem?_cons_zero, List.getElem?_cons_succ, if_true, ite_true, ite_false, Bool.false_eq_true, toD, toDs, ders, decide_true, decide_false, beq_self_eq_true, isi, D.plainTy, Ty.has, List.any_cons, List.any_nil, Bool.or_false, Bool.false_or, Bool.true_or, Bool.or_true, Bool.not_true, Bool.not_false, List.length_cons, List.length_nil, bi, idx, ixD, List.set_cons_zero, List.set_cons_succ, bindT, bindTs, setAll, asCell, iterOf, Nat.reduceLT, Nat.reduceLeDiff, Nat.reduceAdd, Nat.zero_add, Bool.and_self, Bool.and_true, Bool.true_and, Bool.and_false, Bool.false_and]
    · have ei : (den (evF Pr (n + 3)) (.call i__law_names (.cons (.var 0) (.cons (.ife (.var 2) (.k (.int 12)) (.op2 .add (.k (.int 1)) (.call i__law_taken (.cons (.var 0) (.cons (.k (.int 5)) .nil))))) .nil)))).i [some (.loc 0), some (.loc (T.length + 1)), some (.d (.bl (k == 0))), none, none, none] (RowS.c ns r1 :: (T ++ [listC []])) = .ok (names.map D.str, []) (RowS.c ns r3 :: (T ++ [listC []])) := by
        exact call_it (call2 rfl e2 rfl rfl e3)
      refine seq_nx (for_of ei e) ?_
      rfl
  · exact fin_loc (M := RowS.c ns r' :: T) (T := [listC all]) (k := 0) (x := .lst (all.map rD)) rfl
  · have := congrArg List.length la
    rw [List.length_map] at this
    omega
  · have := congrArg List.length la
    rw [List.length_map] at this
    omega
  · rw [la]
    exact nd
end Pd
namespace Pd
open PySem PySem.Spec L2
/-- the table of a list, by the law -/
def lnext (rs : List Rwd) (l : List Int) (p : Nat) : Int := maxL (0 :: (rs.filter fun r => decide (r.2.1 ≤ (p : Int))).map fun r => l.getD ((p : Int) - r.2.1).toNat 0 + r.2.2)
def ltab (rs : List Rwd) : Nat → List Int
  | 0 => []
  | m + 1 => ltab rs m ++ [lnext rs (ltab rs m) m]
theorem ltab_len (rs : List Rwd) : ∀ m, (ltab rs m).length = m
  | 0 => rfl
  | m + 1 => by simp [ltab, ltab_len rs m]
abbrev e_some : E := (.op2 .add (.lst (.cons (.k (.int 0)) .nil)) (.lc [5] (.n 5) (.var 0) (.op2 .le (.idx (.var 5) (.k (.int 1))) (.var 3)) (.op2 .add (.idx (.var 2) (.op2 .sub (.var 3) (.idx (.var 5) (.k (.int 1))))) (.idx (.var 5) (.k (.int 2))))))
def tabC (l : List Int) : Cell := ⟨true, .lst (l.map D.int)⟩
theorem tabD (l : List Int) : (tabC l).d = .lst (l.map D.int) := rfl
def keepP (p : Nat) : D → Bool
  | .tup [_, .int q, _] => decide (q ≤ (p : Int))
  | _ => false
def valP (l : List Int) (p : Nat) : D → D
  | .tup [_, .int q, .int d] => .int (l.getD ((p : Int) - q).toNat 0 + d)
  | _ => .non
theorem ev_some (n : Nat) (M : Mem) (rs : List Rwd) (hr : ∀ r ∈ rs, 1 ≤ r.2.1) (hl : rs.length ≤ 100) (l : List Int) (p : Nat) (hp : l.length = p) (w1 w4 w5 : Option Vl) :
    (den (evF Pr n) e_some).v [some (.d (.lst (rs.map rD))), w1, some (.loc M.length), some (.d (.int p)), w4, w5] (M ++ [tabC l]) = .ok (.new (.lst ((0 :: (rs.filter fun r => decide (r.2.1 ≤ (p : Int))).map fun r => l.getD ((p : Int) - r.2.1).toNat 0 + r.2.2).map D.int))) (M ++ [tabC l]) := by
  have hlc := lc_map (t := .n 5) (g := []) (c := (den (evF Pr n) (.op2 .le (.idx (.var 5) (.k (.int 1))) (.var 3))).t) (e := (den (evF Pr n) (.op2 .add (.idx (.var 2) (.op2 .sub (.var 3) (.idx (.var 5) (.k (.int 1))))) (.idx (.var 5) (.k (.int 2))))).v) (vs := [some (.d (.lst (rs.map rD))), w1, some (.loc M.length), some (.d (.int p)), w4, none]) (M := M ++ [tabC l]) (valP l p) (keepP p) rfl (xs := rs.map rD) (by
    intro x hx
    obtain ⟨r, hm, ex⟩ := List.mem_map.mp hx
    subst ex
    have h1 := hr r hm
    have e0 : atI [D.str r.1, .int r.2.1, .int r.2.2] 1 = some (.int r.2.1) := rfl
    have e1 : atI [D.str r.1, .int r.2.1, .int r.2.2] 2 = some (.int r.2.2) := rfl
    refine ⟨[some (.d (.lst (rs.map rD))), w1, some (.loc M.length), some (.d (.int p)), w4, some (.d (rD r))], rfl, ?_, fun hk => ⟨.d (valP l p (rD r)), ?_, rfl⟩⟩
    · simp only [rD, e0, keepP, dv_var, dt_var, di_var, dv_k, dt_k, di_k, dv_g, dt_g, di_g, dv_op1, dt_op1, di_op1, dv_op2, dt_op2, di_op2, dv_chain, dt_chain, di_chain, dv_ife, dt_ife, di_ife, dv_tup, dt_tup, di_tup, dv_lst, dt_lst, di_lst, dv_idx, dt_idx, di_idx, dv_sl, dt_sl, di_sl, dv_bi, dt_bi, di_bi, dv_bm, dt_bm, di_bm, dv_call, dt_call, di_call, dv_isi, dt_isi, di_isi, dv_and, dv_or, dv_not, dt_and, dt_or, dt_not, da_nil, da_cons, dp_nil, dp_cons, di_rng, di_enum, di_lc, dt_lc, es_skip, es_seq, es_cell, es_par, es_setix, es_ex, es_ret, es_retn, es_ite, es_brk, es_cnt, es_setN, es_setT, bind_ok', thenS_ok, then_nx, then_ret, then_brk, then_cnt, lift_some, R.lift, der, op1, op2, opII, bool2, cmpI, asB, frz, D.truth, isTrueE, optI, Option.bind, Option.map, List.getElem?_cons_zero, List.getElem?_cons_succ, if_true, ite_true, ite_false, Bool.false_eq_true, toD, toDs, ders, decide_true, decide_false, beq_self_eq_true, isi, D.plainTy, Ty.has, List.any_cons, List.any_nil, Bool.or_false, Bool.false_or, Bool.true_or, Bool.or_true, Bool.not_true, Bool.not_false, List.length_cons, List.length_nil, bi, idx, ixD, List.set_cons_zero, List.set_cons_succ, bindT, bindTs, setAll, asCell, iterOf, Nat.reduceLT, Nat.reduceLeDiff, Nat.reduceAdd, Nat.zero_add, Bool.and_self, Bool.and_true, Bool.true_and, Bool.and_false, Bool.false_and]
    · have hk : decide (r.2.1 ≤ (p : Int)) = true := hk
      have hk := of_decide_eq_true hk
      have ea : atI (l.map D.int) ((p : Int) - r.2.1) = some (.int (l.getD ((p : Int) - r.2.1).toNat 0)) := at_ints (by omega) (by omega)
      simp only [rD, e0, e1, ea, valP, tabD, own_get0, dv_var, dt_var, di_var, dv_k, dt_k, di_k, dv_g, dt_g, di_g, dv_op1, dt_op1, di_op1, dv_op2, dt_op2, di_op2, dv_chain, dt_chain, di_chain, dv_ife, dt_ife, di_ife, dv_tup, dt_tup, di_tup, dv_lst, dt_lst, di_lst, dv_idx, dt_idx, di_idx, dv_sl, dt_sl, di_sl, dv_bi, dt_bi, di_bi, dv_bm, dt_bm, di_bm, dv_call, dt_call, di_call, dv_isi, dt_isi, di_isi, dv_and, dv_or, dv_not, dt_and, dt_or, dt_not, da_nil, da_cons, dp_nil, dp_cons, di_rng, di_enum, di_lc, dt_lc, es_skip, es_seq, es_cell, es_par, es_setix, es_ex, es_ret, es_retn, es_ite, es_brk, es_cnt, es_setN, es_setT, bind_ok', thenS_ok, then_nx, then_ret, then_brk, then_cnt, lift_some, R.lift, der, op1, op2, opII, bool2, cmpI, asB, frz, D.truth, isTrueE, optI, Option.bind, Option.map, List.getElem?_cons_zero, List.getElem?_cons_succ, if_true, ite_true, ite_false, Bool.false_eq_true, toD, toDs, ders, decide_true, decide_false, beq_self_eq_true, isi, D.plainTy, Ty.has, List.any_cons, List.any_nil, Bool.or_false, Bool.false_or, Bool.true_or, Bool.or_true, Bool.not_true, Bool.not_false, List.length_cons, List.length_nil, bi, idx, ixD, List.set_cons_zero, List.set_cons_succ, bindT, bindTs, setAll, asCell, iterOf, Nat.reduceLT, Nat.reduceLeDiff, Nat.reduceAdd, Nat.zero_add, Bool.and_self, Bool.and_true, Bool.true_and, Bool.and_false, Bool.false_and])
  have el := lc_of (C := evF Pr n) (own := [5]) (it := .var 0) (c := .op2 .le (.idx (.var 5) (.k (.int 1))) (.var 3)) (vs := [some (.d (.lst (rs.map rD))), w1, some (.loc M.length), some (.d (.int p)), w4, w5]) (M := M ++ [tabC l]) (xs := rs.map rD) (g := []) rfl hlc
  have ef : ∀ rs : List Rwd, ((rs.map rD).filter (keepP p)).map (valP l p) = ((rs.filter fun r => decide (r.2.1 ≤ (p : Int))).map fun r => l.getD ((p : Int) - r.2.1).toNat 0 + r.2.2).map D.int := by
    intro rs
    induction rs with
    | nil => rfl
    | cons r rs ih =>
      have ek : keepP p (rD r) = decide (r.2.1 ≤ (p : Int)) := rfl
      rw [List.map_cons, List.filter_cons, List.filter_cons, ek]
      cases decide (r.2.1 ≤ (p : Int)) with
      | true =>
        simp only [if_true, List.map_cons, ih]
        rfl
      | false =>
        simp only [Bool.false_eq_true, if_false, ih]
  rw [ef rs] at el
  have ln : ((rs.filter fun r => decide (r.2.1 ≤ (p : Int))).map fun r => l.getD ((p : Int) - r.2.1).toNat 0 + r.2.2).length ≤ 100 := by
    rw [List.length_map]
    exact Nat.le_trans (List.length_filter_le _ _) hl
  have cat := op2_cat (xs := [D.int 0]) (ys := ((rs.filter fun r => decide (r.2.1 ≤ (p : Int))).map fun r => l.getD ((p : Int) - r.2.1).toNat 0 + r.2.2).map D.int) (len_le (by rw [List.length_map]; simp only [List.length_cons, List.length_nil]; omega))
  have e0 : (den (evF Pr n) (.lst (.cons (.k (.int 0)) .nil))).v [some (.d (.lst (rs.map rD))), w1, some (.loc M.length), some (.d (.int p)), w4, w5] (M ++ [tabC l]) = .ok (.new (.lst [.int 0])) (M ++ [tabC l]) := by simp only [dv_var, dt_var, di_var, dv_k, dt_k, di_k, dv_g, dt_g, di_g, dv_op1, dt_op1, di_op1, dv_op2, dt_op2, di_op2, dv_chain, dt_chain, di_chain, dv_ife, dt_ife, di_ife, dv_tup, dt_tup, di_tup, dv_lst, dt_lst, di_lst, dv_idx, dt_idx, di_idx, dv_sl, dt_sl, di_sl, dv_bi, dt_bi, di_bi, dv_bm, dt_bm, di_bm, dv_call, dt_call, di_call, dv_isi, dt_isi, di_isi, dv_and, dv_or, dv_not, dt_and, dt_or, dt_not, da_nil, da_cons, dp_nil, dp_cons, di_rng, di_enum, di_lc, dt_lc, es_skip, es_seq, es_cell, es_par, es_setix, es_ex, es_ret, es_retn, es_ite, es_brk, es_cnt, es_setN, es_setT, bind_ok', thenS_ok, then_nx, then_ret, then_brk, then_cnt, lift_some, R.lift, der, op1, op2, opII, bool2, cmpI, asB, frz, D.truth, isTrueE, optI, Option.bind, Option.map, List.getElem?_cons_zero, List.getElem?_cons_succ, if_true, ite_true, ite_false, Bool.false_eq_true, toD, toDs, ders, decide_true, decide_false, beq_self_eq_true, isi, D.plainTy, Ty.has, List.any_cons, List.any_nil, Bool.or_false, Bool.false_or, Bool.true_or, Bool.or_true, Bool.not_true, Bool.not_false, List.length_cons, List.length_nil, bi, idx, ixD, List.set_cons_zero, List.set_cons_succ, bindT, bindTs, setAll, asCell, iterOf, Nat.reduceLT, Nat.reduceLeDiff, Nat.reduceAdd, Nat.zero_add, Bool.and_self, Bool.and_true, Bool.true_and, Bool.and_false, Bool.false_and]
  have dn : ∀ x, der (M ++ [tabC l]) (.new x) = some x := fun _ => rfl
  rw [e_some, dv_op2, e0, bind_ok', el, bind_ok', dn, dn]
  simp only [Option.bind_some, cat, lift_some]
  rfl
abbrev body_lbest : S := (.seq (.set (.n 4) e_some) (.seq (.ex (.bm .append (.var 2) (.cons (.bi .max (.cons (.var 4) .nil)) .nil))) .skip))
theorem loop_lbest (n : Nat) (M : Mem) (rs : List Rwd) (hr : ∀ r ∈ rs, 1 ≤ r.2.1) (hl : rs.length ≤ 100) (w1 : Option Vl) : ∀ (k m : Nat) (w3 w4 : Option Vl), m + k ≤ 1000 →
    ∃ w3' w4', forGo (.n 3) [] (evS ⟨evF Pr n, Pr.W, Pr.X⟩ body_lbest) (rangeD (m : Int) ((m : Int) + (k : Int))) [some (.d (.lst (rs.map rD))), w1, some (.loc M.length), w3, w4, none] (M ++ [tabC (ltab rs m)]) = .nx [some (.d (.lst (rs.map rD))), w1, some (.loc M.length), w3', w4', none] (M ++ [tabC (ltab rs (m + k))])
  | 0, m, w3, w4, _ => ⟨w3, w4, by
    have e : rangeD (m : Int) ((m : Int) + ((0 : Nat) : Int)) = [] := by
      unfold rangeD
      have : ((m : Int) + ((0 : Nat) : Int) - (m : Int)).toNat = 0 := by omega
      rw [this]
      rfl
    rw [e]
    exact for_end rfl⟩
  | k + 1, m, w3, w4, h => by
    have es := ev_some n M rs hr hl (ltab rs m) m (ltab_len rs m) w1 w4 none
    obtain ⟨w3', w4', ih⟩ := loop_lbest n M rs hr hl w1 k (m + 1) (some (.d (.int m))) (some (.d (.lst ((0 :: (rs.filter fun r => decide (r.2.1 ≤ (m : Int))).map fun r => (ltab rs m).getD ((m : Int) - r.2.1).toNat 0 + r.2.2).map D.int)))) (by omega)
    have em : m + 1 + k = m + (k + 1) := by omega
    have er : ((m + 1 : Nat) : Int) = (m : Int) + 1 := by push_cast; rfl
    rw [em, er] at ih
    rw [range_succ]
    refine ⟨w3', w4', for_nx (v1 := [some (.d (.lst (rs.map rD))), w1, some (.loc M.length), some (.d (.int m)), w4, none]) rfl rfl ?_ ih⟩
    refine seq_nx (v1 := [some (.d (.lst (rs.map rD))), w1, some (.loc M.length), some (.d (.int m)), some (.d (.lst ((0 :: (rs.filter fun r => decide (r.2.1 ≤ (m : Int))).map fun r => (ltab rs m).getD ((m : Int) - r.2.1).toNat 0 + r.2.2).map D.int))), none]) (M1 := M ++ [tabC (ltab rs m)]) (by
      rw [es_setN, es]
      rfl) ?_
    have mx := bi_max (n := 0) (ns := (rs.filter fun r => decide (r.2.1 ≤ (m : Int))).map fun r => (ltab rs m).getD ((m : Int) - r.2.1).toNat 0 + r.2.2)
    have e4 : ∀ ys, bmTy .append (some (.lst ys)) = true := fun _ => rfl
    have ap := append_of (xs := (ltab rs m).map D.int) (y := .int (lnext rs (ltab rs m) m)) (by rw [List.length_map, ltab_len]; omega)
    have ec : tabC (ltab rs (m + 1)) = ⟨true, .lst ((ltab rs m).map D.int ++ [D.int (lnext rs (ltab rs m) m)])⟩ := by simp [tabC, ltab]
    have ev : maxL (0 :: (rs.filter fun r => decide (r.2.1 ≤ (m : Int))).map fun r => (ltab rs m).getD ((m : Int) - r.2.1).toNat 0 + r.2.2) = lnext rs (ltab rs m) m := rfl
    rw [ev] at mx
    have em2 : (den (evF Pr n) (.bi .max (.cons (.var 4) .nil))).v [some (.d (.lst (rs.map rD))), w1, some (.loc M.length), some (.d (.int m)), some (.d (.lst ((0 :: (rs.filter fun r => decide (r.2.1 ≤ (m : Int))).map fun r => (ltab rs m).getD ((m : Int) - r.2.1).toNat 0 + r.2.2).map D.int))), none] (M ++ [tabC (ltab rs m)]) = .ok (.d (.int (lnext rs (ltab rs m) m))) (M ++ [tabC (ltab rs m)]) := by
      rw [dv_bi, da_cons]
      show R.lift (bi .max [.lst _]) _ = _
      rw [mx]
      rfl
    have st := app_of (Z := ⟨evF Pr n, Pr.W, Pr.X⟩) (i := 2) (c := M.length) (xs := (ltab rs m).map D.int) (xs0 := (ltab rs m).map D.int) rfl own_get0 em2 rfl own_get0 (by rw [List.length_map, ltab_len]; omega)
    rw [own_set0, ← ec] at st
    exact seq_nx st rfl
theorem ev_lbest (n : Nat) (M : Mem) (rs : List Rwd) (hr : ∀ r ∈ rs, 1 ≤ r.2.1) (hl : rs.length ≤ 100) (m : Nat) (hm : m ≤ 900) : evF Pr (n + 1) i__law_best [.d (.lst (rs.map rD)), .d (.int m)] M = .ok (.new (.lst ((ltab rs (m + 1)).map D.int))) M := by
  obtain ⟨w3, w4, e⟩ := loop_lbest n M rs hr hl (some (.d (.int m))) (m + 1) 0 none none (by omega)
  refine (evF_of (vs := [some (.d (.lst (rs.map rD))), some (.d (.int m)), none, none, none, none]) (r := .ret (.loc M.length) (M ++ [tabC (ltab rs (m + 1))])) rfl rfl rfl ?_).trans (fin_loc (T := [tabC (ltab rs (m + 1))]) (k := 0) rfl)
  refine seq_nx (v1 := [some (.d (.lst (rs.map rD))), some (.d (.int m)), some (.loc M.length), none, none, none]) (M1 := M ++ [tabC (ltab rs 0)]) rfl ?_
  have er : rngOk 0 ((m : Int) + 1) = true := rng_small (by omega) (by omega) (by omega) (by omega) (by omega)
  have ez : ((0 : Nat) : Int) + ((m + 1 : Nat) : Int) = (m : Int) + 1 := by push_cast; omega
  rw [ez, Nat.zero_add] at e
  refine seq_nx (for_of (rng_of (l := 0) (h := (m : Int) + 1) rfl (by simp only [dv_var, dt_var, di_var, dv_k, dt_k, di_k, dv_g, dt_g, di_g, dv_op1, dt_op1, di_op1, dv_op2, dt_op2, di_op2, dv_chain, dt_chain, di_chain, dv_ife, dt_ife, di_ife, dv_tup, dt_tup, di_tup, dv_lst, dt_lst, di_lst, dv_idx, dt_idx, di_idx, dv_sl, dt_sl, di_sl, dv_bi, dt_bi, di_bi, dv_bm, dt_bm, di_bm, dv_call, dt_call, di_call, dv_isi, dt_isi, di_isi, dv_and, dv_or, dv_not, dt_and, dt_or, dt_not, da_nil, da_cons, dp_nil, dp_cons, di_rng, di_enum, di_lc, dt_lc, es_skip, es_seq, es_cell, es_par, es_setix, es_ex, es_ret, es_retn, es_ite, es_brk, es_cnt, es_setN, es_setT, bind_ok', thenS_ok, then_nx, then_ret, then_brk, then_cnt, lift_some, R.lift, der, op1, op2, opII, bool2, cmpI, asB, frz, D.truth, isTrueE, optI, Option.bind, Option.map, List.getElem?_cons_zero, List.getElem?_cons_succ, if_true, ite_true, ite_false, Bool.false_eq_true, toD, toDs, ders, decide_true, decide_false, beq_self_eq_true, isi, D.plainTy, Ty.has, List.any_cons, List.any_nil, Bool.or_false, Bool.false_or, Bool.true_or, Bool.or_true, Bool.not_true, Bool.not_false, List.length_cons, List.length_nil, bi, idx, ixD, List.set_cons_zero, List.set_cons_succ, bindT, bindTs, setAll, asCell, iterOf, Nat.reduceLT, Nat.reduceLeDiff, Nat.reduceAdd, Nat.zero_add, Bool.and_self, Bool.and_true, Bool.true_and, Bool.and_false, Bool.false_and]) er) e) ?_
  rfl
end Pd
namespace Pd
open PySem PySem.Spec L2
theorem ev_alike_int (n : Nat) (M : Mem) (i : Int) : evF Pr (n + 1) i__law_alike [.d (.int i), .d (.int i)] M = .ok (.d (.bl true)) M := by
  refine (evF_of (vs := [some (.d (.int i)), some (.d (.int i)), none, none]) (r := .ret (.d (.bl true)) M) rfl rfl rfl ?_).trans fin_d0
  have e : op2 .eq (.int i) (.int i) = some (.d (.bl true)) := by
    show bool2 (i == i) = _
    rw [beq_self_eq_true]
    rfl
  refine seq_nx (v1 := [some (.d (.int i)), some (.d (.int i)), none, none]) (M1 := M) rfl ?_
  refine seq_nx (v1 := [some (.d (.int i)), some (.d (.int i)), none, none]) (M1 := M) rfl ?_
  refine seq_nx (v1 := [some (.d (.int i)), some (.d (.int i)), none, none]) (M1 := M) rfl ?_
  refine seq_ret ?_
  have d : ∀ x, der M (.d x) = some x := fun _ => rfl
  have v0 : (den (evF Pr n) (.var 0)).v [some (.d (.int i)), some (.d (.int i)), none, none] M = .ok (.d (.int i)) M := rfl
  have v1 : (den (evF Pr n) (.var 1)).v [some (.d (.int i)), some (.d (.int i)), none, none] M = .ok (.d (.int i)) M := rfl
  have i1 : isi [.int] (.int i) = some (.d (.bl true)) := rfl
  have i2 : isi [.bool] (.int i) = some (.d (.bl false)) := rfl
  have e3 : op2 .eq (.bl false) (.bl false) = some (.d (.bl true)) := by
    unfold op2
    simp only [D.flat, D.eqv, bool2, Bool.and_self, if_true, beq_self_eq_true]
  have a1 : asB (.d (.bl true)) = some true := rfl
  simp only [es_ret, dv_and, dv_isi, dv_op2, v0, v1, bind_ok', d, Option.bind_some, i1, i2, e3, e, lift_some, a1, thenS_ok]
theorem ev_alike_str (n : Nat) (M : Mem) (i : Str) : evF Pr (n + 1) i__law_alike [.d (.str i), .d (.str i)] M = .ok (.d (.bl true)) M := by
  refine (evF_of (vs := [some (.d (.str i)), some (.d (.str i)), none, none]) (r := .ret (.d (.bl true)) M) rfl rfl rfl ?_).trans fin_d0
  have e : op2 .eq (.str i) (.str i) = some (.d (.bl true)) := by
    have z : D.eqv (.str i) (.str i) = true := by simp only [D.eqv, beq_self_eq_true]
    have f : D.flat D.deep (.str i) = true := by simp only [D.flat]
    show (if D.flat D.deep (.str i) && D.flat D.deep (.str i) then bool2 (D.eqv (.str i) (.str i)) else none) = _
    rw [f, z]
    rfl
  refine seq_nx (v1 := [some (.d (.str i)), some (.d (.str i)), none, none]) (M1 := M) rfl ?_
  refine seq_nx (v1 := [some (.d (.str i)), some (.d (.str i)), none, none]) (M1 := M) rfl ?_
  refine seq_ret ?_
  have d : ∀ x, der M (.d x) = some x := fun _ => rfl
  have v0 : (den (evF Pr n) (.var 0)).v [some (.d (.str i)), some (.d (.str i)), none, none] M = .ok (.d (.str i)) M := rfl
  have v1 : (den (evF Pr n) (.var 1)).v [some (.d (.str i)), some (.d (.str i)), none, none] M = .ok (.d (.str i)) M := rfl
  have i1 : isi [.str] (.str i) = some (.d (.bl true)) := rfl
  have e3 : op2 .eq (.bl true) (.bl true) = some (.d (.bl true)) := by
    unfold op2
    simp only [D.flat, D.eqv, bool2, Bool.and_self, if_true, beq_self_eq_true]
  have a1 : asB (.d (.bl true)) = some true := rfl
  have o1 : op1 .isN (.str i) = some (.d (.bl false)) := rfl
  have t1 : D.truth (.bl true) = some true := rfl
  have t0 : D.truth (.bl false) = some false := rfl
  simp only [es_ite, es_seq, es_skip, es_ret, dt_or, dt_op1, dt_isi, dv_op1, dv_and, dv_isi, dv_op2, v0, v1, bind_ok', d, Option.bind_some, i1, e3, e, lift_some, a1, o1, t1, t0, if_true, Bool.false_eq_true, if_false, thenS_ok, then_ret]
def isLeaf : D → Bool
  | .int _ | .str _ => true
  | _ => false
theorem ev_alike_leaf (n : Nat) (M : Mem) {x : D} (h : isLeaf x = true) : evF Pr (n + 1) i__law_alike [.d x, .d x] M = .ok (.d (.bl true)) M := by
  cases x with
  | int i => exact ev_alike_int n M i
  | str s => exact ev_alike_str n M s
  | _ => cases h
theorem at_range {xs : List D} {y : D} (h : y ∈ rangeD 0 xs.length) : ∃ (k : Nat) (x : D), y = .int (k : Int) ∧ atI xs (k : Int) = some x ∧ x ∈ xs := by
  unfold rangeD at h
  obtain ⟨k, hk, e⟩ := List.mem_map.mp h
  have hk := List.mem_range.mp hk
  have hl : k < xs.length := by omega
  obtain ⟨x, e1, e2⟩ := at_some (xs := xs) (v := (k : Int)) (by omega) (by omega)
  exact ⟨k, x, by rw [← e]; simp, e1, e2⟩
theorem ev_alike_list (n : Nat) (M : Mem) (f : Vl) (xs : List D) (hf : der M f = some (.lst xs)) (hx : ∀ x ∈ xs, isLeaf x = true) (hl : xs.length ≤ 1000) : evF Pr (n + 2) i__law_alike [f, .d (.lst xs)] M = .ok (.d (.bl true)) M := by
  refine (evF_of (vs := [some f, some (.d (.lst xs)), none, none]) (r := .ret (.d (.bl true)) M) rfl rfl rfl ?_).trans fin_d0
  have d : ∀ x, der M (.d x) = some x := fun _ => rfl
  have v0 : ∀ w2 w3, (den (evF Pr (n + 1)) (.var 0)).v [some f, some (.d (.lst xs)), w2, w3] M = .ok f M := fun _ _ => rfl
  have v1 : ∀ w2 w3, (den (evF Pr (n + 1)) (.var 1)).v [some f, some (.d (.lst xs)), w2, w3] M = .ok (.d (.lst xs)) M := fun _ _ => rfl
  have hfz : der M (frz f) = some (.lst xs) := by rw [der_frz]; exact hf
  have i1 : isi [.tuple, .list] (.lst xs) = some (.d (.bl true)) := rfl
  have i2 : isi [.list] (.lst xs) = some (.d (.bl true)) := rfl
  have t1 : D.truth (.bl true) = some true := rfl
  have t0 : D.truth (.bl false) = some false := rfl
  have n1 : op2 .ne (.bl true) (.bl true) = some (.d (.bl false)) := by
    unfold op2
    simp only [D.flat, D.eqv, bool2, Bool.and_self, if_true, beq_self_eq_true, Bool.not_true]
  have l1 : bi .len [.lst xs] = some (.d (.int xs.length)) := rfl
  have n2 : op2 .ne (.int xs.length) (.int xs.length) = some (.d (.bl false)) := by
    show bool2 (!((xs.length : Int) == xs.length)) = _
    rw [beq_self_eq_true]
    rfl
  have dd : ders M [frz f] = some [.lst xs] := by simp only [ders, hfz, Option.bind_some, Option.map_some]
  have d2 : ders M [.d (.lst xs)] = some [.lst xs] := rfl
  have hlc := lc_map (t := .n 2) (g := []) (c := (den (evF Pr (n + 1)) (.not (.call i__law_alike (.cons (.idx (.var 0) (.var 2)) (.cons (.idx (.var 1) (.var 2)) .nil))))).t) (e := (den (evF Pr (n + 1)) (.var 2)).v) (vs := [some f, some (.d (.lst xs)), none, none]) (M := M) id (fun _ => false) rfl (xs := rangeD 0 xs.length) (by
    intro y hy
    obtain ⟨k, x, ey, e1, e2⟩ := at_range hy
    subst ey
    refine ⟨[some f, some (.d (.lst xs)), some (.d (.int k)), none], rfl, ?_, fun z => by cases z⟩
    have v2 : (den (evF Pr (n + 1)) (.var 2)).v [some f, some (.d (.lst xs)), some (.d (.int k)), none] M = .ok (.d (.int k)) M := rfl
    have ia : (den (evF Pr (n + 1)) (.idx (.var 0) (.var 2))).v [some f, some (.d (.lst xs)), some (.d (.int k)), none] M = .ok (.d x) M := by
      simp only [dv_idx, v0, v2, bind_ok', hf, d, Option.bind_some, idx_lst, e1, Option.map_some, lift_some]
    have ib : (den (evF Pr (n + 1)) (.idx (.var 1) (.var 2))).v [some f, some (.d (.lst xs)), some (.d (.int k)), none] M = .ok (.d x) M := by
      simp only [dv_idx, v1, v2, bind_ok', d, Option.bind_some, idx_lst, e1, Option.map_some, lift_some]
    have ic := call2 ia ib rfl rfl (ev_alike_leaf n M (hx x e2))
    simp only [dt_not, dt_call, ic, bind_ok', d, Option.bind_some, t1, lift_some, Bool.not_true])
  have ef : ((rangeD 0 xs.length).filter fun _ => false).map id = [] := by simp
  rw [ef] at hlc
  have er : rngOk 0 (xs.length : Int) = true := rng_small (by omega) (by omega) (by omega) (by omega) (by omega)
  have ln : (den (evF Pr (n + 1)) (.bi .len (.cons (.var 1) .nil))).v [some f, some (.d (.lst xs)), none, none] M = .ok (.d (.int xs.length)) M := by
    simp only [dv_bi, da_cons, da_nil, v1, bind_ok', frz_d, d2, Option.bind_some, l1, lift_some]
  have el := lc_of (C := evF Pr (n + 1)) (own := [2]) (it := .rng (.k (.int 0)) (.bi .len (.cons (.var 1) .nil))) (c := .not (.call i__law_alike (.cons (.idx (.var 0) (.var 2)) (.cons (.idx (.var 1) (.var 2)) .nil)))) (e := .var 2) (vs := [some f, some (.d (.lst xs)), none, none]) (rng_of rfl ln er) hlc
  refine seq_ret ?_
  have c1 : (den (evF Pr (n + 1)) (.isi [.tuple, .list] (.var 1))).t [some f, some (.d (.lst xs)), none, none] M = .ok true M := by
    simp only [dt_isi, dv_isi, v1, bind_ok', d, Option.bind_some, i1, lift_some, t1]
  rw [es_ite, c1]
  show evS _ (.seq _ (.seq _ (.seq _ .skip))) _ _ = _
  refine seq_nx (v1 := [some f, some (.d (.lst xs)), none, none]) (M1 := M) ?_ (seq_nx (v1 := [some f, some (.d (.lst xs)), none, none]) (M1 := M) ?_ (seq_ret ?_))
  · simp only [es_ite, es_skip, dt_or, dt_not, dt_isi, dt_op2, dv_isi, dv_op2, v0, v1, bind_ok', hf, d, Option.bind_some, i1, i2, n1, lift_some, t1, t0, Bool.not_true, Bool.false_eq_true, if_false, thenS_ok]
  · simp only [es_ite, es_skip, dt_op2, dv_op2, dv_bi, da_cons, da_nil, v0, v1, bind_ok', frz_d, dd, d2, d, Option.bind_some, l1, n2, lift_some, t0, Bool.false_eq_true, if_false, thenS_ok]
  · have en : (den (evF Pr (n + 1)) (.lst .nil)).v [some f, some (.d (.lst xs)), none, none] M = .ok (.new (.lst [])) M := rfl
    have dn : ∀ x, der M (.new x) = some x := fun _ => rfl
    rw [es_ret, dv_op2, el]
    simp only [bind_ok', en, dn, Option.bind_some, eqv_nil, lift_some, thenS_ok]
end Pd
namespace Pd
open PySem PySem.Spec L2
theorem good_price {r : Rwd} (h : goodR r = true) : 1 ≤ r.2.1 ∧ r.2.1 ≤ 200 ∧ 0 ≤ r.2.2 ∧ r.2.2 ≤ 10000 := by
  unfold goodR at h
  simp only [Bool.and_eq_true, decide_eq_true_eq] at h
  exact ⟨h.2.1.1, h.2.1.2, h.2.2.1, h.2.2.2⟩
theorem ev_best_discount (n : Nat) (M : Mem) (rs : List Rwd) (isT : Bool) (h : goodRs rs) (p : Nat) (hp : p ≤ 500) : evF Pr (n + 5) i_best_discount [.d (if isT then .tup (rs.map rD) else .lst (rs.map rD)), .d (.int p)] M = .ok (.d (.int ((btab rs p).getD p 0))) M := by
  have hr : ∀ r ∈ rs, 1 ≤ r.2.1 := fun r hm => (good_price (h.2.2.1 r hm)).1
  have e1 := ev_checked n M rs isT h
  have e2 := ev_check_points (n + 1) M p (by omega) (by omega)
  obtain ⟨last, e3⟩ := ev_best_rows (n + 3) M true rs hr p (by omega)
  have e3 : evF Pr (n + 4) i_best_rows [.d (.tup (rs.map rD)), .d (.int p)] M = .ok (.d (.tup [.lst ((btab rs p).map D.int), .lst last])) M := e3
  refine (evF_of (vs := [some (.d (if isT then .tup (rs.map rD) else .lst (rs.map rD))), some (.d (.int p)), none]) (r := .ret (.d (.int ((btab rs p).getD p 0))) M) rfl rfl rfl ?_).trans fin_d0
  refine seq_nx (v1 := [some (.d (if isT then .tup (rs.map rD) else .lst (rs.map rD))), some (.d (.int p)), some (.d (.tup (rs.map rD)))]) (M1 := M) ?_ (seq_nx (v1 := [some (.d (if isT then .tup (rs.map rD) else .lst (rs.map rD))), some (.d (.int p)), some (.d (.tup (rs.map rD)))]) (M1 := M) ?_ (seq_ret ?_))
  · rw [es_setN, call1 (a := .var 0) (x := .d (if isT then .tup (rs.map rD) else .lst (rs.map rD))) rfl rfl e1]
    rfl
  · rw [es_ex, call1 (a := .var 1) (x := .d (.int p)) rfl rfl e2]
    rfl
  · have c := call2 (C := evF Pr (n + 4)) (f := i_best_rows) (a := .var 2) (b := .var 1) (vs := [some (.d (if isT then .tup (rs.map rD) else .lst (rs.map rD))), some (.d (.int p)), some (.d (.tup (rs.map rD)))]) (M := M) (x := .d (.tup (rs.map rD))) (y := .d (.int p)) rfl rfl rfl rfl e3
    have a0 : atI [D.lst ((btab rs p).map D.int), .lst last] 0 = some (.lst ((btab rs p).map D.int)) := rfl
    have a1 : atI ((btab rs p).map D.int) (p : Int) = some (.int ((btab rs p).getD p 0)) := by
      have z := at_ints (xs := btab rs p) (i := (p : Int)) (by omega) (by rw [btab_len]; omega)
      simpa using z
    have v1 : (den (evF Pr (n + 4)) (.var 1)).v [some (.d (if isT then .tup (rs.map rD) else .lst (rs.map rD))), some (.d (.int p)), some (.d (.tup (rs.map rD)))] M = .ok (.d (.int p)) M := rfl
    have k0 : (den (evF Pr (n + 4)) (.k (.int 0))).v [some (.d (if isT then .tup (rs.map rD) else .lst (rs.map rD))), some (.d (.int p)), some (.d (.tup (rs.map rD)))] M = .ok (.d (.int 0)) M := rfl
    have d : ∀ x, der M (.d x) = some x := fun _ => rfl
    have it : ∀ xs i, idx (.tup xs) (.int i) = (atI xs i).map Vl.d := fun _ _ => rfl
    simp only [es_ret, dv_idx, c, v1, k0, bind_ok', d, Option.bind_some, it, a0, Option.map_some, lift_some, idx_lst, a1, thenS_ok]
/-- what is dominated, by the program -/
def others (rs : List Rwd) (s : Str) : List Rwd := rs.filter fun r => !(r.1 == s)
def domP (rs : List Rwd) (r : Rwd) : Bool := decide (r.2.2 ≤ (btab (others rs r.1) r.2.1.toNat).getD r.2.1.toNat 0)
def strsC (ss : List Str) : Cell := ⟨true, .lst (ss.map D.str)⟩
def keepN (s : Str) : D → Bool
  | .tup [.str t, _, _] => !(t == s)
  | _ => false
theorem filter_rD (s : Str) : ∀ rs : List Rwd, (rs.map rD).filter (keepN s) = (others rs s).map rD
  | [] => rfl
  | r :: rs => by
    have ek : keepN s (rD r) = !(r.1 == s) := rfl
    unfold others
    rw [List.map_cons, List.filter_cons, List.filter_cons, ek, filter_rD s rs]
    cases !(r.1 == s) with
    | true => rfl
    | false => rfl
abbrev e_others : E := (.lc [7] (.n 7) (.var 1) (.op2 .ne (.idx (.var 7) (.k (.int 0))) (.var 3)) (.var 7))
abbrev body_dom : S := (.seq (.set (.n 6) e_others) (.seq (.ite (.op2 .ge (.idx (.idx (.call i_best_rows (.cons (.var 6) (.cons (.var 4) .nil))) (.k (.int 0))) (.var 4)) (.var 5)) (.seq (.ex (.bm .append (.var 2) (.cons (.var 3) .nil))) .skip) .skip) .skip))
theorem ev_others (n : Nat) (M : Mem) (rs : List Rwd) (s : Str) (w0 w2 w4 w5 w6 w7 : Option Vl) : (den (evF Pr n) e_others).v [w0, some (.d (.tup (rs.map rD))), w2, some (.d (.str s)), w4, w5, w6, w7] M = .ok (.new (.lst ((others rs s).map rD))) M := by
  have hlc := lc_map (t := .n 7) (g := []) (c := (den (evF Pr n) (.op2 .ne (.idx (.var 7) (.k (.int 0))) (.var 3))).t) (e := (den (evF Pr n) (.var 7)).v) (vs := [w0, some (.d (.tup (rs.map rD))), w2, some (.d (.str s)), w4, w5, w6, none]) (M := M) id (keepN s) rfl (xs := rs.map rD) (by
    intro x hx
    obtain ⟨r, hm, ex⟩ := List.mem_map.mp hx
    subst ex
    refine ⟨[w0, some (.d (.tup (rs.map rD))), w2, some (.d (.str s)), w4, w5, w6, some (.d (rD r))], rfl, ?_, fun _ => ⟨.d (rD r), rfl, rfl⟩⟩
    have a0 : atI [D.str r.1, .int r.2.1, .int r.2.2] 0 = some (.str r.1) := rfl
    have d : ∀ x, der M (.d x) = some x := fun _ => rfl
    have it : ∀ xs i, idx (.tup xs) (.int i) = (atI xs i).map Vl.d := fun _ _ => rfl
    have v7 : (den (evF Pr n) (.var 7)).v [w0, some (.d (.tup (rs.map rD))), w2, some (.d (.str s)), w4, w5, w6, some (.d (rD r))] M = .ok (.d (.tup [.str r.1, .int r.2.1, .int r.2.2])) M := rfl
    have v3 : (den (evF Pr n) (.var 3)).v [w0, some (.d (.tup (rs.map rD))), w2, some (.d (.str s)), w4, w5, w6, some (.d (rD r))] M = .ok (.d (.str s)) M := rfl
    have k0 : (den (evF Pr n) (.k (.int 0))).v [w0, some (.d (.tup (rs.map rD))), w2, some (.d (.str s)), w4, w5, w6, some (.d (rD r))] M = .ok (.d (.int 0)) M := rfl
    have tr : ∀ b, D.truth (.bl b) = some b := fun _ => rfl
    have kk : keepN s (rD r) = !(r.1 == s) := rfl
    simp only [dt_op2, dv_op2, dv_idx, v7, v3, k0, bind_ok', d, Option.bind_some, it, a0, Option.map_some, lift_some, ne_str, tr, kk])
  rw [List.map_id, filter_rD] at hlc
  exact lc_of (C := evF Pr n) (own := [7]) (it := .var 1) (c := .op2 .ne (.idx (.var 7) (.k (.int 0))) (.var 3)) (xs := rs.map rD) (g := []) rfl hlc
theorem others_price {rs : List Rwd} {s : Str} (h : ∀ r ∈ rs, goodR r = true) : ∀ r ∈ others rs s, 1 ≤ r.2.1 := fun r hm => (good_price (h r (List.mem_filter.mp hm).1)).1
theorem loop_dom (n : Nat) (M : Mem) (w0 : Option Vl) (rs : List Rwd) (hg : ∀ r ∈ rs, goodR r = true) : ∀ (todo : List Rwd) (done : List Str) (w3 w4 w5 w6 : Option Vl), (∀ r ∈ todo, goodR r = true) → done.length + todo.length ≤ 12 →
    ∃ w3' w4' w5' w6', forGo (.t (.tc (.n 3) (.tc (.n 4) (.tc (.n 5) .t0)))) [] (evS ⟨evF Pr (n + 1), Pr.W, Pr.X⟩ body_dom) (todo.map rD) [w0, some (.d (.tup (rs.map rD))), some (.loc M.length), w3, w4, w5, w6, none] (M ++ [strsC done]) = .nx [w0, some (.d (.tup (rs.map rD))), some (.loc M.length), w3', w4', w5', w6', none] (M ++ [strsC (done ++ (todo.filter (domP rs)).map (·.1))])
  | [], done, w3, w4, w5, w6, _, _ => ⟨w3, w4, w5, w6, by
    simp only [List.filter_nil, List.map_nil, List.append_nil]
    exact for_end rfl⟩
  | r :: todo, done, w3, w4, w5, w6, ht, hl => by
    obtain ⟨g1, g2, g3, g4⟩ := good_price (ht r List.mem_cons_self)
    have eo := ev_others (n + 1) (M ++ [strsC done]) rs r.1 w0 (some (.loc M.length)) (some (.d (.int r.2.1))) (some (.d (.int r.2.2))) w6 none
    obtain ⟨last, e3⟩ := ev_best_rows n (M ++ [strsC done]) false (others rs r.1) (others_price hg) r.2.1.toNat (by omega)
    have ep : ((r.2.1.toNat : Nat) : Int) = r.2.1 := by omega
    rw [ep] at e3
    have e3 : evF Pr (n + 1) i_best_rows [.d (.lst ((others rs r.1).map rD)), .d (.int r.2.1)] (M ++ [strsC done]) = .ok (.d (.tup [.lst ((btab (others rs r.1) r.2.1.toNat).map D.int), .lst last])) (M ++ [strsC done]) := e3
    have c := call2 (C := evF Pr (n + 1)) (f := i_best_rows) (a := .var 6) (b := .var 4) (vs := [w0, some (.d (.tup (rs.map rD))), some (.loc M.length), some (.d (.str r.1)), some (.d (.int r.2.1)), some (.d (.int r.2.2)), some (.d (.lst ((others rs r.1).map rD))), none]) (M := M ++ [strsC done]) (x := .d (.lst ((others rs r.1).map rD))) (y := .d (.int r.2.1)) rfl rfl rfl rfl e3
    have a0 : atI [D.lst ((btab (others rs r.1) r.2.1.toNat).map D.int), .lst last] 0 = some (.lst ((btab (others rs r.1) r.2.1.toNat).map D.int)) := rfl
    have a1 : atI ((btab (others rs r.1) r.2.1.toNat).map D.int) r.2.1 = some (.int ((btab (others rs r.1) r.2.1.toNat).getD r.2.1.toNat 0)) := at_ints (by omega) (by rw [btab_len]; omega)
    have d : ∀ x, der (M ++ [strsC done]) (.d x) = some x := fun _ => rfl
    have it : ∀ xs i, idx (.tup xs) (.int i) = (atI xs i).map Vl.d := fun _ _ => rfl
    have v4 : (den (evF Pr (n + 1)) (.var 4)).v [w0, some (.d (.tup (rs.map rD))), some (.loc M.length), some (.d (.str r.1)), some (.d (.int r.2.1)), some (.d (.int r.2.2)), some (.d (.lst ((others rs r.1).map rD))), none] (M ++ [strsC done]) = .ok (.d (.int r.2.1)) (M ++ [strsC done]) := rfl
    have v5 : (den (evF Pr (n + 1)) (.var 5)).v [w0, some (.d (.tup (rs.map rD))), some (.loc M.length), some (.d (.str r.1)), some (.d (.int r.2.1)), some (.d (.int r.2.2)), some (.d (.lst ((others rs r.1).map rD))), none] (M ++ [strsC done]) = .ok (.d (.int r.2.2)) (M ++ [strsC done]) := rfl
    have k0 : (den (evF Pr (n + 1)) (.k (.int 0))).v [w0, some (.d (.tup (rs.map rD))), some (.loc M.length), some (.d (.str r.1)), some (.d (.int r.2.1)), some (.d (.int r.2.2)), some (.d (.lst ((others rs r.1).map rD))), none] (M ++ [strsC done]) = .ok (.d (.int 0)) (M ++ [strsC done]) := rfl
    have ge : ∀ i j : Int, op2 .ge (.int i) (.int j) = some (.d (.bl (decide (j ≤ i)))) := fun _ _ => rfl
    have tr : ∀ b, D.truth (.bl b) = some b := fun _ => rfl
    have ct : (den (evF Pr (n + 1)) (.op2 .ge (.idx (.idx (.call i_best_rows (.cons (.var 6) (.cons (.var 4) .nil))) (.k (.int 0))) (.var 4)) (.var 5))).t [w0, some (.d (.tup (rs.map rD))), some (.loc M.length), some (.d (.str r.1)), some (.d (.int r.2.1)), some (.d (.int r.2.2)), some (.d (.lst ((others rs r.1).map rD))), none] (M ++ [strsC done]) = .ok (domP rs r) (M ++ [strsC done]) := by
      simp only [dt_op2, dv_op2, dv_idx, c, v4, v5, k0, bind_ok', d, Option.bind_some, it, a0, Option.map_some, lift_some, idx_lst, a1, ge, tr]
      rfl
    have first : evS ⟨evF Pr (n + 1), Pr.W, Pr.X⟩ (.set (.n 6) e_others) [w0, some (.d (.tup (rs.map rD))), some (.loc M.length), some (.d (.str r.1)), some (.d (.int r.2.1)), some (.d (.int r.2.2)), w6, none] (M ++ [strsC done]) = .nx [w0, some (.d (.tup (rs.map rD))), some (.loc M.length), some (.d (.str r.1)), some (.d (.int r.2.1)), some (.d (.int r.2.2)), some (.d (.lst ((others rs r.1).map rD))), none] (M ++ [strsC done]) := by
      rw [es_setN, eo]
      rfl
    rw [List.map_cons, List.filter_cons]
    cases hd : domP rs r with
    | true =>
      obtain ⟨x3, x4, x5, x6, ih⟩ := loop_dom n M w0 rs hg todo (done ++ [r.1]) (some (.d (.str r.1))) (some (.d (.int r.2.1))) (some (.d (.int r.2.2))) (some (.d (.lst ((others rs r.1).map rD)))) (fun y hy => ht y (List.mem_cons_of_mem _ hy)) (by simp at hl ⊢; omega)
      rw [List.append_assoc, List.singleton_append] at ih
      rw [if_pos rfl, List.map_cons]
      refine ⟨x3, x4, x5, x6, for_nx (v1 := [w0, some (.d (.tup (rs.map rD))), some (.loc M.length), some (.d (.str r.1)), some (.d (.int r.2.1)), some (.d (.int r.2.2)), w6, none]) rfl rfl ?_ ih⟩
      refine seq_nx first ?_
      have st := app_of (Z := ⟨evF Pr (n + 1), Pr.W, Pr.X⟩) (vs := [w0, some (.d (.tup (rs.map rD))), some (.loc M.length), some (.d (.str r.1)), some (.d (.int r.2.1)), some (.d (.int r.2.2)), some (.d (.lst ((others rs r.1).map rD))), none]) (M := M ++ [strsC done]) (i := 2) (c := M.length) (x := .var 3) (y := .d (.str r.1)) (xs := done.map D.str) (xs0 := done.map D.str) rfl own_get0 rfl rfl own_get0 (by rw [List.length_map]; omega)
      have ec : strsC (done ++ [r.1]) = ⟨true, .lst (done.map D.str ++ [D.str r.1])⟩ := by simp [strsC]
      have es : strsC done = ⟨true, .lst (done.map D.str)⟩ := rfl
      rw [es, own_set0, ← ec, ← es] at st
      have s2 : evS ⟨evF Pr (n + 1), Pr.W, Pr.X⟩ (.ite (.op2 .ge (.idx (.idx (.call i_best_rows (.cons (.var 6) (.cons (.var 4) .nil))) (.k (.int 0))) (.var 4)) (.var 5)) (.seq (.ex (.bm .append (.var 2) (.cons (.var 3) .nil))) .skip) .skip) [w0, some (.d (.tup (rs.map rD))), some (.loc M.length), some (.d (.str r.1)), some (.d (.int r.2.1)), some (.d (.int r.2.2)), some (.d (.lst ((others rs r.1).map rD))), none] (M ++ [strsC done]) = .nx [w0, some (.d (.tup (rs.map rD))), some (.loc M.length), some (.d (.str r.1)), some (.d (.int r.2.1)), some (.d (.int r.2.2)), some (.d (.lst ((others rs r.1).map rD))), none] (M ++ [strsC (done ++ [r.1])]) := by
        rw [es_ite, ct, hd]
        exact seq_nx st rfl
      exact seq_nx s2 rfl
    | false =>
      obtain ⟨x3, x4, x5, x6, ih⟩ := loop_dom n M w0 rs hg todo done (some (.d (.str r.1))) (some (.d (.int r.2.1))) (some (.d (.int r.2.2))) (some (.d (.lst ((others rs r.1).map rD)))) (fun y hy => ht y (List.mem_cons_of_mem _ hy)) (by simp at hl ⊢; omega)
      rw [if_neg (by decide)]
      refine ⟨x3, x4, x5, x6, for_nx (v1 := [w0, some (.d (.tup (rs.map rD))), some (.loc M.length), some (.d (.str r.1)), some (.d (.int r.2.1)), some (.d (.int r.2.2)), w6, none]) rfl rfl ?_ ih⟩
      refine seq_nx first (seq_nx (v1 := [w0, some (.d (.tup (rs.map rD))), some (.loc M.length), some (.d (.str r.1)), some (.d (.int r.2.1)), some (.d (.int r.2.2)), some (.d (.lst ((others rs r.1).map rD))), none]) (M1 := M ++ [strsC done]) ?_ rfl)
      rw [es_ite, ct, hd]
      rfl
theorem ev_dominated (n : Nat) (M : Mem) (rs : List Rwd) (isT : Bool) (h : goodRs rs) : evF Pr (n + 5) i_dominated [.d (if isT then .tup (rs.map rD) else .lst (rs.map rD))] M = .ok (.new (.lst ((isortS ((rs.filter (domP rs)).map (·.1))).map D.str))) M := by
  have e1 := ev_checked n M rs isT h
  obtain ⟨w3, w4, w5, w6, e⟩ := loop_dom (n + 3) M (some (.d (if isT then .tup (rs.map rD) else .lst (rs.map rD)))) rs h.2.2.1 rs [] none none none none h.2.2.1 (by simp; exact h.2.1)
  rw [List.nil_append] at e
  have hl : ((rs.filter (domP rs)).map (·.1)).length ≤ 60 := by
    rw [List.length_map]
    exact Nat.le_trans (List.length_filter_le _ _) (Nat.le_trans h.2.1 (by omega))
  refine (evF_of (vs := [some (.d (if isT then .tup (rs.map rD) else .lst (rs.map rD))), none, none, none, none, none, none, none]) (r := .ret (.new (.lst ((isortS ((rs.filter (domP rs)).map (·.1))).map D.str))) (M ++ [strsC ((rs.filter (domP rs)).map (·.1))])) rfl rfl rfl ?_).trans fin_new
  refine seq_nx (v1 := [some (.d (if isT then .tup (rs.map rD) else .lst (rs.map rD))), some (.d (.tup (rs.map rD))), none, none, none, none, none, none]) (M1 := M) ?_ ?_
  · rw [es_setN, call1 (a := .var 0) (x := .d (if isT then .tup (rs.map rD) else .lst (rs.map rD))) rfl rfl e1]
    rfl
  refine seq_nx (v1 := [some (.d (if isT then .tup (rs.map rD) else .lst (rs.map rD))), some (.d (.tup (rs.map rD))), some (.loc M.length), none, none, none, none, none]) (M1 := M ++ [strsC []]) rfl ?_
  refine seq_nx (for_of (xs := rs.map rD) (g := []) rfl e) (seq_ret ?_)
  have v2 : (den (evF Pr (n + 4)) (.var 2)).v [some (.d (if isT then .tup (rs.map rD) else .lst (rs.map rD))), some (.d (.tup (rs.map rD))), some (.loc M.length), w3, w4, w5, w6, none] (M ++ [strsC ((rs.filter (domP rs)).map (·.1))]) = .ok (.loc M.length) (M ++ [strsC ((rs.filter (domP rs)).map (·.1))]) := rfl
  have f0 : frz (.loc M.length) = .loc M.length := rfl
  have dd : ders (M ++ [strsC ((rs.filter (domP rs)).map (·.1))]) [.loc M.length] = some [.lst (((rs.filter (domP rs)).map (·.1)).map D.str)] := by
    simp only [ders, der, own_get0, Option.map_some, Option.bind_some, strsC]
  rw [es_ret, dv_bi, da_cons, v2]
  simp only [bind_ok', da_nil, f0, dd, Option.bind_some, bi_sorted hl, lift_some, thenS_ok]
end Pd
namespace Pd
open PySem PySem.Spec L2
/-! ### the two tables tell the same -/
def priced (rs : List Rwd) : Prop := ∀ r ∈ rs, 1 ≤ r.2.1
def Lv (rs : List Rwd) (m : Nat) : Int := (ltab rs (m + 1)).getD m 0
theorem getD_app {l : List Int} {x : Int} {i : Nat} (h : i < l.length) : (l ++ [x]).getD i 0 = l.getD i 0 := by
  rw [List.getD_eq_getElem?_getD, List.getD_eq_getElem?_getD, List.getElem?_append_left h]
theorem getD_last {l : List Int} {x : Int} {i : Nat} (h : i = l.length) : (l ++ [x]).getD i 0 = x := by
  subst h
  rw [List.getD_eq_getElem?_getD, List.getElem?_append_right (Nat.le_refl _), Nat.sub_self]
  rfl
theorem ltab_get (rs : List Rwd) : ∀ (k i : Nat), i < k → (ltab rs k).getD i 0 = Lv rs i
  | k + 1, i, h => by
    by_cases hi : i = k
    · subst hi
      rfl
    · show (ltab rs k ++ [_]).getD i 0 = _
      rw [getD_app (by rw [ltab_len]; omega)]
      exact ltab_get rs k i (by omega)
theorem Lv_eq (rs : List Rwd) (m : Nat) : Lv rs m = lnext rs (ltab rs m) m := by
  show (ltab rs m ++ [_]).getD m 0 = _
  exact getD_last (ltab_len rs m).symm
theorem Lv_ge0 (rs : List Rwd) (m : Nat) : 0 ≤ Lv rs m := by
  rw [Lv_eq]
  exact maxL_le List.mem_cons_self
theorem Lv_opt {rs : List Rwd} (h : priced rs) {m : Nat} {r : Rwd} (hr : r ∈ rs) (hp : r.2.1 ≤ (m : Int)) : Lv rs (m - r.2.1.toNat) + r.2.2 ≤ Lv rs m := by
  have h1 := h r hr
  rw [Lv_eq rs m]
  refine maxL_le (List.mem_cons_of_mem _ (List.mem_map.mpr ⟨r, List.mem_filter.mpr ⟨hr, decide_eq_true hp⟩, ?_⟩))
  have e : ((m : Int) - r.2.1).toNat = m - r.2.1.toNat := by omega
  rw [e, ltab_get rs m _ (by omega)]
theorem Lv_cases {rs : List Rwd} (h : priced rs) (m : Nat) : Lv rs m = 0 ∨ ∃ r ∈ rs, r.2.1 ≤ (m : Int) ∧ Lv rs m = Lv rs (m - r.2.1.toNat) + r.2.2 := by
  have hm := maxL_mem (l := 0 :: (rs.filter fun r => decide (r.2.1 ≤ (m : Int))).map fun r => (ltab rs m).getD ((m : Int) - r.2.1).toNat 0 + r.2.2) (by simp)
  have e : maxL (0 :: (rs.filter fun r => decide (r.2.1 ≤ (m : Int))).map fun r => (ltab rs m).getD ((m : Int) - r.2.1).toNat 0 + r.2.2) = Lv rs m := (Lv_eq rs m).symm
  rw [e] at hm
  rcases List.mem_cons.mp hm with z | z
  · exact .inl z
  · obtain ⟨r, hr, er⟩ := List.mem_map.mp z
    obtain ⟨h1, h2⟩ := List.mem_filter.mp hr
    have h2 := of_decide_eq_true h2
    have h3 := h r h1
    refine .inr ⟨r, h1, h2, ?_⟩
    have e : ((m : Int) - r.2.1).toNat = m - r.2.1.toNat := by omega
    rw [← er, e, ltab_get rs m _ (by omega)]
theorem Lv_step {rs : List Rwd} (h : priced rs) (m : Nat) : Lv rs m ≤ Lv rs (m + 1) := by
  induction m using Nat.strongRecOn with
  | _ m ih =>
    rcases Lv_cases h m with z | ⟨r, hr, hp, z⟩
    · rw [z]
      exact Lv_ge0 rs (m + 1)
    · have h1 := h r hr
      have o := Lv_opt h hr (m := m + 1) (by omega)
      have i := ih (m - r.2.1.toNat) (by omega)
      have e : m + 1 - r.2.1.toNat = m - r.2.1.toNat + 1 := by omega
      rw [e] at o
      omega
theorem Lv_mono {rs : List Rwd} (h : priced rs) {i j : Nat} (hij : i ≤ j) : Lv rs i ≤ Lv rs j := by
  induction j with
  | zero =>
    have : i = 0 := by omega
    rw [this]
    exact Int.le_refl _
  | succ j ih =>
    by_cases e : i = j + 1
    · rw [e]
      exact Int.le_refl _
    · exact Int.le_trans (ih (by omega)) (Lv_step h j)
theorem fold_ge (best : List Int) (p : Int) : ∀ (rs : List Rwd) (v : Int), v ≤ rs.foldl (bstep best p) v
  | [], v => Int.le_refl _
  | r :: rs, v => by
    rw [List.foldl_cons]
    refine Int.le_trans ?_ (fold_ge best p rs _)
    unfold bstep
    split
    · rename_i h; omega
    · exact Int.le_refl _
theorem fold_opt (best : List Int) (p : Int) : ∀ (rs : List Rwd) (v : Int) (r : Rwd), r ∈ rs → r.2.1 ≤ p → best.getD (p - r.2.1).toNat 0 + r.2.2 ≤ rs.foldl (bstep best p) v
  | x :: rs, v, r, hr, hp => by
    rw [List.foldl_cons]
    rcases List.mem_cons.mp hr with e | e
    · subst e
      refine Int.le_trans ?_ (fold_ge best p rs _)
      unfold bstep
      split
      · exact Int.le_refl _
      · rename_i h
        by_cases c : v < best.getD (p - r.2.1).toNat 0 + r.2.2
        · exact absurd ⟨hp, c⟩ h
        · omega
    · exact fold_opt best p rs _ r e hp
theorem fold_is (best : List Int) (p : Int) : ∀ (rs : List Rwd) (v : Int), rs.foldl (bstep best p) v = v ∨ ∃ r ∈ rs, r.2.1 ≤ p ∧ rs.foldl (bstep best p) v = best.getD (p - r.2.1).toNat 0 + r.2.2
  | [], v => .inl rfl
  | r :: rs, v => by
    rw [List.foldl_cons]
    rcases fold_is best p rs (bstep best p v r) with e | ⟨x, hx, h1, h2⟩
    · by_cases c : r.2.1 ≤ p ∧ v < best.getD (p - r.2.1).toNat 0 + r.2.2
      · have eb : bstep best p v r = best.getD (p - r.2.1).toNat 0 + r.2.2 := if_pos c
        exact .inr ⟨r, List.mem_cons_self, c.1, by rw [e, eb]⟩
      · have eb : bstep best p v r = v := if_neg c
        exact .inl (by rw [e, eb])
    · exact .inr ⟨x, List.mem_cons_of_mem _ hx, h1, h2⟩
def Bv (rs : List Rwd) (m : Nat) : Int := (btab rs m).getD m 0
theorem btab_get (rs : List Rwd) : ∀ (k i : Nat), i ≤ k → (btab rs k).getD i 0 = Bv rs i
  | 0, i, h => by
    have : i = 0 := by omega
    subst this
    rfl
  | k + 1, i, h => by
    by_cases hi : i = k + 1
    · subst hi
      rfl
    · show (btab rs k ++ [_]).getD i 0 = _
      rw [getD_app (by rw [btab_len]; omega)]
      exact btab_get rs k i (by omega)
theorem Bv_succ (rs : List Rwd) (m : Nat) : Bv rs (m + 1) = rs.foldl (bstep (btab rs m) ((m + 1 : Nat) : Int)) (Bv rs m) := by
  show (btab rs m ++ [bnext rs (btab rs m) ((m + 1 : Nat) : Int)]).getD (m + 1) 0 = _
  rw [getD_last (btab_len rs m).symm]
  unfold bnext
  have e : (((m + 1 : Nat) : Int) - 1).toNat = m := by omega
  rw [e, btab_get rs m m (Nat.le_refl _)]
theorem tables {rs : List Rwd} (h : priced rs) (m : Nat) : Bv rs m = Lv rs m := by
  induction m using Nat.strongRecOn with
  | _ m ih =>
    cases m with
    | zero =>
      rcases Lv_cases h 0 with z | ⟨r, hr, hp, _⟩
      · rw [z]
        rfl
      · have := h r hr
        omega
    | succ m =>
      have em := ih m (Nat.lt_succ_self m)
      have idx : ∀ r ∈ rs, r.2.1 ≤ ((m + 1 : Nat) : Int) → (btab rs m).getD (((m + 1 : Nat) : Int) - r.2.1).toNat 0 = Lv rs (m + 1 - r.2.1.toNat) := fun r hr hp => by
        have h1 := h r hr
        have e : (((m + 1 : Nat) : Int) - r.2.1).toNat = m + 1 - r.2.1.toNat := by omega
        rw [e, btab_get rs m _ (by omega)]
        exact ih _ (by omega)
      rw [Bv_succ]
      apply Int.le_antisymm
      · rcases fold_is (btab rs m) ((m + 1 : Nat) : Int) rs (Bv rs m) with e | ⟨r, hr, hp, e⟩
        · rw [e, em]
          exact Lv_step h m
        · rw [e, idx r hr hp]
          exact Lv_opt h hr hp
      · rcases Lv_cases h (m + 1) with z | ⟨r, hr, hp, z⟩
        · rw [z]
          refine Int.le_trans ?_ (fold_ge _ _ _ _)
          rw [em]
          exact Lv_ge0 rs m
        · rw [z, ← idx r hr hp]
          exact fold_opt _ _ _ _ r hr hp
/-! ### what is dominated may go -/
theorem compose {S left : List Rwd} (hS : priced S) (hl : priced left) : ∀ (x q : Nat), (∀ s ∈ S, s.2.1 ≤ (x : Int) → ∀ q : Nat, Lv left q + s.2.2 ≤ Lv left (q + s.2.1.toNat)) → Lv left q + Lv S x ≤ Lv left (q + x) := by
  intro x
  induction x using Nat.strongRecOn with
  | _ x ih =>
    intro q hC
    rcases Lv_cases hS x with z | ⟨s, hs, hp, z⟩
    · rw [z]
      have := Lv_mono hl (i := q) (j := q + x) (by omega)
      omega
    · have h1 := hS s hs
      have i := ih (x - s.2.1.toNat) (by omega) q fun t ht hq => hC t ht (by omega)
      have c := hC s hs hp (q + (x - s.2.1.toNat))
      have e : q + (x - s.2.1.toNat) + s.2.1.toNat = q + x := by omega
      rw [e] at c
      rw [z]
      omega
def sized (r : Rwd) : Nat := r.2.1.toNat * 10001 + (10000 - r.2.2).toNat
theorem reduce {rs left : List Rwd} (h : ∀ r ∈ rs, goodR r = true) (hl : ∀ r ∈ left, r ∈ rs) (hd : ∀ r ∈ rs, r ∉ left → r.2.2 ≤ Lv (others rs r.1) r.2.1.toNat) (hv : ∀ r ∈ rs, ∀ s ∈ rs, r.2 = s.2 → r = s) :
    ∀ (k : Nat) (r : Rwd), r ∈ rs → sized r = k → ∀ q : Nat, Lv left q + r.2.2 ≤ Lv left (q + r.2.1.toNat) := by
  have pl : priced left := fun r hr => (good_price (h r (hl r hr))).1
  intro k
  induction k using Nat.strongRecOn with
  | _ k ih =>
    intro r hr hk q
    obtain ⟨g1, g2, g3, g4⟩ := good_price (h r hr)
    by_cases hm : r ∈ left
    · have o := Lv_opt pl hm (m := q + r.2.1.toNat) (by omega)
      have e : q + r.2.1.toNat - r.2.1.toNat = q := by omega
      rw [e] at o
      exact o
    · have dm := hd r hr hm
      have po : priced (others rs r.1) := fun s hs => (good_price (h s (List.mem_filter.mp hs).1)).1
      rcases Lv_cases po r.2.1.toNat with z | ⟨s, hs, hp, z⟩
      · have := Lv_mono pl (i := q) (j := q + r.2.1.toNat) (by omega)
        omega
      · obtain ⟨s1, s2⟩ := List.mem_filter.mp hs
        obtain ⟨k1, k2, k3, k4⟩ := good_price (h s s1)
        have sne : s ≠ r := fun e => by
          rw [e] at s2
          simp at s2
        by_cases hq : s.2.1 = r.2.1
        · have e0 : r.2.1.toNat - s.2.1.toNat = 0 := by omega
          have L0 : Lv (others rs r.1) 0 = 0 := by
            rcases Lv_cases po 0 with z | ⟨t, ht, hp, _⟩
            · exact z
            · have := po t ht
              omega
          rw [e0, L0] at z
          have dne : s.2.2 ≠ r.2.2 := fun e => sne (hv s s1 r hr (Prod.ext hq e))
          have c := ih (sized s) (by rw [← hk]; unfold sized; omega) s s1 rfl q
          rw [hq] at c
          omega
        · have lt : s.2.1 < r.2.1 := by omega
          have cs := ih (sized s) (by rw [← hk]; unfold sized; omega) s s1 rfl
          have cc := compose (S := others rs r.1) po pl (r.2.1.toNat - s.2.1.toNat) q fun t ht hp => by
            obtain ⟨t1, _⟩ := List.mem_filter.mp ht
            obtain ⟨j1, j2, j3, j4⟩ := good_price (h t t1)
            exact ih (sized t) (by rw [← hk]; unfold sized; omega) t t1 rfl
          have c := cs (q + (r.2.1.toNat - s.2.1.toNat))
          have e : q + (r.2.1.toNat - s.2.1.toNat) + s.2.1.toNat = q + r.2.1.toNat := by omega
          rw [e] at c
          omega
theorem reduced {rs left : List Rwd} (h : ∀ r ∈ rs, goodR r = true) (hl : ∀ r ∈ left, r ∈ rs) (hd : ∀ r ∈ rs, r ∉ left → r.2.2 ≤ Lv (others rs r.1) r.2.1.toNat) (hv : ∀ r ∈ rs, ∀ s ∈ rs, r.2 = s.2 → r = s) (m : Nat) : Lv rs m = Lv left m := by
  have pl : priced left := fun r hr => (good_price (h r (hl r hr))).1
  have pr : priced rs := fun r hr => (good_price (h r hr)).1
  apply Int.le_antisymm
  · have c := compose (S := rs) (left := left) pr pl m 0 fun s hs _ => reduce h hl hd hv (sized s) s hs rfl
    have z := Lv_ge0 left 0
    rw [Nat.zero_add] at c
    omega
  · induction m using Nat.strongRecOn with
    | _ m ih =>
      rcases Lv_cases pl m with z | ⟨r, hr, hp, z⟩
      · rw [z]
        exact Lv_ge0 rs m
      · have h1 := pl r hr
        have i := ih (m - r.2.1.toNat) (by omega)
        have o := Lv_opt pr (hl r hr) hp
        omega
end Pd
namespace Pd
open PySem PySem.Spec L2
abbrev VL (ns : List Int) (w2 w3 w4 w5 w6 w7 w8 w9 w10 w11 w12 w13 w14 w15 w16 w17 w18 : Option Vl) : Vars := [some (.d (.scr ns)), some (.loc 0), w2, w3, w4, w5, w6, w7, w8, w9, w10, w11, w12, w13, w14, w15, w16, w17, w18]
theorem stay0 {T U : Mem} {xs : List D} : Stays (T ++ ⟨true, .lst xs⟩ :: U) (.loc (T.length + 1)) xs := ⟨rfl, fun c => by
  show ((c :: (T ++ ⟨true, .lst xs⟩ :: U))[T.length + 1]?).map _ = _
  rw [List.getElem?_cons_succ, own_get0]
  rfl⟩
theorem insert_of {xs : List D} {i : Int} {y : D} (h : xs.length ≤ 1000) (h0 : 0 ≤ i) (h1 : i ≤ 1000) : bmM .insert xs [.int i, y] = some (xs.take i.toNat ++ [y] ++ xs.drop i.toNat, .non) := by
  have a1 : xs.length < sizeLine := len_lt (by omega)
  have a2 : i < 2 ^ 63 := by
    have y : (2 : Int) ^ 63 = 9223372036854775808 := by decide
    omega
  show (if (decide (xs.length < sizeLine) && (decide (0 ≤ i) && decide (i < 2 ^ 63))) = true then _ else _) = _
  rw [decide_eq_true a1, decide_eq_true h0, decide_eq_true a2]
  rfl
theorem call_d {C : Nat → List Vl → Mem → R Vl} {f : Nat} {a b : E} {vs : Vars} {M M1 : Mem} {x y x' y' z : Vl} {M2 : Mem} (h1 : (den C a).v vs M = .ok x M) (h2 : (den C b).v vs M = .ok y M1) (hx : frz x = x') (hy : frz y = y') (h : C f [x', y'] M1 = .ok z M2) : (den C (.call f (.cons a (.cons b .nil)))).v vs M = .ok z M2 := call2 h1 h2 hx hy h
theorem take_v (n : Nat) (ns : List Int) (r : RowS) (T : Mem) (k : Int) (hk : 0 < k) (hk' : k ≤ 1000000) (vs : Vars) (h1 : vs[1]? = some (some (.loc 0))) : ∃ v r', (den (evF Pr (n + 1)) (.call i__law_taken (.cons (.var 1) (.cons (.k (.int k)) .nil)))).v vs (r.c ns :: T) = .ok (.d (.int v)) (RowS.c ns r' :: T) ∧ 0 ≤ v ∧ v < k := by
  obtain ⟨v, r', e, a, b⟩ := ev_taken n ns r T k hk hk'
  have v1 : (den (evF Pr (n + 1)) (.var 1)).v vs (r.c ns :: T) = .ok (.loc 0) (r.c ns :: T) := by rw [dv_var, h1]
  exact ⟨v, r', call2 v1 rfl rfl rfl e, a, b⟩
abbrev e_pk : E := (.call i__law_pick (.cons (.var 1) (.cons (.var 3) .nil)))
abbrev s_price : S := (.set (.n 7) (.bi .min (.cons (.k (.int 200)) (.cons (.op2 .add (.op2 .add (.idx (.var 5) (.k (.int 1))) (.idx (.var 6) (.k (.int 1)))) (.call i__law_taken (.cons (.var 1) (.cons (.k (.int 2)) .nil)))) .nil))))
abbrev s_made : S := (.set (.n 8) (.tup (.cons (.var 4) (.cons (.var 7) (.cons (.bi .min (.cons (.k (.int 10000)) (.cons (.bi .max (.cons (.k (.int 0)) (.cons (.op2 .sub (.op2 .add (.op2 .add (.idx (.var 5) (.k (.int 2))) (.idx (.var 6) (.k (.int 2)))) (.call i__law_taken (.cons (.var 1) (.cons (.k (.int 3)) .nil)))) (.k (.int 1))) .nil))) .nil))) .nil)))))
abbrev s_ins : S := (.ite (.and (.op2 .nin (.var 4) (.lc [18] (.n 18) (.var 3) .nil (.idx (.var 18) (.k (.int 0))))) (.op2 .lt (.bi .len (.cons (.var 3) .nil)) (.k (.int 12)))) (.seq (.ex (.bm .insert (.var 3) (.cons (.call i__law_taken (.cons (.var 1) (.cons (.op2 .add (.bi .len (.cons (.var 3) .nil)) (.k (.int 1))) .nil))) (.cons (.var 8) .nil)))) .skip) .skip)
abbrev body_ins : S := (.seq (.par [5, 6] [false, false] (.cons e_pk (.cons e_pk .nil))) (.seq s_price (.seq s_made (.seq s_ins .skip))))
theorem mem_rD {x : D} {rs : List Rwd} (h : x ∈ rs.map rD) : ∃ r ∈ rs, x = rD r := by
  obtain ⟨r, hr, e⟩ := List.mem_map.mp h
  exact ⟨r, hr, e.symm⟩
def fstD : D → D
  | .tup (y :: _) => y
  | _ => .non
theorem names_lc (n : Nat) (M : Mem) (rs : List Rwd) (k : Nat) (hk : M[k]? = some (listC rs)) (ns : List Int) (w2 w4 w5 w6 w7 w8 w9 w10 w11 w12 w13 w14 w15 w16 w17 w18 : Option Vl) :
    (den (evF Pr n) (.lc [18] (.n 18) (.var 3) .nil (.idx (.var 18) (.k (.int 0))))).v (VL ns w2 (some (.loc k)) w4 w5 w6 w7 w8 w9 w10 w11 w12 w13 w14 w15 w16 w17 w18) M = .ok (.new (.lst ((rs.map (·.1)).map D.str))) M := by
  have hg : chkG [(k, ⟨true, .lst (rs.map rD)⟩)] M = true := by
    show (chk1 M (k, ⟨true, .lst (rs.map rD)⟩) && true) = true
    unfold chk1
    rw [hk]
    show (true && D.same (.lst (rs.map rD)) (.lst (rs.map rD)) && true) = true
    rw [D.same_refl]
    rfl
  have hlc := lc_map (t := .n 18) (g := [(k, ⟨true, .lst (rs.map rD)⟩)]) (c := fun _ M => .ok true M) (e := (den (evF Pr n) (.idx (.var 18) (.k (.int 0)))).v) (vs := VL ns w2 (some (.loc k)) w4 w5 w6 w7 w8 w9 w10 w11 w12 w13 w14 w15 w16 w17 none) (M := M) fstD (fun _ => true) hg (xs := rs.map rD) (by
    intro x hx
    obtain ⟨r, hm, ex⟩ := mem_rD hx
    subst ex
    refine ⟨VL ns w2 (some (.loc k)) w4 w5 w6 w7 w8 w9 w10 w11 w12 w13 w14 w15 w16 w17 (some (.d (rD r))), rfl, rfl, fun _ => ⟨.d (.str r.1), rfl, rfl⟩⟩)
  have ef : ((rs.map rD).filter fun _ => true).map fstD = (rs.map (·.1)).map D.str := by
    rw [List.filter_eq_self.mpr fun _ _ => rfl]
    rw [List.map_map, List.map_map]
    rfl
  rw [ef] at hlc
  refine lc_of (C := evF Pr n) (own := [18]) (it := .var 3) (c := .nil) (xs := rs.map rD) (g := [(k, ⟨true, .lst (rs.map rD)⟩)]) ?_ hlc
  have v3 : (den (evF Pr n) (.var 3)).v (VL ns w2 (some (.loc k)) w4 w5 w6 w7 w8 w9 w10 w11 w12 w13 w14 w15 w16 w17 w18) M = .ok (.loc k) M := rfl
  rw [di_var, v3]
  show R.lift ((seqOf M (.loc k)).map _) M = _
  simp only [seqOf, hk, listC, if_true, Option.map_some, lift_some]
theorem idx1 (r : Rwd) : idx (rD r) (.int 1) = some (.d (.int r.2.1)) := rfl
theorem idx2 (r : Rwd) : idx (rD r) (.int 2) = some (.d (.int r.2.2)) := rfl
theorem add2 (i j : Int) : op2 .add (.int i) (.int j) = some (.d (.int (i + j))) := rfl
theorem sub2 (i j : Int) : op2 .sub (.int i) (.int j) = some (.d (.int (i - j))) := rfl
theorem lt2 (i j : Int) : op2 .lt (.int i) (.int j) = some (.d (.bl (decide (i < j)))) := rfl
theorem bmin2 (i j : Int) : bi .min [.int i, .int j] = some (.d (.int (if j < i then j else i))) := rfl
theorem bmax2 (i j : Int) : bi .max [.int i, .int j] = some (.d (.int (if j > i then j else i))) := rfl
theorem ders2 (M : Mem) (x y : D) : ders M [.d x, .d y] = some [x, y] := rfl
theorem truth_bl (b : Bool) : D.truth (.bl b) = some b := rfl
theorem nin_strs (s : Str) (ss : List Str) : op2 .nin (.str s) (.lst (ss.map D.str)) = some (.d (.bl (!ss.any (· == s)))) := by
  have e1 := any_strs s ss
  have e2 := flats_strs D.deep ss
  have e3 : D.flat D.deep (.str s) = true := by simp only [D.flat]
  show (if (D.flat D.deep (.str s) && D.flats D.deep (ss.map D.str)) = true then bool2 (!(ss.map D.str).any fun y => D.eqv y (.str s)) else none) = _
  rw [e1, e2, e3]
  rfl
theorem good_insert {rs : List Rwd} {m : Rwd} (h : goodRs rs) (hm : goodR m = true) (hn : m.1 ∉ rs.map (·.1)) (hl : rs.length < 12) (i : Nat) : goodRs (rs.take i ++ [m] ++ rs.drop i) := by
  obtain ⟨h1, h2, h3, h4⟩ := h
  have e : (rs.take i ++ [m] ++ rs.drop i).Perm (m :: rs) := by
    have p1 : (rs.take i ++ [m] ++ rs.drop i).Perm ([m] ++ rs.take i ++ rs.drop i) := List.Perm.append_right _ List.perm_append_comm
    have e2 : [m] ++ rs.take i ++ rs.drop i = m :: rs := by
      rw [List.append_assoc, List.take_append_drop]
      rfl
    rw [e2] at p1
    exact p1
  refine ⟨by rw [e.length_eq, List.length_cons]; omega, by rw [e.length_eq, List.length_cons]; omega, fun r hr => ?_, ?_⟩
  · rcases List.mem_cons.mp (e.mem_iff.mp hr) with z | z
    · rw [z]; exact hm
    · exact h3 r z
  · have pm := e.map (·.1)
    rw [pm.nodup_iff, List.map_cons, List.nodup_cons]
    exact ⟨hn, h4⟩
theorem pick_v (n : Nat) (ns : List Int) (r : RowS) (T U : Mem) (rs : List Rwd) (h : goodRs rs) (w2 w4 w5 w6 w7 w8 w9 w10 w11 w12 w13 w14 w15 w16 w17 w18 : Option Vl) :
    ∃ a ∈ rs, ∃ r', (den (evF Pr (n + 2)) e_pk).v (VL ns w2 (some (.loc (T.length + 1))) w4 w5 w6 w7 w8 w9 w10 w11 w12 w13 w14 w15 w16 w17 w18) (r.c ns :: (T ++ listC rs :: U)) = .ok (.d (rD a)) (RowS.c ns r' :: (T ++ listC rs :: U)) := by
  obtain ⟨x, r', e, hx⟩ := ev_pick n ns r (T ++ listC rs :: U) (.loc (T.length + 1)) (rs.map rD) stay0 (by rw [List.length_map]; exact h.1) (by rw [List.length_map]; exact Nat.le_trans h.2.1 (by omega))
  obtain ⟨a, ha, ex⟩ := mem_rD hx
  subst ex
  exact ⟨a, ha, r', call2 (a := .var 1) (b := .var 3) rfl rfl rfl rfl e⟩
theorem ins_step (n : Nat) (ns : List Int) (r : RowS) (T : Mem) (rs : List Rwd) (h : goodRs rs) (s : Str) (hs : goodName s = true) (w2 w5 w6 w7 w8 w9 w10 w11 w12 w13 w14 w15 w16 w17 w18 : Option Vl) :
    ∃ (rs' : List Rwd) (r' : RowS) (x5 x6 x7 x8 : Option Vl), evS ⟨evF Pr (n + 2), Pr.W, Pr.X⟩ body_ins (VL ns w2 (some (.loc (T.length + 1))) (some (.d (.str s))) w5 w6 w7 w8 w9 w10 w11 w12 w13 w14 w15 w16 w17 w18) (r.c ns :: (T ++ [listC rs])) = .nx (VL ns w2 (some (.loc (T.length + 1))) (some (.d (.str s))) x5 x6 x7 x8 w9 w10 w11 w12 w13 w14 w15 w16 w17 w18) (RowS.c ns r' :: (T ++ [listC rs'])) ∧ goodRs rs' := by
  obtain ⟨a, ha, r1, e1⟩ := pick_v n ns r T [] rs h w2 (some (.d (.str s))) w5 w6 w7 w8 w9 w10 w11 w12 w13 w14 w15 w16 w17 w18
  obtain ⟨b, hb, r2, e2⟩ := pick_v n ns r1 T [] rs h w2 (some (.d (.str s))) w5 w6 w7 w8 w9 w10 w11 w12 w13 w14 w15 w16 w17 w18
  obtain ⟨a1, a2, a3, a4⟩ := good_price (h.2.2.1 a ha)
  obtain ⟨b1, b2, b3, b4⟩ := good_price (h.2.2.1 b hb)
  have s1 : evS ⟨evF Pr (n + 2), Pr.W, Pr.X⟩ (.par [5, 6] [false, false] (.cons e_pk (.cons e_pk .nil))) (VL ns w2 (some (.loc (T.length + 1))) (some (.d (.str s))) w5 w6 w7 w8 w9 w10 w11 w12 w13 w14 w15 w16 w17 w18) (r.c ns :: (T ++ [listC rs])) = .nx (VL ns w2 (some (.loc (T.length + 1))) (some (.d (.str s))) (some (.d (rD a))) (some (.d (rD b))) w7 w8 w9 w10 w11 w12 w13 w14 w15 w16 w17 w18) (RowS.c ns r2 :: (T ++ [listC rs])) := by
    simp only [es_par, dp_cons, e1, bind_ok', Bool.false_eq_true, if_false, e2, dp_nil, thenS_ok]
    rfl
  obtain ⟨t, r3, e3, t1, t2⟩ := take_v (n + 1) ns r2 (T ++ [listC rs]) 2 (by omega) (by omega) (VL ns w2 (some (.loc (T.length + 1))) (some (.d (.str s))) (some (.d (rD a))) (some (.d (rD b))) w7 w8 w9 w10 w11 w12 w13 w14 w15 w16 w17 w18) rfl
  have hp : ∃ p : Int, evS ⟨evF Pr (n + 2), Pr.W, Pr.X⟩ s_price (VL ns w2 (some (.loc (T.length + 1))) (some (.d (.str s))) (some (.d (rD a))) (some (.d (rD b))) w7 w8 w9 w10 w11 w12 w13 w14 w15 w16 w17 w18) (RowS.c ns r2 :: (T ++ [listC rs])) = .nx (VL ns w2 (some (.loc (T.length + 1))) (some (.d (.str s))) (some (.d (rD a))) (some (.d (rD b))) (some (.d (.int p))) w8 w9 w10 w11 w12 w13 w14 w15 w16 w17 w18) (RowS.c ns r3 :: (T ++ [listC rs])) ∧ 1 ≤ p ∧ p ≤ 200 := by
    refine ⟨if a.2.1 + b.2.1 + t < 200 then a.2.1 + b.2.1 + t else 200, ?_, by split <;> omega, by split <;> omega⟩
    have v5 : ∀ M, (den (evF Pr (n + 2)) (.var 5)).v (VL ns w2 (some (.loc (T.length + 1))) (some (.d (.str s))) (some (.d (rD a))) (some (.d (rD b))) w7 w8 w9 w10 w11 w12 w13 w14 w15 w16 w17 w18) M = .ok (.d (rD a)) M := fun _ => rfl
    have v6 : ∀ M, (den (evF Pr (n + 2)) (.var 6)).v (VL ns w2 (some (.loc (T.length + 1))) (some (.d (.str s))) (some (.d (rD a))) (some (.d (rD b))) w7 w8 w9 w10 w11 w12 w13 w14 w15 w16 w17 w18) M = .ok (.d (rD b)) M := fun _ => rfl
    simp only [s_price, es_setN, dv_bi, da_cons, da_nil, dv_op2, dv_idx, dv_k, v5, v6, bind_ok', der_d, Option.bind_some, idx1, lift_some, add2, e3, frz_d, ders2, bmin2, thenS_ok]
    rfl
  obtain ⟨p, s2, p1, p2⟩ := hp
  obtain ⟨u, r4, e4, u1, u2⟩ := take_v (n + 1) ns r3 (T ++ [listC rs]) 3 (by omega) (by omega) (VL ns w2 (some (.loc (T.length + 1))) (some (.d (.str s))) (some (.d (rD a))) (some (.d (rD b))) (some (.d (.int p))) w8 w9 w10 w11 w12 w13 w14 w15 w16 w17 w18) rfl
  have hmd : ∃ q : Int, evS ⟨evF Pr (n + 2), Pr.W, Pr.X⟩ s_made (VL ns w2 (some (.loc (T.length + 1))) (some (.d (.str s))) (some (.d (rD a))) (some (.d (rD b))) (some (.d (.int p))) w8 w9 w10 w11 w12 w13 w14 w15 w16 w17 w18) (RowS.c ns r3 :: (T ++ [listC rs])) = .nx (VL ns w2 (some (.loc (T.length + 1))) (some (.d (.str s))) (some (.d (rD a))) (some (.d (rD b))) (some (.d (.int p))) (some (.d (rD (s, p, q)))) w9 w10 w11 w12 w13 w14 w15 w16 w17 w18) (RowS.c ns r4 :: (T ++ [listC rs])) ∧ 0 ≤ q ∧ q ≤ 10000 := by
    refine ⟨if (if a.2.2 + b.2.2 + u - 1 > 0 then a.2.2 + b.2.2 + u - 1 else 0) < 10000 then (if a.2.2 + b.2.2 + u - 1 > 0 then a.2.2 + b.2.2 + u - 1 else 0) else 10000, ?_, by split <;> split <;> omega, by split <;> omega⟩
    have v5 : ∀ M, (den (evF Pr (n + 2)) (.var 5)).v (VL ns w2 (some (.loc (T.length + 1))) (some (.d (.str s))) (some (.d (rD a))) (some (.d (rD b))) (some (.d (.int p))) w8 w9 w10 w11 w12 w13 w14 w15 w16 w17 w18) M = .ok (.d (rD a)) M := fun _ => rfl
    have v6 : ∀ M, (den (evF Pr (n + 2)) (.var 6)).v (VL ns w2 (some (.loc (T.length + 1))) (some (.d (.str s))) (some (.d (rD a))) (some (.d (rD b))) (some (.d (.int p))) w8 w9 w10 w11 w12 w13 w14 w15 w16 w17 w18) M = .ok (.d (rD b)) M := fun _ => rfl
    have v4 : ∀ M, (den (evF Pr (n + 2)) (.var 4)).v (VL ns w2 (some (.loc (T.length + 1))) (some (.d (.str s))) (some (.d (rD a))) (some (.d (rD b))) (some (.d (.int p))) w8 w9 w10 w11 w12 w13 w14 w15 w16 w17 w18) M = .ok (.d (.str s)) M := fun _ => rfl
    have v7 : ∀ M, (den (evF Pr (n + 2)) (.var 7)).v (VL ns w2 (some (.loc (T.length + 1))) (some (.d (.str s))) (some (.d (rD a))) (some (.d (rD b))) (some (.d (.int p))) w8 w9 w10 w11 w12 w13 w14 w15 w16 w17 w18) M = .ok (.d (.int p)) M := fun _ => rfl
    have tt : ∀ (M : Mem) (x y z : D), (match toDs M [.d x, .d y, .d z] with
      | some (ds, M2) => if ds.length ≤ 1000 then (R.ok (Vl.d (.tup ds)) M2 : R Vl) else .no
      | none => .no) = .ok (.d (.tup [x, y, z])) M := fun M x y z => by
      simp only [toDs, toD, Option.bind_some, Option.map_some, List.length_cons, List.length_nil, Nat.reduceAdd, Nat.reduceLeDiff, if_true]
    simp only [s_made, es_setN, dv_tup, dv_bi, da_cons, da_nil, dv_op2, dv_idx, dv_k, v4, v5, v6, v7, bind_ok', der_d, Option.bind_some, idx2, lift_some, add2, sub2, e4, frz_d, ders2, bmin2, bmax2, tt, thenS_ok]
    rfl
  obtain ⟨q, s3, q1, q2⟩ := hmd
  have gm : goodR (s, p, q) = true := by
    unfold goodR
    rw [hs, decide_eq_true p1, decide_eq_true p2, decide_eq_true q1, decide_eq_true q2]
    rfl
  have en := names_lc (n + 2) (RowS.c ns r4 :: (T ++ [listC rs])) rs (T.length + 1) (by rw [List.getElem?_cons_succ, own_get0]) ns w2 (some (.d (.str s))) (some (.d (rD a))) (some (.d (rD b))) (some (.d (.int p))) (some (.d (rD (s, p, q)))) w9 w10 w11 w12 w13 w14 w15 w16 w17 w18
  have v3 : ∀ M, (den (evF Pr (n + 2)) (.var 3)).v (VL ns w2 (some (.loc (T.length + 1))) (some (.d (.str s))) (some (.d (rD a))) (some (.d (rD b))) (some (.d (.int p))) (some (.d (rD (s, p, q)))) w9 w10 w11 w12 w13 w14 w15 w16 w17 w18) M = .ok (.loc (T.length + 1)) M := fun _ => rfl
  have v4 : ∀ M, (den (evF Pr (n + 2)) (.var 4)).v (VL ns w2 (some (.loc (T.length + 1))) (some (.d (.str s))) (some (.d (rD a))) (some (.d (rD b))) (some (.d (.int p))) (some (.d (rD (s, p, q)))) w9 w10 w11 w12 w13 w14 w15 w16 w17 w18) M = .ok (.d (.str s)) M := fun _ => rfl
  have v8 : ∀ M, (den (evF Pr (n + 2)) (.var 8)).v (VL ns w2 (some (.loc (T.length + 1))) (some (.d (.str s))) (some (.d (rD a))) (some (.d (rD b))) (some (.d (.int p))) (some (.d (rD (s, p, q)))) w9 w10 w11 w12 w13 w14 w15 w16 w17 w18) M = .ok (.d (rD (s, p, q))) M := fun _ => rfl
  have v1 : ∀ M, (den (evF Pr (n + 2)) (.var 1)).v (VL ns w2 (some (.loc (T.length + 1))) (some (.d (.str s))) (some (.d (rD a))) (some (.d (rD b))) (some (.d (.int p))) (some (.d (rD (s, p, q)))) w9 w10 w11 w12 w13 w14 w15 w16 w17 w18) M = .ok (.loc 0) M := fun _ => rfl
  have dl : ∀ r : RowS, der (RowS.c ns r :: (T ++ [listC rs])) (.loc (T.length + 1)) = some (.lst (rs.map rD)) := fun r => stay0.2 _
  have dn : ∀ M x, der M (.new x) = some x := fun _ _ => rfl
  have f0 : ∀ k, frz (.loc k) = .loc k := fun _ => rfl
  have dls : ∀ r : RowS, ders (RowS.c ns r :: (T ++ [listC rs])) [.loc (T.length + 1)] = some [.lst (rs.map rD)] := fun r => by simp only [ders, dl, Option.bind_some, Option.map_some]
  have ct : (den (evF Pr (n + 2)) (.and (.op2 .nin (.var 4) (.lc [18] (.n 18) (.var 3) .nil (.idx (.var 18) (.k (.int 0))))) (.op2 .lt (.bi .len (.cons (.var 3) .nil)) (.k (.int 12))))).t (VL ns w2 (some (.loc (T.length + 1))) (some (.d (.str s))) (some (.d (rD a))) (some (.d (rD b))) (some (.d (.int p))) (some (.d (rD (s, p, q)))) w9 w10 w11 w12 w13 w14 w15 w16 w17 w18) (RowS.c ns r4 :: (T ++ [listC rs])) = .ok (!(rs.map (·.1)).any (· == s) && decide (((rs.map rD).length : Int) < 12)) (RowS.c ns r4 :: (T ++ [listC rs])) := by
    simp only [dt_and, dt_op2, dv_op2, v4, bind_ok', en, der_d, dn, Option.bind_some, nin_strs, lift_some, truth_bl]
    cases (!(rs.map (·.1)).any (· == s)) with
    | true => simp only [if_true, dv_bi, da_cons, da_nil, v3, bind_ok', f0, dls, Option.bind_some, len_lst, lift_some, dv_k, der_d, lt2, truth_bl, Bool.true_and]
    | false => simp only [Bool.false_eq_true, if_false, Bool.false_and]
  cases hc : (!(rs.map (·.1)).any (· == s) && decide (((rs.map rD).length : Int) < 12)) with
  | false =>
    rw [hc] at ct
    refine ⟨rs, r4, some (.d (rD a)), some (.d (rD b)), some (.d (.int p)), some (.d (rD (s, p, q))), ?_, h⟩
    refine seq_nx s1 (seq_nx s2 (seq_nx s3 (seq_nx (M1 := RowS.c ns r4 :: (T ++ [listC rs])) (v1 := VL ns w2 (some (.loc (T.length + 1))) (some (.d (.str s))) (some (.d (rD a))) (some (.d (rD b))) (some (.d (.int p))) (some (.d (rD (s, p, q)))) w9 w10 w11 w12 w13 w14 w15 w16 w17 w18) ?_ rfl)))
    rw [s_ins, es_ite, ct]
    rfl
  | true =>
    rw [hc] at ct
    obtain ⟨c1, c2⟩ := Bool.and_eq_true_iff.mp hc
    have c2 := of_decide_eq_true c2
    rw [List.length_map] at c2
    have hn : s ∉ rs.map (·.1) := fun hm => by
      have z : (rs.map (·.1)).any (· == s) = true := List.any_eq_true.mpr ⟨s, hm, beq_self_eq_true s⟩
      rw [z] at c1
      cases c1
    obtain ⟨i, r5, e5, i1, i2⟩ := ev_taken (n + 1) ns r4 (T ++ [listC rs]) ((rs.map rD).length + 1) (by omega) (by rw [List.length_map]; omega)
    rw [List.length_map] at i2
    refine ⟨rs.take i.toNat ++ [(s, p, q)] ++ rs.drop i.toNat, r5, some (.d (rD a)), some (.d (rD b)), some (.d (.int p)), some (.d (rD (s, p, q))), ?_, good_insert h gm hn (by omega) _⟩
    have ei : (den (evF Pr (n + 2)) (.call i__law_taken (.cons (.var 1) (.cons (.op2 .add (.bi .len (.cons (.var 3) .nil)) (.k (.int 1))) .nil)))).v (VL ns w2 (some (.loc (T.length + 1))) (some (.d (.str s))) (some (.d (rD a))) (some (.d (rD b))) (some (.d (.int p))) (some (.d (rD (s, p, q)))) w9 w10 w11 w12 w13 w14 w15 w16 w17 w18) (RowS.c ns r4 :: (T ++ [listC rs])) = .ok (.d (.int i)) (RowS.c ns r5 :: (T ++ [listC rs])) := by
      refine call2 (v1 _) (y := .d (.int ((rs.map rD).length + 1))) (M2 := RowS.c ns r4 :: (T ++ [listC rs])) ?_ rfl rfl e5
      simp only [dv_op2, dv_bi, da_cons, da_nil, v3, bind_ok', f0, dls, Option.bind_some, len_lst, lift_some, dv_k, der_d, add2]
    have ins := insert_of (xs := rs.map rD) (i := i) (y := rD (s, p, q)) (by rw [List.length_map]; omega) i1 (by omega)
    have es : (rs.map rD).take i.toNat ++ [rD (s, p, q)] ++ (rs.map rD).drop i.toNat = (rs.take i.toNat ++ [(s, p, q)] ++ rs.drop i.toNat).map rD := by
      simp [List.map_take, List.map_drop]
    rw [es] at ins
    have td : ∀ (M : Mem) (x y : D), toDs M [.d x, .d y] = some ([x, y], M) := fun _ _ _ => rfl
    have bt : ∀ xs, bmTy .insert (some (.lst xs)) = true := fun _ => rfl
    have mt : Bm.insert.mut = true := rfl
    have mu : mutate .insert (RowS.c ns r5 :: (T ++ [listC rs])) (.loc (T.length + 1)) [.int i, rD (s, p, q)] = .ok (.d .non) (RowS.c ns r5 :: (T ++ [listC (rs.take i.toNat ++ [(s, p, q)] ++ rs.drop i.toNat)])) := by
      have g : (RowS.c ns r5 :: (T ++ [listC rs]))[T.length + 1]? = some ⟨true, .lst (rs.map rD)⟩ := by
        rw [List.getElem?_cons_succ, own_get0]
        rfl
      simp only [mutate, g, ins, List.set_cons_succ, own_set0]
      rfl
    have sx : evS ⟨evF Pr (n + 2), Pr.W, Pr.X⟩ (.ex (.bm .insert (.var 3) (.cons (.call i__law_taken (.cons (.var 1) (.cons (.op2 .add (.bi .len (.cons (.var 3) .nil)) (.k (.int 1))) .nil))) (.cons (.var 8) .nil)))) (VL ns w2 (some (.loc (T.length + 1))) (some (.d (.str s))) (some (.d (rD a))) (some (.d (rD b))) (some (.d (.int p))) (some (.d (rD (s, p, q)))) w9 w10 w11 w12 w13 w14 w15 w16 w17 w18) (RowS.c ns r4 :: (T ++ [listC rs])) = .nx (VL ns w2 (some (.loc (T.length + 1))) (some (.d (.str s))) (some (.d (rD a))) (some (.d (rD b))) (some (.d (.int p))) (some (.d (rD (s, p, q)))) w9 w10 w11 w12 w13 w14 w15 w16 w17 w18) (RowS.c ns r5 :: (T ++ [listC (rs.take i.toNat ++ [(s, p, q)] ++ rs.drop i.toNat)])) := by
      rw [es_ex, dv_bm, v3, bind_ok', dl]
      simp only [bt, if_true, da_cons, da_nil, ei, bind_ok', v8, frz_d, mt, td, f0, mu, thenS_ok]
    refine seq_nx s1 (seq_nx s2 (seq_nx s3 (seq_nx (M1 := RowS.c ns r5 :: (T ++ [listC (rs.take i.toNat ++ [(s, p, q)] ++ rs.drop i.toNat)])) (v1 := VL ns w2 (some (.loc (T.length + 1))) (some (.d (.str s))) (some (.d (rD a))) (some (.d (rD b))) (some (.d (.int p))) (some (.d (rD (s, p, q)))) w9 w10 w11 w12 w13 w14 w15 w16 w17 w18) ?_ rfl)))
    rw [s_ins, es_ite, ct]
    exact seq_nx sx rfl
end Pd
namespace Pd
open PySem PySem.Spec L2
theorem loop_ins (n : Nat) (ns : List Int) (T : Mem) (w2 w9 w10 w11 w12 w13 w14 w15 w16 w17 w18 : Option Vl) : ∀ (xs : List D) (rs : List Rwd) (r : RowS) (w4 w5 w6 w7 w8 : Option Vl), (∀ x ∈ xs, ∃ s, x = D.str s ∧ goodName s = true) → goodRs rs →
    ∃ (rs' : List Rwd) (r' : RowS) (x4 x5 x6 x7 x8 : Option Vl), forGo (.n 4) [] (evS ⟨evF Pr (n + 2), Pr.W, Pr.X⟩ body_ins) xs (VL ns w2 (some (.loc (T.length + 1))) w4 w5 w6 w7 w8 w9 w10 w11 w12 w13 w14 w15 w16 w17 w18) (r.c ns :: (T ++ [listC rs])) = .nx (VL ns w2 (some (.loc (T.length + 1))) x4 x5 x6 x7 x8 w9 w10 w11 w12 w13 w14 w15 w16 w17 w18) (RowS.c ns r' :: (T ++ [listC rs'])) ∧ goodRs rs'
  | [], rs, r, w4, w5, w6, w7, w8, _, h => ⟨rs, r, w4, w5, w6, w7, w8, for_end rfl, h⟩
  | x :: xs, rs, r, w4, w5, w6, w7, w8, hx, h => by
    obtain ⟨s, ex, hs⟩ := hx x List.mem_cons_self
    subst ex
    obtain ⟨rs1, r1, y5, y6, y7, y8, e, h1⟩ := ins_step n ns r T rs h s hs w2 w5 w6 w7 w8 w9 w10 w11 w12 w13 w14 w15 w16 w17 w18
    obtain ⟨rs2, r2, x4, x5, x6, x7, x8, e2, h2⟩ := loop_ins n ns T w2 w9 w10 w11 w12 w13 w14 w15 w16 w17 w18 xs rs1 r1 (some (.d (.str s))) y5 y6 y7 y8 (fun z hz => hx z (List.mem_cons_of_mem _ hz)) h1
    exact ⟨rs2, r2, x4, x5, x6, x7, x8, for_nx (v1 := VL ns w2 (some (.loc (T.length + 1))) (some (.d (.str s))) w5 w6 w7 w8 w9 w10 w11 w12 w13 w14 w15 w16 w17 w18) rfl rfl e e2, h2⟩
abbrev e_oth : E := (.lc [5] (.n 5) (.var 3) (.op2 .ne (.idx (.var 5) (.k (.int 0))) (.var 4)) (.var 5))
abbrev body_due : S := (.seq (.set (.n 12) e_oth) (.seq (.ite (.op2 .ge (.idx (.call i__law_best (.cons (.var 12) (.cons (.var 7) .nil))) (.var 7)) (.var 11)) (.seq (.ex (.bm .append (.var 10) (.cons (.var 4) .nil))) .skip) .skip) .skip))
def domL (rs : List Rwd) (r : Rwd) : Bool := decide (r.2.2 ≤ Lv (others rs r.1) r.2.1.toNat)
abbrev gdR (k : Nat) (rs : List Rwd) : Gd := [(k, ⟨true, .lst (rs.map rD)⟩)]
theorem gd_ok {k : Nat} {rs : List Rwd} {M : Mem} (hk : M[k]? = some (listC rs)) : chkG (gdR k rs) M = true := by
  show (chk1 M (k, ⟨true, .lst (rs.map rD)⟩) && true) = true
  unfold chk1
  rw [hk]
  show (true && D.same (.lst (rs.map rD)) (.lst (rs.map rD)) && true) = true
  rw [D.same_refl]
  rfl
theorem it3 (n : Nat) (M : Mem) (rs : List Rwd) (k : Nat) (hk : M[k]? = some (listC rs)) (vs : Vars) (hv : vs[3]? = some (some (.loc k))) : (den (evF Pr n) (.var 3)).i vs M = .ok (rs.map rD, gdR k rs) M := by
  rw [di_var, dv_var, hv]
  show R.lift ((seqOf M (.loc k)).map _) M = _
  simp only [seqOf, hk, listC, if_true, Option.map_some, lift_some]
theorem idx0 (r : Rwd) : idx (rD r) (.int 0) = some (.d (.str r.1)) := rfl
theorem ge2 (i j : Int) : op2 .ge (.int i) (.int j) = some (.d (.bl (decide (j ≤ i)))) := rfl
theorem oth_lc (n : Nat) (M : Mem) (rs : List Rwd) (k : Nat) (hk : M[k]? = some (listC rs)) (ns : List Int) (s : Str) (w2 w5 w6 w7 w8 w9 w10 w11 w12 w13 w14 w15 w16 w17 w18 : Option Vl) :
    (den (evF Pr n) e_oth).v (VL ns w2 (some (.loc k)) (some (.d (.str s))) w5 w6 w7 w8 w9 w10 w11 w12 w13 w14 w15 w16 w17 w18) M = .ok (.new (.lst ((others rs s).map rD))) M := by
  have hlc := lc_map (t := .n 5) (g := gdR k rs) (c := (den (evF Pr n) (.op2 .ne (.idx (.var 5) (.k (.int 0))) (.var 4))).t) (e := (den (evF Pr n) (.var 5)).v) (vs := VL ns w2 (some (.loc k)) (some (.d (.str s))) none w6 w7 w8 w9 w10 w11 w12 w13 w14 w15 w16 w17 w18) (M := M) id (keepN s) (gd_ok hk) (xs := rs.map rD) (by
    intro x hx
    obtain ⟨r, hm, ex⟩ := mem_rD hx
    subst ex
    refine ⟨VL ns w2 (some (.loc k)) (some (.d (.str s))) (some (.d (rD r))) w6 w7 w8 w9 w10 w11 w12 w13 w14 w15 w16 w17 w18, rfl, ?_, fun _ => ⟨.d (rD r), rfl, rfl⟩⟩
    have v5 : (den (evF Pr n) (.var 5)).v (VL ns w2 (some (.loc k)) (some (.d (.str s))) (some (.d (rD r))) w6 w7 w8 w9 w10 w11 w12 w13 w14 w15 w16 w17 w18) M = .ok (.d (rD r)) M := rfl
    have v4 : (den (evF Pr n) (.var 4)).v (VL ns w2 (some (.loc k)) (some (.d (.str s))) (some (.d (rD r))) w6 w7 w8 w9 w10 w11 w12 w13 w14 w15 w16 w17 w18) M = .ok (.d (.str s)) M := rfl
    have kk : keepN s (rD r) = !(r.1 == s) := rfl
    simp only [dt_op2, dv_op2, dv_idx, dv_k, v5, v4, bind_ok', der_d, Option.bind_some, idx0, lift_some, ne_str, truth_bl, kk])
  rw [List.map_id, filter_rD] at hlc
  exact lc_of (C := evF Pr n) (own := [5]) (it := .var 3) (c := .op2 .ne (.idx (.var 5) (.k (.int 0))) (.var 4)) (it3 n M rs k hk _ rfl) hlc
theorem loop_due (n : Nat) (ns : List Int) (r : RowS) (T : Mem) (rs : List Rwd) (h : goodRs rs) (w2 w6 w8 w9 w13 w14 w15 w16 w17 w18 : Option Vl) : ∀ (todo : List Rwd) (done : List Str) (w4 w5 w7 w11 w12 : Option Vl), (∀ r ∈ todo, goodR r = true) → done.length + todo.length ≤ 12 →
    ∃ x4 x5 x7 x11 x12 : Option Vl, forGo (.t (.tc (.n 4) (.tc (.n 7) (.tc (.n 11) .t0)))) (gdR (T.length + 1) rs) (evS ⟨evF Pr (n + 1), Pr.W, Pr.X⟩ body_due) (todo.map rD) (VL ns w2 (some (.loc (T.length + 1))) w4 w5 w6 w7 w8 w9 (some (.loc (T.length + 2))) w11 w12 w13 w14 w15 w16 w17 w18) (r.c ns :: (T ++ [listC rs, strsC done])) = .nx (VL ns w2 (some (.loc (T.length + 1))) x4 x5 w6 x7 w8 w9 (some (.loc (T.length + 2))) x11 x12 w13 w14 w15 w16 w17 w18) (r.c ns :: (T ++ [listC rs, strsC (done ++ (todo.filter (domL rs)).map (·.1))]))
  | [], done, w4, w5, w7, w11, w12, _, _ => ⟨w4, w5, w7, w11, w12, by
    simp only [List.filter_nil, List.map_nil, List.append_nil]
    exact for_end (gd_ok (by rw [List.getElem?_cons_succ, own_get0]))⟩
  | z :: todo, done, w4, w5, w7, w11, w12, ht, hl => by
    obtain ⟨g1, g2, g3, g4⟩ := good_price (ht z List.mem_cons_self)
    have hk : (r.c ns :: (T ++ [listC rs, strsC done]))[T.length + 1]? = some (listC rs) := by rw [List.getElem?_cons_succ, own_get0]
    have eo := oth_lc (n + 1) (r.c ns :: (T ++ [listC rs, strsC done])) rs (T.length + 1) hk ns z.1 w2 w5 w6 (some (.d (.int z.2.1))) w8 w9 (some (.loc (T.length + 2))) (some (.d (.int z.2.2))) w12 w13 w14 w15 w16 w17 w18
    have ol : (others rs z.1).length ≤ 100 := Nat.le_trans (List.length_filter_le _ _) (Nat.le_trans h.2.1 (by omega))
    have e3 := ev_lbest n (r.c ns :: (T ++ [listC rs, strsC done])) (others rs z.1) (others_price h.2.2.1) ol z.2.1.toNat (by omega)
    have ep : ((z.2.1.toNat : Nat) : Int) = z.2.1 := by omega
    rw [ep] at e3
    have v12 : ∀ M, (den (evF Pr (n + 1)) (.var 12)).v (VL ns w2 (some (.loc (T.length + 1))) (some (.d (.str z.1))) w5 w6 (some (.d (.int z.2.1))) w8 w9 (some (.loc (T.length + 2))) (some (.d (.int z.2.2))) (some (.d (.lst ((others rs z.1).map rD)))) w13 w14 w15 w16 w17 w18) M = .ok (.d (.lst ((others rs z.1).map rD))) M := fun _ => rfl
    have v7 : ∀ M, (den (evF Pr (n + 1)) (.var 7)).v (VL ns w2 (some (.loc (T.length + 1))) (some (.d (.str z.1))) w5 w6 (some (.d (.int z.2.1))) w8 w9 (some (.loc (T.length + 2))) (some (.d (.int z.2.2))) (some (.d (.lst ((others rs z.1).map rD)))) w13 w14 w15 w16 w17 w18) M = .ok (.d (.int z.2.1)) M := fun _ => rfl
    have v11 : ∀ M, (den (evF Pr (n + 1)) (.var 11)).v (VL ns w2 (some (.loc (T.length + 1))) (some (.d (.str z.1))) w5 w6 (some (.d (.int z.2.1))) w8 w9 (some (.loc (T.length + 2))) (some (.d (.int z.2.2))) (some (.d (.lst ((others rs z.1).map rD)))) w13 w14 w15 w16 w17 w18) M = .ok (.d (.int z.2.2)) M := fun _ => rfl
    have c := call2 (C := evF Pr (n + 1)) (f := i__law_best) (v12 _) (v7 _) rfl rfl e3
    have a1 : atI ((ltab (others rs z.1) (z.2.1.toNat + 1)).map D.int) z.2.1 = some (.int (Lv (others rs z.1) z.2.1.toNat)) := at_ints (by omega) (by rw [ltab_len]; omega)
    have dn : ∀ M x, der M (.new x) = some x := fun _ _ => rfl
    have ct : (den (evF Pr (n + 1)) (.op2 .ge (.idx (.call i__law_best (.cons (.var 12) (.cons (.var 7) .nil))) (.var 7)) (.var 11))).t (VL ns w2 (some (.loc (T.length + 1))) (some (.d (.str z.1))) w5 w6 (some (.d (.int z.2.1))) w8 w9 (some (.loc (T.length + 2))) (some (.d (.int z.2.2))) (some (.d (.lst ((others rs z.1).map rD)))) w13 w14 w15 w16 w17 w18) (r.c ns :: (T ++ [listC rs, strsC done])) = .ok (domL rs z) (r.c ns :: (T ++ [listC rs, strsC done])) := by
      simp only [dt_op2, dv_op2, dv_idx, c, v7, v11, bind_ok', der_d, dn, Option.bind_some, Option.map_some, lift_some, idx_lst, a1, ge2, truth_bl]
      rfl
    have first : evS ⟨evF Pr (n + 1), Pr.W, Pr.X⟩ (.set (.n 12) e_oth) (VL ns w2 (some (.loc (T.length + 1))) (some (.d (.str z.1))) w5 w6 (some (.d (.int z.2.1))) w8 w9 (some (.loc (T.length + 2))) (some (.d (.int z.2.2))) w12 w13 w14 w15 w16 w17 w18) (r.c ns :: (T ++ [listC rs, strsC done])) = .nx (VL ns w2 (some (.loc (T.length + 1))) (some (.d (.str z.1))) w5 w6 (some (.d (.int z.2.1))) w8 w9 (some (.loc (T.length + 2))) (some (.d (.int z.2.2))) (some (.d (.lst ((others rs z.1).map rD)))) w13 w14 w15 w16 w17 w18) (r.c ns :: (T ++ [listC rs, strsC done])) := by
      rw [es_setN, eo]
      rfl
    rw [List.map_cons, List.filter_cons]
    cases hd : domL rs z with
    | true =>
      obtain ⟨x4, x5, x7, x11, x12, ih⟩ := loop_due n ns r T rs h w2 w6 w8 w9 w13 w14 w15 w16 w17 w18 todo (done ++ [z.1]) (some (.d (.str z.1))) w5 (some (.d (.int z.2.1))) (some (.d (.int z.2.2))) (some (.d (.lst ((others rs z.1).map rD)))) (fun y hy => ht y (List.mem_cons_of_mem _ hy)) (by simp at hl ⊢; omega)
      rw [List.append_assoc, List.singleton_append] at ih
      rw [if_pos rfl, List.map_cons]
      refine ⟨x4, x5, x7, x11, x12, for_nx (gd_ok hk) (v1 := VL ns w2 (some (.loc (T.length + 1))) (some (.d (.str z.1))) w5 w6 (some (.d (.int z.2.1))) w8 w9 (some (.loc (T.length + 2))) (some (.d (.int z.2.2))) w12 w13 w14 w15 w16 w17 w18) rfl ?_ ih⟩
      refine seq_nx first ?_
      have g2 : (r.c ns :: (T ++ [listC rs, strsC done]))[T.length + 2]? = some ⟨true, .lst (done.map D.str)⟩ := by
        rw [List.getElem?_cons_succ, own_get1]
        rfl
      have st := app_of (Z := ⟨evF Pr (n + 1), Pr.W, Pr.X⟩) (vs := VL ns w2 (some (.loc (T.length + 1))) (some (.d (.str z.1))) w5 w6 (some (.d (.int z.2.1))) w8 w9 (some (.loc (T.length + 2))) (some (.d (.int z.2.2))) (some (.d (.lst ((others rs z.1).map rD)))) w13 w14 w15 w16 w17 w18) (M := r.c ns :: (T ++ [listC rs, strsC done])) (i := 10) (c := T.length + 2) (x := .var 4) (y := .d (.str z.1)) (xs := done.map D.str) (xs0 := done.map D.str) rfl g2 rfl rfl g2 (by rw [List.length_map]; omega)
      have ec : strsC (done ++ [z.1]) = ⟨true, .lst (done.map D.str ++ [D.str z.1])⟩ := by simp [strsC]
      rw [List.set_cons_succ, own_set1, ← ec] at st
      have s2 : evS ⟨evF Pr (n + 1), Pr.W, Pr.X⟩ (.ite (.op2 .ge (.idx (.call i__law_best (.cons (.var 12) (.cons (.var 7) .nil))) (.var 7)) (.var 11)) (.seq (.ex (.bm .append (.var 10) (.cons (.var 4) .nil))) .skip) .skip) (VL ns w2 (some (.loc (T.length + 1))) (some (.d (.str z.1))) w5 w6 (some (.d (.int z.2.1))) w8 w9 (some (.loc (T.length + 2))) (some (.d (.int z.2.2))) (some (.d (.lst ((others rs z.1).map rD)))) w13 w14 w15 w16 w17 w18) (r.c ns :: (T ++ [listC rs, strsC done])) = .nx (VL ns w2 (some (.loc (T.length + 1))) (some (.d (.str z.1))) w5 w6 (some (.d (.int z.2.1))) w8 w9 (some (.loc (T.length + 2))) (some (.d (.int z.2.2))) (some (.d (.lst ((others rs z.1).map rD)))) w13 w14 w15 w16 w17 w18) (r.c ns :: (T ++ [listC rs, strsC (done ++ [z.1])])) := by
        rw [es_ite, ct, hd]
        exact seq_nx st rfl
      exact seq_nx s2 rfl
    | false =>
      obtain ⟨x4, x5, x7, x11, x12, ih⟩ := loop_due n ns r T rs h w2 w6 w8 w9 w13 w14 w15 w16 w17 w18 todo done (some (.d (.str z.1))) w5 (some (.d (.int z.2.1))) (some (.d (.int z.2.2))) (some (.d (.lst ((others rs z.1).map rD)))) (fun y hy => ht y (List.mem_cons_of_mem _ hy)) (by simp at hl ⊢; omega)
      rw [if_neg (by decide)]
      refine ⟨x4, x5, x7, x11, x12, for_nx (gd_ok hk) (v1 := VL ns w2 (some (.loc (T.length + 1))) (some (.d (.str z.1))) w5 w6 (some (.d (.int z.2.1))) w8 w9 (some (.loc (T.length + 2))) (some (.d (.int z.2.2))) w12 w13 w14 w15 w16 w17 w18) rfl ?_ ih⟩
      refine seq_nx first (seq_nx (v1 := VL ns w2 (some (.loc (T.length + 1))) (some (.d (.str z.1))) w5 w6 (some (.d (.int z.2.1))) w8 w9 (some (.loc (T.length + 2))) (some (.d (.int z.2.2))) (some (.d (.lst ((others rs z.1).map rD)))) w13 w14 w15 w16 w17 w18) (M1 := r.c ns :: (T ++ [listC rs, strsC done])) ?_ rfl)
      rw [es_ite, ct, hd]
      rfl
end Pd
namespace Pd
open PySem PySem.Spec L2
theorem eqv_rD (r : Rwd) : D.eqv (rD r) (rD r) = true := by simp only [rD, D.eqv, D.eqvs, beq_self_eq_true, Bool.and_self]
theorem eqvs_rD : ∀ rs : List Rwd, D.eqvs (rs.map rD) (rs.map rD) = true
  | [] => by simp only [List.map_nil, D.eqvs]
  | r :: rs => by simp only [List.map_cons, D.eqvs, eqv_rD, eqvs_rD rs, Bool.and_self]
theorem flats_rD : ∀ (k : Nat) (rs : List Rwd), D.flats (k + 1) (rs.map rD) = true
  | _, [] => by simp only [List.map_nil, D.flats]
  | k, r :: rs => by simp only [List.map_cons, D.flats, rD, D.flat, flats_rD k rs, Bool.and_self]
theorem flat_lst {k : Nat} {xs : List D} (h : D.flats k xs = true) : D.flat (k + 1) (.lst xs) = true := by simp only [D.flat]; exact h
theorem ne_rs (rs : List Rwd) : op2 .ne (.lst (rs.map rD)) (.lst (rs.map rD)) = some (.d (.bl false)) := by
  have f : D.flat D.deep (.lst (rs.map rD)) = true := flat_lst (flats_rD 38 rs)
  have e : D.eqv (.lst (rs.map rD)) (.lst (rs.map rD)) = true := by simp only [D.eqv]; exact eqvs_rD rs
  show (if (D.flat D.deep (.lst (rs.map rD)) && D.flat D.deep (.lst (rs.map rD))) = true then bool2 (!D.eqv (.lst (rs.map rD)) (.lst (rs.map rD))) else none) = _
  rw [f, e]
  rfl
abbrev s_chk : S := (.ite (.or (.not (.call i__law_alike (.cons (.var 14) (.cons (.bi .sorted (.cons (.var 10) .nil)) .nil)))) (.op2 .ne (.bi .list (.cons (.var 9) .nil)) (.var 3))) (.seq (.ret (.k (.bl false))) .skip) .skip)
abbrev body_again : S := (.seq (.cell 14 (.call i_dominated (.cons (.var 9) .nil))) (.seq s_chk (.seq (.ex (.bm .append (.var 14) (.cons (.k (.str "a")) .nil))) .skip)))
abbrev gv (isT : Bool) (rs : List Rwd) : D := if isT then .tup (rs.map rD) else .lst (rs.map rD)
theorem list_gv (isT : Bool) (rs : List Rwd) : bi .list [gv isT rs] = some (.new (.lst (rs.map rD))) := by cases isT <;> rfl
theorem again_step (n : Nat) (ns : List Int) (M : Mem) (rs : List Rwd) (h : goodRs rs) (isT : Bool) (k3 k10 : Nat) (h3 : M[k3]? = some (listC rs)) (h10 : M[k10]? = some (strsC ((rs.filter (domP rs)).map (·.1)))) (w2 w4 w5 w6 w7 w8 w11 w12 w13 w14 w15 w16 w17 w18 : Option Vl) :
    evS ⟨evF Pr (n + 5), Pr.W, Pr.X⟩ body_again (VL ns w2 (some (.loc k3)) w4 w5 w6 w7 w8 (some (.d (gv isT rs))) (some (.loc k10)) w11 w12 w13 w14 w15 w16 w17 w18) M = .nx (VL ns w2 (some (.loc k3)) w4 w5 w6 w7 w8 (some (.d (gv isT rs))) (some (.loc k10)) w11 w12 w13 (some (.loc M.length)) w15 w16 w17 w18) (M ++ [⟨true, .lst ((isortS ((rs.filter (domP rs)).map (·.1))).map D.str ++ [.str "a"])⟩]) := by
  have ed := ev_dominated n M rs isT h
  generalize hdu : (rs.filter (domP rs)).map (·.1) = due at h10 ed ⊢
  have dl : due.length ≤ 12 := by
    rw [← hdu, List.length_map]
    exact Nat.le_trans (List.length_filter_le _ _) h.2.1
  have sl : (isortS due).length ≤ 12 := by rw [isortS_len]; exact dl
  have s1 : evS ⟨evF Pr (n + 5), Pr.W, Pr.X⟩ (.cell 14 (.call i_dominated (.cons (.var 9) .nil))) (VL ns w2 (some (.loc k3)) w4 w5 w6 w7 w8 (some (.d (gv isT rs))) (some (.loc k10)) w11 w12 w13 w14 w15 w16 w17 w18) M = .nx (VL ns w2 (some (.loc k3)) w4 w5 w6 w7 w8 (some (.d (gv isT rs))) (some (.loc k10)) w11 w12 w13 (some (.loc M.length)) w15 w16 w17 w18) (M ++ [strsC (isortS due)]) := by
    rw [es_cell, call1 (a := .var 9) (x := .d (gv isT rs)) rfl rfl ed]
    rfl
  have lt : ∀ {j : Nat} {c : Cell}, M[j]? = some c → (M ++ [strsC (isortS due)])[j]? = some c := fun {j c} e => by
    rw [List.getElem?_append_left (List.getElem?_eq_some_iff.mp e).1]
    exact e
  have ea := ev_alike_list (n + 3) (M ++ [strsC (isortS due)]) (.loc M.length) ((isortS due).map D.str) (by
    show ((M ++ [strsC (isortS due)])[M.length]?).map _ = _
    rw [own_get0]
    rfl) (fun x hx => by
    obtain ⟨y, _, e⟩ := List.mem_map.mp hx
    rw [← e]
    rfl) (by rw [List.length_map]; omega)
  have v10 : (den (evF Pr (n + 5)) (.var 10)).v (VL ns w2 (some (.loc k3)) w4 w5 w6 w7 w8 (some (.d (gv isT rs))) (some (.loc k10)) w11 w12 w13 (some (.loc M.length)) w15 w16 w17 w18) (M ++ [strsC (isortS due)]) = .ok (.loc k10) (M ++ [strsC (isortS due)]) := rfl
  have v9 : (den (evF Pr (n + 5)) (.var 9)).v (VL ns w2 (some (.loc k3)) w4 w5 w6 w7 w8 (some (.d (gv isT rs))) (some (.loc k10)) w11 w12 w13 (some (.loc M.length)) w15 w16 w17 w18) (M ++ [strsC (isortS due)]) = .ok (.d (gv isT rs)) (M ++ [strsC (isortS due)]) := rfl
  have v3 : (den (evF Pr (n + 5)) (.var 3)).v (VL ns w2 (some (.loc k3)) w4 w5 w6 w7 w8 (some (.d (gv isT rs))) (some (.loc k10)) w11 w12 w13 (some (.loc M.length)) w15 w16 w17 w18) (M ++ [strsC (isortS due)]) = .ok (.loc k3) (M ++ [strsC (isortS due)]) := rfl
  have f0 : ∀ k, frz (.loc k) = .loc k := fun _ => rfl
  have dd : ders (M ++ [strsC (isortS due)]) [.loc k10] = some [.lst (due.map D.str)] := by
    have d10 : der (M ++ [strsC (isortS due)]) (.loc k10) = some (.lst (due.map D.str)) := by
      show ((M ++ [strsC (isortS due)])[k10]?).map _ = _
      rw [lt h10]
      rfl
    simp only [ders, d10, Option.map_some, Option.bind_some]
  have d3 : der (M ++ [strsC (isortS due)]) (.loc k3) = some (.lst (rs.map rD)) := by
    show ((M ++ [strsC (isortS due)])[k3]?).map _ = _
    rw [lt h3]
    rfl
  have dg : ders (M ++ [strsC (isortS due)]) [.d (gv isT rs)] = some [gv isT rs] := rfl
  have dn : ∀ M x, der M (.new x) = some x := fun _ _ => rfl
  have es : (den (evF Pr (n + 5)) (.bi .sorted (.cons (.var 10) .nil))).v (VL ns w2 (some (.loc k3)) w4 w5 w6 w7 w8 (some (.d (gv isT rs))) (some (.loc k10)) w11 w12 w13 (some (.loc M.length)) w15 w16 w17 w18) (M ++ [strsC (isortS due)]) = .ok (.new (.lst ((isortS due).map D.str))) (M ++ [strsC (isortS due)]) := by
    rw [dv_bi, da_cons, v10]
    simp only [bind_ok', da_nil, f0, dd, Option.bind_some, bi_sorted (show due.length ≤ 60 by omega), lift_some]
  have ca := call2 (C := evF Pr (n + 5)) (f := i__law_alike) (a := .var 14) (vs := VL ns w2 (some (.loc k3)) w4 w5 w6 w7 w8 (some (.d (gv isT rs))) (some (.loc k10)) w11 w12 w13 (some (.loc M.length)) w15 w16 w17 w18) (M := M ++ [strsC (isortS due)]) (x := .loc M.length) rfl es rfl rfl ea
  have s2 : evS ⟨evF Pr (n + 5), Pr.W, Pr.X⟩ s_chk (VL ns w2 (some (.loc k3)) w4 w5 w6 w7 w8 (some (.d (gv isT rs))) (some (.loc k10)) w11 w12 w13 (some (.loc M.length)) w15 w16 w17 w18) (M ++ [strsC (isortS due)]) = .nx (VL ns w2 (some (.loc k3)) w4 w5 w6 w7 w8 (some (.d (gv isT rs))) (some (.loc k10)) w11 w12 w13 (some (.loc M.length)) w15 w16 w17 w18) (M ++ [strsC (isortS due)]) := by
    simp only [s_chk, es_ite, es_skip, dt_or, dt_not, dt_call, ca, bind_ok', der_d, Option.bind_some, truth_bl, lift_some, Bool.not_true, Bool.false_eq_true, if_false, dt_op2, dv_op2, dv_bi, da_cons, da_nil, v9, v3, frz_d, dg, list_gv, dn, d3, ne_rs, thenS_ok]
  have st := app_of (Z := ⟨evF Pr (n + 5), Pr.W, Pr.X⟩) (vs := VL ns w2 (some (.loc k3)) w4 w5 w6 w7 w8 (some (.d (gv isT rs))) (some (.loc k10)) w11 w12 w13 (some (.loc M.length)) w15 w16 w17 w18) (M := M ++ [strsC (isortS due)]) (i := 14) (c := M.length) (x := .k (.str "a")) (y := .d (.str "a")) (d := .str "a") (xs := (isortS due).map D.str) (xs0 := (isortS due).map D.str) rfl own_get0 rfl rfl own_get0 (by rw [List.length_map]; omega)
  rw [own_set0] at st
  exact seq_nx s1 (seq_nx s2 (seq_nx st rfl))
theorem loop_again (n : Nat) (ns : List Int) (rs : List Rwd) (h : goodRs rs) (isT : Bool) (k3 k10 : Nat) (w2 w4 w5 w6 w7 w8 w11 w12 w15 w16 w17 w18 : Option Vl) : ∀ (xs : List D) (M : Mem) (w13 w14 : Option Vl), M[k3]? = some (listC rs) → M[k10]? = some (strsC ((rs.filter (domP rs)).map (·.1))) →
    ∃ (U : Mem) (x13 x14 : Option Vl), forGo (.n 13) [] (evS ⟨evF Pr (n + 5), Pr.W, Pr.X⟩ body_again) xs (VL ns w2 (some (.loc k3)) w4 w5 w6 w7 w8 (some (.d (gv isT rs))) (some (.loc k10)) w11 w12 w13 w14 w15 w16 w17 w18) M = .nx (VL ns w2 (some (.loc k3)) w4 w5 w6 w7 w8 (some (.d (gv isT rs))) (some (.loc k10)) w11 w12 x13 x14 w15 w16 w17 w18) (M ++ U)
  | [], M, w13, w14, _, _ => ⟨[], w13, w14, by
    rw [List.append_nil]
    exact for_end rfl⟩
  | x :: xs, M, w13, w14, h3, h10 => by
    have lt : ∀ {j : Nat} {c e : Cell}, M[j]? = some c → (M ++ [e])[j]? = some c := fun {j c e} q => by
      rw [List.getElem?_append_left (List.getElem?_eq_some_iff.mp q).1]
      exact q
    obtain ⟨U, x13, x14, e⟩ := loop_again n ns rs h isT k3 k10 w2 w4 w5 w6 w7 w8 w11 w12 w15 w16 w17 w18 xs (M ++ [⟨true, .lst ((isortS ((rs.filter (domP rs)).map (·.1))).map D.str ++ [.str "a"])⟩]) (some (.d x)) (some (.loc M.length)) (lt h3) (lt h10)
    rw [List.append_assoc] at e
    exact ⟨_, x13, x14, for_nx (v1 := VL ns w2 (some (.loc k3)) w4 w5 w6 w7 w8 (some (.d (gv isT rs))) (some (.loc k10)) w11 w12 (some (.d x)) w14 w15 w16 w17 w18) rfl rfl (again_step n ns M rs h isT k3 k10 h3 h10 w2 w4 w5 w6 w7 w8 w11 w12 (some (.d x)) w14 w15 w16 w17 w18) e⟩
end Pd
namespace Pd
open PySem PySem.Spec L2
def leftOf (rs : List Rwd) (due : List Str) : List Rwd := rs.filter fun r => !due.any (· == r.1)
def keepL (due : List Str) : D → Bool
  | .tup (.str s :: _) => !due.any (· == s)
  | _ => false
abbrev e_left : E := (.lc [5] (.n 5) (.var 3) (.op2 .nin (.idx (.var 5) (.k (.int 0))) (.var 10)) (.var 5))
theorem left_lc (n : Nat) (M : Mem) (rs : List Rwd) (due : List Str) (k3 k10 : Nat) (h3 : M[k3]? = some (listC rs)) (h10 : M[k10]? = some (strsC due)) (ns : List Int) (w2 w4 w5 w6 w7 w8 w9 w11 w12 w13 w14 w15 w16 w17 w18 : Option Vl) :
    (den (evF Pr n) e_left).v (VL ns w2 (some (.loc k3)) w4 w5 w6 w7 w8 w9 (some (.loc k10)) w11 w12 w13 w14 w15 w16 w17 w18) M = .ok (.new (.lst ((leftOf rs due).map rD))) M := by
  have d10 : der M (.loc k10) = some (.lst (due.map D.str)) := by
    show (M[k10]?).map _ = _
    rw [h10]
    rfl
  have hlc := lc_map (t := .n 5) (g := gdR k3 rs) (c := (den (evF Pr n) (.op2 .nin (.idx (.var 5) (.k (.int 0))) (.var 10))).t) (e := (den (evF Pr n) (.var 5)).v) (vs := VL ns w2 (some (.loc k3)) w4 none w6 w7 w8 w9 (some (.loc k10)) w11 w12 w13 w14 w15 w16 w17 w18) (M := M) id (keepL due) (gd_ok h3) (xs := rs.map rD) (by
    intro x hx
    obtain ⟨r, hm, ex⟩ := mem_rD hx
    subst ex
    refine ⟨VL ns w2 (some (.loc k3)) w4 (some (.d (rD r))) w6 w7 w8 w9 (some (.loc k10)) w11 w12 w13 w14 w15 w16 w17 w18, rfl, ?_, fun _ => ⟨.d (rD r), rfl, rfl⟩⟩
    have v5 : (den (evF Pr n) (.var 5)).v (VL ns w2 (some (.loc k3)) w4 (some (.d (rD r))) w6 w7 w8 w9 (some (.loc k10)) w11 w12 w13 w14 w15 w16 w17 w18) M = .ok (.d (rD r)) M := rfl
    have v10 : (den (evF Pr n) (.var 10)).v (VL ns w2 (some (.loc k3)) w4 (some (.d (rD r))) w6 w7 w8 w9 (some (.loc k10)) w11 w12 w13 w14 w15 w16 w17 w18) M = .ok (.loc k10) M := rfl
    have kk : keepL due (rD r) = !due.any (· == r.1) := rfl
    simp only [dt_op2, dv_op2, dv_idx, dv_k, v5, v10, bind_ok', der_d, d10, Option.bind_some, idx0, lift_some, nin_strs, truth_bl, kk])
  have ef : ∀ rs : List Rwd, ((rs.map rD).filter (keepL due)) = (leftOf rs due).map rD := by
    intro rs
    induction rs with
    | nil => rfl
    | cons r rs ih =>
      have ek : keepL due (rD r) = !due.any (· == r.1) := rfl
      unfold leftOf at ih ⊢
      rw [List.map_cons, List.filter_cons, List.filter_cons, ek, ih]
      cases !due.any (· == r.1) with
      | true => rfl
      | false => rfl
  rw [List.map_id, ef rs] at hlc
  exact lc_of (C := evF Pr n) (own := [5]) (it := .var 3) (c := .op2 .nin (.idx (.var 5) (.k (.int 0))) (.var 10)) (it3 n M rs k3 h3 _ rfl) hlc
def vD (r : Rwd) : D := .tup [.int r.2.1, .int r.2.2]
abbrev e_vals : E := (.lc [5] (.n 5) (.var 3) .nil (.sl (.var 5) (.k (.int 1)) .nil))
def tailD : D → D
  | .tup (_ :: r) => .tup r
  | _ => .non
theorem vals_lc (n : Nat) (M : Mem) (rs : List Rwd) (k3 : Nat) (h3 : M[k3]? = some (listC rs)) (ns : List Int) (w2 w4 w5 w6 w7 w8 w9 w10 w11 w12 w13 w14 w15 w16 w17 w18 : Option Vl) :
    (den (evF Pr n) e_vals).v (VL ns w2 (some (.loc k3)) w4 w5 w6 w7 w8 w9 w10 w11 w12 w13 w14 w15 w16 w17 w18) M = .ok (.new (.lst (rs.map vD))) M := by
  have hlc := lc_map (t := .n 5) (g := gdR k3 rs) (c := fun _ M => .ok true M) (e := (den (evF Pr n) (.sl (.var 5) (.k (.int 1)) .nil)).v) (vs := VL ns w2 (some (.loc k3)) w4 none w6 w7 w8 w9 w10 w11 w12 w13 w14 w15 w16 w17 w18) (M := M) tailD (fun _ => true) (gd_ok h3) (xs := rs.map rD) (by
    intro x hx
    obtain ⟨r, hm, ex⟩ := mem_rD hx
    subst ex
    exact ⟨VL ns w2 (some (.loc k3)) w4 (some (.d (rD r))) w6 w7 w8 w9 w10 w11 w12 w13 w14 w15 w16 w17 w18, rfl, rfl, fun _ => ⟨.d (vD r), rfl, rfl⟩⟩)
  have ef : ((rs.map rD).filter fun _ => true).map tailD = rs.map vD := by
    rw [List.filter_eq_self.mpr fun _ _ => rfl, List.map_map]
    rfl
  rw [ef] at hlc
  exact lc_of (C := evF Pr n) (own := [5]) (it := .var 3) (c := .nil) (it3 n M rs k3 h3 _ rfl) hlc
def many (rs : List Rwd) (y : D) : Nat := (rs.map vD).countP fun x => D.eqv x y
theorem flats_vD : ∀ (k : Nat) (rs : List Rwd), D.flats (k + 1) (rs.map vD) = true
  | _, [] => by simp only [List.map_nil, D.flats]
  | k, r :: rs => by simp only [List.map_cons, D.flats, vD, D.flat, flats_vD k rs, Bool.and_self]
theorem eqv_vD (a b : Rwd) : D.eqv (vD a) (vD b) = (a.2.1 == b.2.1 && (a.2.2 == b.2.2 && true)) := by simp only [vD, D.eqv, D.eqvs]
theorem count_v (rs : List Rwd) (r : Rwd) : bmP .count (.lst (rs.map vD)) [vD r] = some (.d (.int (many rs (vD r) : Nat))) := by
  have f1 : D.flat D.deep (vD r) = true := by simp only [vD, D.deep, D.flat, D.flats, Bool.and_self]
  have f2 : D.flats D.deep (rs.map vD) = true := flats_vD 39 rs
  have e0 : bmP .count (.lst (rs.map vD)) [vD r] = cntP (.lst (rs.map vD)) [vD r] := rfl
  rw [e0]
  simp only [cntP, f1, f2, Bool.and_self, if_true]
  rfl
theorem gt2 (i j : Int) : op2 .gt (.int i) (.int j) = some (.d (.bl (decide (j < i)))) := rfl
abbrev e_dup : E := (.lc [5] (.n 5) (.var 17) (.op2 .gt (.bm .count (.var 17) (.cons (.var 5) .nil)) (.k (.int 1))) (.k (.int 1)))
theorem dup_lc (n : Nat) (M : Mem) (rs : List Rwd) (ns : List Int) (w2 w3 w4 w5 w6 w7 w8 w9 w10 w11 w12 w13 w14 w15 w16 w18 : Option Vl) :
    (den (evF Pr n) e_dup).v (VL ns w2 w3 w4 w5 w6 w7 w8 w9 w10 w11 w12 w13 w14 w15 w16 (some (.d (.lst (rs.map vD)))) w18) M = .ok (.new (.lst (((rs.map vD).filter fun y => decide (1 < (many rs y : Int))).map fun _ => .int 1))) M := by
  have hlc := lc_map (t := .n 5) (g := []) (c := (den (evF Pr n) (.op2 .gt (.bm .count (.var 17) (.cons (.var 5) .nil)) (.k (.int 1)))).t) (e := (den (evF Pr n) (.k (.int 1))).v) (vs := VL ns w2 w3 w4 none w6 w7 w8 w9 w10 w11 w12 w13 w14 w15 w16 (some (.d (.lst (rs.map vD)))) w18) (M := M) (fun _ => D.int 1) (fun y => decide (1 < (many rs y : Int))) rfl (xs := rs.map vD) (by
    intro x hx
    obtain ⟨r, hm, ex⟩ := List.mem_map.mp hx
    subst ex
    refine ⟨VL ns w2 w3 w4 (some (.d (vD r))) w6 w7 w8 w9 w10 w11 w12 w13 w14 w15 w16 (some (.d (.lst (rs.map vD)))) w18, rfl, ?_, fun _ => ⟨.d (.int 1), rfl, rfl⟩⟩
    have v5 : (den (evF Pr n) (.var 5)).v (VL ns w2 w3 w4 (some (.d (vD r))) w6 w7 w8 w9 w10 w11 w12 w13 w14 w15 w16 (some (.d (.lst (rs.map vD)))) w18) M = .ok (.d (vD r)) M := rfl
    have v17 : (den (evF Pr n) (.var 17)).v (VL ns w2 w3 w4 (some (.d (vD r))) w6 w7 w8 w9 w10 w11 w12 w13 w14 w15 w16 (some (.d (.lst (rs.map vD)))) w18) M = .ok (.d (.lst (rs.map vD))) M := rfl
    have bt : ∀ xs, bmTy .count (some (.lst xs)) = true := fun _ => rfl
    have mt : Bm.count.mut = false := rfl
    have d1 : ders M [.d (vD r)] = some [vD r] := rfl
    simp only [dt_op2, dv_op2, dv_bm, da_cons, da_nil, dv_k, v5, v17, bind_ok', der_d, bt, if_true, mt, Bool.false_eq_true, if_false, frz_d, d1, Option.bind_some, count_v, lift_some, gt2, truth_bl])
  exact lc_of (C := evF Pr n) (own := [5]) (it := .var 17) (c := .op2 .gt (.bm .count (.var 17) (.cons (.var 5) .nil)) (.k (.int 1))) (xs := rs.map vD) (g := []) rfl hlc
theorem count_one {f : Rwd → Bool} : ∀ {rs : List Rwd} {s : Rwd}, s ∈ rs → f s = true → 1 ≤ rs.countP f := fun {rs s} h e => List.countP_pos_iff.mpr ⟨s, h, e⟩
theorem count_two {f : Rwd → Bool} : ∀ {rs : List Rwd} {r s : Rwd}, r ∈ rs → s ∈ rs → r ≠ s → f r = true → f s = true → 2 ≤ rs.countP f
  | x :: rs, r, s, hr, hs, hne, fr, fs => by
    rw [List.countP_cons]
    rcases List.mem_cons.mp hr with e | e
    · rcases List.mem_cons.mp hs with e' | e'
      · exact absurd (e.trans e'.symm) hne
      · have := count_one (f := f) e' fs
        rw [← e, fr, if_pos rfl]
        omega
    · rcases List.mem_cons.mp hs with e' | e'
      · have := count_one (f := f) e fr
        rw [← e', fs, if_pos rfl]
        omega
      · have := count_two e e' hne fr fs
        omega
theorem distinct {rs : List Rwd} (h : ((rs.map vD).filter fun y => decide (1 < (many rs y : Int))) = []) : ∀ r ∈ rs, ∀ s ∈ rs, r.2 = s.2 → r = s := fun r hr s hs e => by
  apply Classical.byContradiction
  intro hne
  have c := count_two (f := fun x => D.eqv (vD x) (vD r)) hr hs hne (by simp [eqv_vD]) (by rw [eqv_vD, e]; simp)
  have hm : many rs (vD r) = rs.countP fun x => D.eqv (vD x) (vD r) := by
    unfold many
    rw [List.countP_map]
    rfl
  have hin : vD r ∈ ((rs.map vD).filter fun y => decide (1 < (many rs y : Int))) := List.mem_filter.mpr ⟨List.mem_map.mpr ⟨r, hr, rfl⟩, decide_eq_true (by rw [hm]; omega)⟩
  rw [h] at hin
  cases hin
end Pd
namespace Pd
open PySem PySem.Spec L2
theorem name_inj : ∀ {rs : List Rwd}, (rs.map (·.1)).Nodup → ∀ r ∈ rs, ∀ s ∈ rs, r.1 = s.1 → r = s
  | x :: rs, nd, r, hr, s, hs, e => by
    rw [List.map_cons, List.nodup_cons] at nd
    rcases List.mem_cons.mp hr with a | a
    · rcases List.mem_cons.mp hs with b | b
      · rw [a, b]
      · exact absurd (List.mem_map.mpr ⟨s, b, by rw [← e, a]⟩) nd.1
    · rcases List.mem_cons.mp hs with b | b
      · exact absurd (List.mem_map.mpr ⟨r, a, by rw [e, b]⟩) nd.1
      · exact name_inj nd.2 r a s b e
theorem dom_same {rs : List Rwd} (h : goodRs rs) : domP rs = domL rs := by
  funext r
  unfold domP domL
  rw [← tables (others_price h.2.2.1) r.2.1.toNat]
  rfl
theorem left_same {rs : List Rwd} (h : goodRs rs) (hd : ((rs.map vD).filter fun y => decide (1 < (many rs y : Int))) = []) (p : Nat) : Bv rs p = Lv (leftOf rs ((rs.filter (domL rs)).map (·.1))) p := by
  rw [tables (fun r hr => (good_price (h.2.2.1 r hr)).1) p]
  refine reduced h.2.2.1 (fun r hr => (List.mem_filter.mp hr).1) (fun r hr hn => ?_) (distinct hd) p
  have hin : ((rs.filter (domL rs)).map (·.1)).any (· == r.1) = true := by
    cases e : ((rs.filter (domL rs)).map (·.1)).any (· == r.1) with
    | true => rfl
    | false => exact absurd (List.mem_filter.mpr ⟨hr, by rw [e]; rfl⟩) hn
  obtain ⟨s, hs, es⟩ := List.any_eq_true.mp hin
  obtain ⟨t, ht, et⟩ := List.mem_map.mp hs
  obtain ⟨t1, t2⟩ := List.mem_filter.mp ht
  have es : s = r.1 := by simpa using es
  have tr : t = r := name_inj h.2.2.2 t t1 r hr (by rw [et, es])
  rw [tr] at t2
  exact of_decide_eq_true t2
theorem flat_rs (rs : List Rwd) : D.flat D.deep (.lst (rs.map rD)) = true := flat_lst (flats_rD 38 rs)
theorem ne_nil (rs : List Rwd) : ∃ b, op2 .ne (.lst (rs.map rD)) (.lst []) = some (.d (.bl b)) := by
  refine ⟨!D.eqv (.lst (rs.map rD)) (.lst []), ?_⟩
  have f2 : D.flat D.deep (.lst []) = true := rfl
  show (if (D.flat D.deep (.lst (rs.map rD)) && D.flat D.deep (.lst [])) = true then bool2 (!D.eqv (.lst (rs.map rD)) (.lst [])) else none) = _
  rw [flat_rs, f2]
  rfl
theorem eq2 (i j : Int) : op2 .eq (.int i) (.int j) = some (.d (.bl (i == j))) := rfl
abbrev s_best : S := (.ite (.not (.call i__law_alike (.cons (.call i_best_discount (.cons (.var 9) (.cons (.var 16) .nil))) (.cons (.idx (.call i__law_best (.cons (.var 15) (.cons (.var 16) .nil))) (.var 16)) .nil)))) (.seq (.ret (.k (.bl false))) .skip) .skip)
abbrev s_last : S := (.ite (.and (.op2 .ne (.var 15) (.lst .nil)) (.op2 .eq (.bi .len (.cons e_dup .nil)) (.k (.int 0)))) (.seq s_best .skip) .skip)
theorem last_step (n : Nat) (ns : List Int) (M : Mem) (rs : List Rwd) (h : goodRs rs) (isT : Bool) (p : Nat) (hp : p ≤ 40) (w2 w3 w4 w5 w6 w7 w8 w10 w11 w12 w13 w14 w18 : Option Vl) :
    evS ⟨evF Pr (n + 5), Pr.W, Pr.X⟩ s_last (VL ns w2 w3 w4 w5 w6 w7 w8 (some (.d (gv isT rs))) w10 w11 w12 w13 w14 (some (.d (.lst ((leftOf rs ((rs.filter (domL rs)).map (·.1))).map rD)))) (some (.d (.int p))) (some (.d (.lst (rs.map vD)))) w18) M = .nx (VL ns w2 w3 w4 w5 w6 w7 w8 (some (.d (gv isT rs))) w10 w11 w12 w13 w14 (some (.d (.lst ((leftOf rs ((rs.filter (domL rs)).map (·.1))).map rD)))) (some (.d (.int p))) (some (.d (.lst (rs.map vD)))) w18) M := by
  generalize hL : leftOf rs ((rs.filter (domL rs)).map (·.1)) = left
  have v15 : (den (evF Pr (n + 5)) (.var 15)).v (VL ns w2 w3 w4 w5 w6 w7 w8 (some (.d (gv isT rs))) w10 w11 w12 w13 w14 (some (.d (.lst (left.map rD)))) (some (.d (.int p))) (some (.d (.lst (rs.map vD)))) w18) M = .ok (.d (.lst (left.map rD))) M := rfl
  have v16 : (den (evF Pr (n + 5)) (.var 16)).v (VL ns w2 w3 w4 w5 w6 w7 w8 (some (.d (gv isT rs))) w10 w11 w12 w13 w14 (some (.d (.lst (left.map rD)))) (some (.d (.int p))) (some (.d (.lst (rs.map vD)))) w18) M = .ok (.d (.int p)) M := rfl
  have v9 : (den (evF Pr (n + 5)) (.var 9)).v (VL ns w2 w3 w4 w5 w6 w7 w8 (some (.d (gv isT rs))) w10 w11 w12 w13 w14 (some (.d (.lst (left.map rD)))) (some (.d (.int p))) (some (.d (.lst (rs.map vD)))) w18) M = .ok (.d (gv isT rs)) M := rfl
  have e0 : ∀ vs, (den (evF Pr (n + 5)) (.lst .nil)).v vs M = .ok (.new (.lst [])) M := fun _ => rfl
  have dn : ∀ M x, der M (.new x) = some x := fun _ _ => rfl
  obtain ⟨b, hb⟩ := ne_nil left
  have ed := dup_lc (n + 5) M rs ns w2 w3 w4 w5 w6 w7 w8 (some (.d (gv isT rs))) w10 w11 w12 w13 w14 (some (.d (.lst (left.map rD)))) (some (.d (.int p))) w18
  generalize hdup : ((rs.map vD).filter fun y => decide (1 < (many rs y : Int))) = dup at ed
  have fn : ∀ x, frz (.new x) = .d x := fun _ => rfl
  have d1 : ders M [.d (.lst (dup.map fun _ => D.int 1))] = some [.lst (dup.map fun _ => .int 1)] := rfl
  have c1 : (den (evF Pr (n + 5)) (.op2 .ne (.var 15) (.lst .nil))).t (VL ns w2 w3 w4 w5 w6 w7 w8 (some (.d (gv isT rs))) w10 w11 w12 w13 w14 (some (.d (.lst (left.map rD)))) (some (.d (.int p))) (some (.d (.lst (rs.map vD)))) w18) M = .ok b M := by
    simp only [dt_op2, dv_op2, v15, e0, bind_ok', der_d, dn, Option.bind_some, hb, lift_some, truth_bl]
  have c2 : (den (evF Pr (n + 5)) (.op2 .eq (.bi .len (.cons e_dup .nil)) (.k (.int 0)))).t (VL ns w2 w3 w4 w5 w6 w7 w8 (some (.d (gv isT rs))) w10 w11 w12 w13 w14 (some (.d (.lst (left.map rD)))) (some (.d (.int p))) (some (.d (.lst (rs.map vD)))) w18) M = .ok (((dup.map fun _ => D.int 1).length : Int) == 0) M := by
    simp only [dt_op2, dv_op2, dv_bi, da_cons, da_nil, ed, bind_ok', fn, d1, Option.bind_some, len_lst, lift_some, dv_k, der_d, eq2, truth_bl]
  rw [s_last, es_ite, dt_and, c1, bind_ok']
  cases b with
  | false => rfl
  | true =>
    rw [if_pos rfl, c2, thenS_ok]
    cases hz : ((dup.map fun _ => D.int 1).length : Int) == 0 with
    | false => rfl
    | true =>
      rw [if_pos rfl]
      have hz : dup = [] := by
        have z : ((dup.map fun _ => D.int 1).length : Int) = 0 := by simpa using hz
        rw [List.length_map] at z
        exact List.length_eq_zero_iff.mp (by omega)
      rw [hz] at hdup
      have ls := left_same h hdup p
      rw [hL] at ls
      have gl : ∀ r ∈ left, 1 ≤ r.2.1 := fun r hr => by
        rw [← hL] at hr
        exact (good_price (h.2.2.1 r (List.mem_filter.mp hr).1)).1
      have ll : left.length ≤ 100 := by
        rw [← hL]
        exact Nat.le_trans (List.length_filter_le _ _) (Nat.le_trans h.2.1 (by omega))
      have b1 := ev_best_discount n M rs isT h p (by omega)
      have b2 := ev_lbest (n + 4) M left gl ll p (by omega)
      have k1 := call2 (C := evF Pr (n + 5)) (f := i_best_discount) v9 v16 rfl rfl b1
      have k2 := call2 (C := evF Pr (n + 5)) (f := i__law_best) v15 v16 rfl rfl b2
      have a1 : atI ((ltab left (p + 1)).map D.int) (p : Int) = some (.int (Lv left p)) := by
        have z := at_ints (xs := ltab left (p + 1)) (i := (p : Int)) (by omega) (by rw [ltab_len]; omega)
        simpa [Lv] using z
      have k3 : (den (evF Pr (n + 5)) (.idx (.call i__law_best (.cons (.var 15) (.cons (.var 16) .nil))) (.var 16))).v (VL ns w2 w3 w4 w5 w6 w7 w8 (some (.d (gv isT rs))) w10 w11 w12 w13 w14 (some (.d (.lst (left.map rD)))) (some (.d (.int p))) (some (.d (.lst (rs.map vD)))) w18) M = .ok (.d (.int (Lv left p))) M := by
        simp only [dv_idx, k2, v16, bind_ok', dn, der_d, Option.bind_some, idx_lst, a1, Option.map_some, lift_some]
      rw [← ls] at k3
      have k4 := call2 (C := evF Pr (n + 5)) (f := i__law_alike) k1 k3 rfl rfl (ev_alike_int (n + 4) M (Bv rs p))
      refine seq_nx (v1 := VL ns w2 w3 w4 w5 w6 w7 w8 (some (.d (gv isT rs))) w10 w11 w12 w13 w14 (some (.d (.lst (left.map rD)))) (some (.d (.int p))) (some (.d (.lst (rs.map vD)))) w18) (M1 := M) ?_ rfl
      simp only [s_best, es_ite, es_skip, dt_not, dt_call, k4, bind_ok', der_d, Option.bind_some, truth_bl, lift_some, Bool.not_true, Bool.false_eq_true, if_false, thenS_ok]
end Pd
namespace Pd
open PySem PySem.Spec L2
abbrev e_sl : E := (.sl (.call i__law_names (.cons (.var 1) (.cons (.k (.int 12)) .nil))) .nil (.call i__law_taken (.cons (.var 1) (.cons (.k (.int 4)) .nil))))
abbrev body_turn : S := (.seq (.cell 3 (.call i__law_list (.cons (.var 1) .nil))) (.seq (.for (.n 4) e_sl body_ins) (.seq (.par [9, 10] [false, true] (.cons (.call i__law_given (.cons (.var 1) (.cons (.var 3) .nil))) (.cons (.lst .nil) .nil))) (.seq (.for (.t (.tc (.n 4) (.tc (.n 7) (.tc (.n 11) .t0)))) (.var 3) body_due) (.seq (.for (.n 13) (.rng (.k (.int 0)) (.k (.int 2))) body_again) (.seq (.par [15, 16] [false, false] (.cons e_left (.cons (.call i__law_taken (.cons (.var 1) (.cons (.k (.int 41)) .nil))) .nil))) (.seq (.set (.n 17) e_vals) (.seq s_last .skip))))))))
theorem turn (n : Nat) (ns : List Int) (r : RowS) (T : Mem) (w2 w3 w4 w5 w6 w7 w8 w9 w10 w11 w12 w13 w14 w15 w16 w17 w18 : Option Vl) :
    ∃ (r' : RowS) (T' : Mem) (x2 x3 x4 x5 x6 x7 x8 x9 x10 x11 x12 x13 x14 x15 x16 x17 x18 : Option Vl), evS ⟨evF Pr (n + 5), Pr.W, Pr.X⟩ body_turn (VL ns w2 w3 w4 w5 w6 w7 w8 w9 w10 w11 w12 w13 w14 w15 w16 w17 w18) (r.c ns :: T) = .nx (VL ns x2 x3 x4 x5 x6 x7 x8 x9 x10 x11 x12 x13 x14 x15 x16 x17 x18) (RowS.c ns r' :: T') := by
  obtain ⟨rs0, r1, e1, g0⟩ := ev_list (n + 1) ns r T
  have s1 : evS ⟨evF Pr (n + 5), Pr.W, Pr.X⟩ (.cell 3 (.call i__law_list (.cons (.var 1) .nil))) (VL ns w2 w3 w4 w5 w6 w7 w8 w9 w10 w11 w12 w13 w14 w15 w16 w17 w18) (r.c ns :: T) = .nx (VL ns w2 (some (.loc (T.length + 1))) w4 w5 w6 w7 w8 w9 w10 w11 w12 w13 w14 w15 w16 w17 w18) (RowS.c ns r1 :: (T ++ [listC rs0])) := by
    rw [es_cell, call1 (a := .var 1) (x := .loc 0) rfl rfl e1]
    rfl
  obtain ⟨names, r2, e2, ln, nd, gn⟩ := ev_names (n + 2) ns r1 (T ++ [listC rs0]) 12 (by omega)
  obtain ⟨v, r3, e3, v1, v2⟩ := take_v (n + 4) ns r2 (T ++ [listC rs0]) 4 (by omega) (by omega) (VL ns w2 (some (.loc (T.length + 1))) w4 w5 w6 w7 w8 w9 w10 w11 w12 w13 w14 w15 w16 w17 w18) rfl
  have ei : (den (evF Pr (n + 5)) e_sl).i (VL ns w2 (some (.loc (T.length + 1))) w4 w5 w6 w7 w8 w9 w10 w11 w12 w13 w14 w15 w16 w17 w18) (RowS.c ns r1 :: (T ++ [listC rs0])) = .ok (cutD (names.map D.str) none (some v), []) (RowS.c ns r3 :: (T ++ [listC rs0])) := by
    have c := call2 (C := evF Pr (n + 5)) (f := i__law_names) (a := .var 1) (b := .k (.int 12)) (vs := VL ns w2 (some (.loc (T.length + 1))) w4 w5 w6 w7 w8 w9 w10 w11 w12 w13 w14 w15 w16 w17 w18) (M := RowS.c ns r1 :: (T ++ [listC rs0])) (x := .loc 0) (y := .d (.int 12)) rfl rfl rfl rfl e2
    have z1 : isTrueE .nil = true := rfl
    have z2 : isTrueE (.call i__law_taken (.cons (.var 1) (.cons (.k (.int 4)) .nil))) = false := rfl
    have o1 : ∀ (r : R Vl) (M : Mem), optI r true M = .ok none M := fun _ _ => rfl
    have o2 : ∀ (M M' : Mem) (i : Int), optI (.ok (.d (.int i)) M) false M' = .ok (some i) M := fun _ _ _ => rfl
    have dn : ∀ M x, der M (.new x) = some x := fun _ _ => rfl
    have sl : slice (.lst (names.map D.str)) none (some v) = some (.new (.lst (cutD (names.map D.str) none (some v)))) := rfl
    rw [e_sl, di_sl, dv_sl, c, bind_ok', z1, o1, bind_ok', z2, e3, o2, bind_ok', dn]
    simp only [Option.bind_some, sl, lift_some, bind_ok']
    rfl
  obtain ⟨rs, r4, y4, y5, y6, y7, y8, e4, g⟩ := loop_ins (n + 3) ns T w2 w9 w10 w11 w12 w13 w14 w15 w16 w17 w18 (cutD (names.map D.str) none (some v)) rs0 r3 w4 w5 w6 w7 w8 (fun x hx => by
    obtain ⟨s, hs, es⟩ := List.mem_map.mp (cut_mem hx)
    exact ⟨s, es.symm, gn s hs⟩) g0
  have s2 := for_of (Z := ⟨evF Pr (n + 5), Pr.W, Pr.X⟩) ei e4
  obtain ⟨isT, z, r5, e5, fz, zz⟩ := ev_given (n + 3) ns r4 (T ++ [listC rs]) (.loc (T.length + 1)) (rs.map rD) stay0
  have s3 : evS ⟨evF Pr (n + 5), Pr.W, Pr.X⟩ (.par [9, 10] [false, true] (.cons (.call i__law_given (.cons (.var 1) (.cons (.var 3) .nil))) (.cons (.lst .nil) .nil))) (VL ns w2 (some (.loc (T.length + 1))) y4 y5 y6 y7 y8 w9 w10 w11 w12 w13 w14 w15 w16 w17 w18) (RowS.c ns r4 :: (T ++ [listC rs])) = .nx (VL ns w2 (some (.loc (T.length + 1))) y4 y5 y6 y7 y8 (some (.d (gv isT rs))) (some (.loc (T.length + 2))) w11 w12 w13 w14 w15 w16 w17 w18) (RowS.c ns r5 :: (T ++ [listC rs, strsC []])) := by
    have c := call2 (C := evF Pr (n + 5)) (f := i__law_given) (a := .var 1) (b := .var 3) (vs := VL ns w2 (some (.loc (T.length + 1))) y4 y5 y6 y7 y8 w9 w10 w11 w12 w13 w14 w15 w16 w17 w18) (M := RowS.c ns r4 :: (T ++ [listC rs])) (x := .loc 0) (y := .loc (T.length + 1)) rfl rfl rfl rfl e5
    have l0 : (den (evF Pr (n + 5)) (.lst .nil)).v (VL ns w2 (some (.loc (T.length + 1))) y4 y5 y6 y7 y8 w9 w10 w11 w12 w13 w14 w15 w16 w17 w18) (RowS.c ns r5 :: (T ++ [listC rs])) = .ok (.new (.lst [])) (RowS.c ns r5 :: (T ++ [listC rs])) := rfl
    have ac : asCell (RowS.c ns r5 :: (T ++ [listC rs])) (.new (.lst [])) = .ok (.loc (T.length + 2)) (RowS.c ns r5 :: (T ++ [listC rs, strsC []])) := by
      simp only [asCell, List.length_cons, List.length_append, List.length_nil, List.cons_append, List.append_assoc, List.singleton_append]
      rfl
    simp only [es_par, dp_cons, dp_nil, c, bind_ok', Bool.false_eq_true, if_false, if_true, fz, l0, ac, thenS_ok]
    rfl
  obtain ⟨z4, z5, z7, z11, z12, e6⟩ := loop_due (n + 4) ns r5 T rs g w2 y6 y8 (some (.d (gv isT rs))) w13 w14 w15 w16 w17 w18 rs [] y4 y5 y7 w11 w12 g.2.2.1 (by simp; exact g.2.1)
  rw [List.nil_append] at e6
  have hk : (RowS.c ns r5 :: (T ++ [listC rs, strsC []]))[T.length + 1]? = some (listC rs) := by rw [List.getElem?_cons_succ, own_get0]
  have s4 := for_of (Z := ⟨evF Pr (n + 5), Pr.W, Pr.X⟩) (it3 (n + 5) (RowS.c ns r5 :: (T ++ [listC rs, strsC []])) rs (T.length + 1) hk (VL ns w2 (some (.loc (T.length + 1))) y4 y5 y6 y7 y8 (some (.d (gv isT rs))) (some (.loc (T.length + 2))) w11 w12 w13 w14 w15 w16 w17 w18) rfl) e6
  have hk2 : (RowS.c ns r5 :: (T ++ [listC rs, strsC ((rs.filter (domL rs)).map (·.1))]))[T.length + 1]? = some (listC rs) := by rw [List.getElem?_cons_succ, own_get0]
  have hk3 : (RowS.c ns r5 :: (T ++ [listC rs, strsC ((rs.filter (domL rs)).map (·.1))]))[T.length + 2]? = some (strsC ((rs.filter (domL rs)).map (·.1))) := by rw [List.getElem?_cons_succ, own_get1]
  have hk3' : (RowS.c ns r5 :: (T ++ [listC rs, strsC ((rs.filter (domL rs)).map (·.1))]))[T.length + 2]? = some (strsC ((rs.filter (domP rs)).map (·.1))) := by rw [dom_same g]; exact hk3
  obtain ⟨U, x13, x14, e7⟩ := loop_again n ns rs g isT (T.length + 1) (T.length + 2) w2 z4 z5 y6 z7 y8 z11 z12 w15 w16 w17 w18 (rangeD 0 2) (RowS.c ns r5 :: (T ++ [listC rs, strsC ((rs.filter (domL rs)).map (·.1))])) w13 w14 hk2 hk3'
  have er : rngOk 0 2 = true := rng_small (by omega) (by omega) (by omega) (by omega) (by omega)
  have s5 := for_of (Z := ⟨evF Pr (n + 5), Pr.W, Pr.X⟩) (it := .rng (.k (.int 0)) (.k (.int 2))) (rng_of (l := 0) (h := 2) rfl rfl er) e7
  rw [List.cons_append] at s5
  generalize hT5 : T ++ [listC rs, strsC ((rs.filter (domL rs)).map (·.1))] ++ U = T5 at s5
  have q3 : T5[T.length]? = some (listC rs) := by
    rw [← hT5, List.append_assoc]
    exact own_get0
  have q10 : T5[T.length + 1]? = some (strsC ((rs.filter (domL rs)).map (·.1))) := by
    rw [← hT5, List.append_assoc]
    exact own_get1
  obtain ⟨p, r6, e8, p1, p2⟩ := take_v (n + 4) ns r5 T5 41 (by omega) (by omega) (VL ns w2 (some (.loc (T.length + 1))) z4 z5 y6 z7 y8 (some (.d (gv isT rs))) (some (.loc (T.length + 2))) z11 z12 x13 x14 w15 w16 w17 w18) rfl
  have el := left_lc (n + 5) (RowS.c ns r5 :: T5) rs ((rs.filter (domL rs)).map (·.1)) (T.length + 1) (T.length + 2) (by rw [List.getElem?_cons_succ]; exact q3) (by rw [List.getElem?_cons_succ]; exact q10) ns w2 z4 z5 y6 z7 y8 (some (.d (gv isT rs))) z11 z12 x13 x14 w15 w16 w17 w18
  have s6 : evS ⟨evF Pr (n + 5), Pr.W, Pr.X⟩ (.par [15, 16] [false, false] (.cons e_left (.cons (.call i__law_taken (.cons (.var 1) (.cons (.k (.int 41)) .nil))) .nil))) (VL ns w2 (some (.loc (T.length + 1))) z4 z5 y6 z7 y8 (some (.d (gv isT rs))) (some (.loc (T.length + 2))) z11 z12 x13 x14 w15 w16 w17 w18) (RowS.c ns r5 :: T5) = .nx (VL ns w2 (some (.loc (T.length + 1))) z4 z5 y6 z7 y8 (some (.d (gv isT rs))) (some (.loc (T.length + 2))) z11 z12 x13 x14 (some (.d (.lst ((leftOf rs ((rs.filter (domL rs)).map (·.1))).map rD)))) (some (.d (.int p))) w17 w18) (RowS.c ns r6 :: T5) := by
    simp only [es_par, dp_cons, dp_nil, el, bind_ok', Bool.false_eq_true, if_false, e8, thenS_ok]
    rfl
  have ev := vals_lc (n + 5) (RowS.c ns r6 :: T5) rs (T.length + 1) (by rw [List.getElem?_cons_succ]; exact q3) ns w2 z4 z5 y6 z7 y8 (some (.d (gv isT rs))) (some (.loc (T.length + 2))) z11 z12 x13 x14 (some (.d (.lst ((leftOf rs ((rs.filter (domL rs)).map (·.1))).map rD)))) (some (.d (.int p))) w17 w18
  have s7 : evS ⟨evF Pr (n + 5), Pr.W, Pr.X⟩ (.set (.n 17) e_vals) (VL ns w2 (some (.loc (T.length + 1))) z4 z5 y6 z7 y8 (some (.d (gv isT rs))) (some (.loc (T.length + 2))) z11 z12 x13 x14 (some (.d (.lst ((leftOf rs ((rs.filter (domL rs)).map (·.1))).map rD)))) (some (.d (.int p))) w17 w18) (RowS.c ns r6 :: T5) = .nx (VL ns w2 (some (.loc (T.length + 1))) z4 z5 y6 z7 y8 (some (.d (gv isT rs))) (some (.loc (T.length + 2))) z11 z12 x13 x14 (some (.d (.lst ((leftOf rs ((rs.filter (domL rs)).map (·.1))).map rD)))) (some (.d (.int p))) (some (.d (.lst (rs.map vD)))) w18) (RowS.c ns r6 :: T5) := by
    rw [es_setN, ev]
    rfl
  have pn : ((p.toNat : Nat) : Int) = p := by omega
  have s8 := last_step n ns (RowS.c ns r6 :: T5) rs g isT p.toNat (by omega) w2 (some (.loc (T.length + 1))) z4 z5 y6 z7 y8 (some (.loc (T.length + 2))) z11 z12 x13 x14 w18
  rw [pn] at s8
  exact ⟨r6, T5, w2, some (.loc (T.length + 1)), z4, z5, y6, z7, y8, some (.d (gv isT rs)), some (.loc (T.length + 2)), z11, z12, x13, x14, some (.d (.lst ((leftOf rs ((rs.filter (domL rs)).map (·.1))).map rD))), some (.d (.int p)), some (.d (.lst (rs.map vD))), w18,
    seq_nx s1 (seq_nx s2 (seq_nx s3 (seq_nx s4 (seq_nx s5 (seq_nx s6 (seq_nx s7 (seq_nx s8 rfl)))))))⟩
theorem turns (n : Nat) (ns : List Int) : ∀ (xs : List D) (r : RowS) (T : Mem) (w2 w3 w4 w5 w6 w7 w8 w9 w10 w11 w12 w13 w14 w15 w16 w17 w18 : Option Vl),
    ∃ (v : Vars) (M : Mem), forGo (.n 2) [] (evS ⟨evF Pr (n + 5), Pr.W, Pr.X⟩ body_turn) xs (VL ns w2 w3 w4 w5 w6 w7 w8 w9 w10 w11 w12 w13 w14 w15 w16 w17 w18) (r.c ns :: T) = .nx v M
  | [], r, T, w2, w3, w4, w5, w6, w7, w8, w9, w10, w11, w12, w13, w14, w15, w16, w17, w18 => ⟨_, _, for_end rfl⟩
  | x :: xs, r, T, w2, w3, w4, w5, w6, w7, w8, w9, w10, w11, w12, w13, w14, w15, w16, w17, w18 => by
    obtain ⟨r', T', x2, x3, x4, x5, x6, x7, x8, x9, x10, x11, x12, x13, x14, x15, x16, x17, x18, e⟩ := turn n ns r T (some (.d x)) w3 w4 w5 w6 w7 w8 w9 w10 w11 w12 w13 w14 w15 w16 w17 w18
    obtain ⟨v, M, e2⟩ := turns n ns xs r' T' x2 x3 x4 x5 x6 x7 x8 x9 x10 x11 x12 x13 x14 x15 x16 x17 x18
    exact ⟨v, M, for_nx (v1 := VL ns (some (.d x)) w3 w4 w5 w6 w7 w8 w9 w10 w11 w12 w13 w14 w15 w16 w17 w18) rfl rfl e e2⟩
abbrev level : Nat := 20
theorem law_true (ns : List Int) (h : ns.length ≤ 63) : evF Pr (level + 1) i_law [.d (.scr ns)] [] = .ok (.d (.bl true)) [] := by
  obtain ⟨v, M, e⟩ := turns 15 ns (rangeD 0 3) ⟨0, 5903, 0, by omega, by omega, by omega⟩ [] none none none none none none none none none none none none none none none none none
  refine (evF_of (P := Pr) (n := 20) (fn := f_law) (vs := [some (.d (.scr ns)), none, none, none, none, none, none, none, none, none, none, none, none, none, none, none, none, none, none]) (r := .ret (.d (.bl true)) M) rfl rfl rfl ?_).trans (by simp [finish])
  refine seq_nx (v1 := VL ns none none none none none none none none none none none none none none none none none) (M1 := [rowC ns 0 5903 0]) ?_ ?_
  · simp only [dv_var, dt_var, di_var, dv_k, dt_k, di_k, dv_g, dt_g, di_g, dv_op1, dt_op1, di_op1, dv_op2, dt_op2, di_op2, dv_chain, dt_chain, di_chain, dv_ife, dt_ife, di_ife, dv_tup, dt_tup, di_tup, dv_lst, dt_lst, di_lst, dv_idx, dt_idx, di_idx, dv_sl, dt_sl, di_sl, dv_bi, dt_bi, di_bi, dv_bm, dt_bm, di_bm, dv_call, dt_call, di_call, dv_isi, dt_isi, di_isi, dv_and, dv_or, dv_not, dt_and, dt_or, dt_not, da_nil, da_cons, dp_nil, dp_cons, di_rng, di_enum, di_lc, dt_lc, es_skip, es_seq, es_cell, es_par, es_setix, es_ex, es_ret, es_retn, es_ite, es_brk, es_cnt, es_setN, es_setT, bind_ok', thenS_ok, then_nx, then_ret, then_brk, then_cnt, lift_some, R.lift, der, op1, op2, opII, bool2, cmpI, asB, frz, D.truth, isTrueE, optI, Option.bind, Option.map, List.getElem?_cons_zero, List.getElem?_cons_succ, if_true, ite_true, ite_false, Bool.false_eq_true, toD, toDs, ders, decide_true, decide_false, beq_self_eq_true, isi, D.plainTy, Ty.has, List.any_cons, List.any_nil, Bool.or_false, Bool.false_or, Bool.true_or, Bool.or_true, Bool.not_true, Bool.not_false, List.length_cons, List.length_nil, bi, idx, ixD, List.set_cons_zero, List.set_cons_succ, bindT, bindTs, setAll, asCell, iterOf, Nat.reduceLT, Nat.reduceLeDiff, Nat.reduceAdd, Nat.zero_add, Bool.and_self, Bool.and_true, Bool.true_and, Bool.and_false, Bool.false_and]
    rfl
  have er : rngOk 0 3 = true := rng_small (by omega) (by omega) (by omega) (by omega) (by omega)
  refine seq_nx (for_of (rng_of (l := 0) (h := 3) rfl rfl er) e) ?_
  rfl
end Pd
namespace Pd
open PySem PySem.Spec L2
/-! the head -/
def d_is_integer : He.DefD := ⟨("is_integer", none), "is_integer", "is_integer", defArgs s_is_integer, defBody s_is_integer, defScope s_is_integer, [], []⟩
def d_is_within : He.DefD := ⟨("is_within", none), "is_within", "is_within", defArgs s_is_within, defBody s_is_within, defScope s_is_within, [], []⟩
def d_is_row : He.DefD := ⟨("is_row", none), "is_row", "is_row", defArgs s_is_row, defBody s_is_row, defScope s_is_row, [], []⟩
def d_is_tuple_of : He.DefD := ⟨("is_tuple_of", none), "is_tuple_of", "is_tuple_of", defArgs s_is_tuple_of, defBody s_is_tuple_of, defScope s_is_tuple_of, [], []⟩
def d_is_name : He.DefD := ⟨("is_name", none), "is_name", "is_name", defArgs s_is_name, defBody s_is_name, defScope s_is_name, [], []⟩
def d_is_reward : He.DefD := ⟨("is_reward", none), "is_reward", "is_reward", defArgs s_is_reward, defBody s_is_reward, defScope s_is_reward, [], []⟩
def d_checked_list : He.DefD := ⟨("checked_list", none), "checked_list", "checked_list", defArgs s_checked_list, defBody s_checked_list, defScope s_checked_list, [], []⟩
def d_check_points : He.DefD := ⟨("check_points", none), "check_points", "check_points", defArgs s_check_points, defBody s_check_points, defScope s_check_points, [], []⟩
def d_best_rows : He.DefD := ⟨("best_rows", none), "best_rows", "best_rows", defArgs s_best_rows, defBody s_best_rows, defScope s_best_rows, [], []⟩
def d_best_discount : He.DefD := ⟨("best_discount", none), "best_discount", "best_discount", defArgs s_best_discount, defBody s_best_discount, defScope s_best_discount, [], []⟩
def d_dominated : He.DefD := ⟨("dominated", none), "dominated", "dominated", defArgs s_dominated, defBody s_dominated, defScope s_dominated, [], []⟩
def d__law_taken : He.DefD := ⟨("_law_taken", none), "_law_taken", "_law_taken", defArgs s__law_taken, defBody s__law_taken, defScope s__law_taken, [], []⟩
def d__law_pick : He.DefD := ⟨("_law_pick", none), "_law_pick", "_law_pick", defArgs s__law_pick, defBody s__law_pick, defScope s__law_pick, [], []⟩
def d__law_alike : He.DefD := ⟨("_law_alike", none), "_law_alike", "_law_alike", defArgs s__law_alike, defBody s__law_alike, defScope s__law_alike, [], []⟩
def d__law_name : He.DefD := ⟨("_law_name", none), "_law_name", "_law_name", defArgs s__law_name, defBody s__law_name, defScope s__law_name, [], []⟩
def d__law_names : He.DefD := ⟨("_law_names", none), "_law_names", "_law_names", defArgs s__law_names, defBody s__law_names, defScope s__law_names, [], []⟩
def d__law_list : He.DefD := ⟨("_law_list", none), "_law_list", "_law_list", defArgs s__law_list, defBody s__law_list, defScope s__law_list, [], []⟩
def d__law_given : He.DefD := ⟨("_law_given", none), "_law_given", "_law_given", defArgs s__law_given, defBody s__law_given, defScope s__law_given, [], []⟩
def d__law_best : He.DefD := ⟨("_law_best", none), "_law_best", "_law_best", defArgs s__law_best, defBody s__law_best, defScope s__law_best, [], []⟩
def d_law : He.DefD := ⟨("law", none), "law", "law", defArgs s_law, defBody s_law, defScope s_law, [], []⟩
def hfn : List He.DefD := [d_is_integer, d_is_within, d_is_row, d_is_tuple_of, d_is_name, d_is_reward, d_checked_list, d_check_points, d_best_rows, d_best_discount, d_dominated, d__law_taken, d__law_pick, d__law_alike, d__law_name, d__law_names, d__law_list, d__law_given, d__law_best, d_law]
def hfa : List He.Fa := [.glo "is_integer", .glo "is_within", .glo "is_row", .glo "is_tuple_of", .glo "is_name", .glo "is_reward", .glo "checked_list", .glo "check_points", .glo "best_rows", .glo "best_discount", .glo "dominated", .glo "_law_taken", .glo "_law_pick", .glo "_law_alike", .glo "_law_name", .glo "_law_names", .glo "_law_list", .glo "_law_given", .glo "_law_best", .glo "law", .str "LETTERS" "abcdefghijklmnopqrstuvwxyz", .int "MOST_DISCOUNT" 10000, .int "MOST_NAME" 8, .int "MOST_POINTS" 500, .int "MOST_PRICE" 200, .int "MOST_REWARDS" 12, .free "all", .free "bool", .free "dict", .free "enumerate", .free "int", .free "isinstance", .free "len", .free "list", .free "max", .free "min", .free "range", .free "sorted", .free "str", .free "tuple"]
abbrev Rr : PySem.W.OpenRow := PySem.W.OpenLaw.row PySem.Challenge.rw_noidlegain_k59_dominated_rewards
abbrev hk : PySem.W.Hook := He.hookD 4 hfa hfn
def ob (s : PySem.W.SharedT) : He.AlD := He.obsDG 4 hfa hfn (HandSHeadRun.getT s)
theorem ob_eq (s : PySem.W.SharedT) : ob s = hk.obs s.abs := He.obsDG_eq (HandSHeadRun.getT_eq s)
def lo0 : List Str := ["LETTERS", "MOST_NAME", "is_integer", "is_within", "is_row", "is_tuple_of", "is_name", "GainError", "BadList", "BadPoints", "MOST_REWARDS", "MOST_PRICE", "MOST_DISCOUNT", "is_reward", "checked_list", "MOST_POINTS", "check_points", "best_rows", "best_discount", "dominated", "_law_taken", "_law_pick", "_law_alike", "_law_name", "_law_names", "_law_list", "_law_given", "_law_best"]
def loose : List Str := lo0
theorem run (wd : World) : HandSHeadRun.RunEq Rr (PySem.W.view Rr.prog [34]) hk ob 20000 loose wd := by
  intro os
  kernel_rfl
def wr (K : PySem.W.Frag) : Wr := ⟨K, fun _ => 0⟩
theorem sc_is_integer : FnScope N_is_integer ["thing"] (defScope s_is_integer) := ⟨rfl, rfl, rfl, by decide +kernel, rfl, by decide +kernel, by decide +kernel⟩
theorem sc_is_within : FnScope N_is_within ["thing", "least", "most"] (defScope s_is_within) := ⟨rfl, rfl, rfl, by decide +kernel, rfl, by decide +kernel, by decide +kernel⟩
theorem sc_is_row : FnScope N_is_row ["thing"] (defScope s_is_row) := ⟨rfl, rfl, rfl, by decide +kernel, rfl, by decide +kernel, by decide +kernel⟩
theorem sc_is_tuple_of : FnScope N_is_tuple_of ["thing", "many"] (defScope s_is_tuple_of) := ⟨rfl, rfl, rfl, by decide +kernel, rfl, by decide +kernel, by decide +kernel⟩
theorem sc_is_name : FnScope N_is_name ["thing"] (defScope s_is_name) := ⟨rfl, rfl, rfl, by decide +kernel, rfl, by decide +kernel, by decide +kernel⟩
theorem sc_is_reward : FnScope N_is_reward ["thing"] (defScope s_is_reward) := ⟨rfl, rfl, rfl, by decide +kernel, rfl, by decide +kernel, by decide +kernel⟩
theorem sc_checked_list : FnScope N_checked_list ["rewards"] (defScope s_checked_list) := ⟨rfl, rfl, rfl, by decide +kernel, rfl, by decide +kernel, by decide +kernel⟩
theorem sc_check_points : FnScope N_check_points ["points"] (defScope s_check_points) := ⟨rfl, rfl, rfl, by decide +kernel, rfl, by decide +kernel, by decide +kernel⟩
theorem sc_best_rows : FnScope N_best_rows ["rewards", "most"] (defScope s_best_rows) := ⟨rfl, rfl, rfl, by decide +kernel, rfl, by decide +kernel, by decide +kernel⟩
theorem sc_best_discount : FnScope N_best_discount ["rewards", "points"] (defScope s_best_discount) := ⟨rfl, rfl, rfl, by decide +kernel, rfl, by decide +kernel, by decide +kernel⟩
theorem sc_dominated : FnScope N_dominated ["rewards"] (defScope s_dominated) := ⟨rfl, rfl, rfl, by decide +kernel, rfl, by decide +kernel, by decide +kernel⟩
theorem sc__law_taken : FnScope N__law_taken ["row", "many"] (defScope s__law_taken) := ⟨rfl, rfl, rfl, by decide +kernel, rfl, by decide +kernel, by decide +kernel⟩
theorem sc__law_pick : FnScope N__law_pick ["row", "some"] (defScope s__law_pick) := ⟨rfl, rfl, rfl, by decide +kernel, rfl, by decide +kernel, by decide +kernel⟩
theorem sc__law_alike : FnScope N__law_alike ["found", "due"] (defScope s__law_alike) := ⟨rfl, rfl, rfl, by decide +kernel, rfl, by decide +kernel, by decide +kernel⟩
theorem sc__law_name : FnScope N__law_name ["row"] (defScope s__law_name) := ⟨rfl, rfl, rfl, by decide +kernel, rfl, by decide +kernel, by decide +kernel⟩
theorem sc__law_names : FnScope N__law_names ["row", "many"] (defScope s__law_names) := ⟨rfl, rfl, rfl, by decide +kernel, rfl, by decide +kernel, by decide +kernel⟩
theorem sc__law_list : FnScope N__law_list ["row"] (defScope s__law_list) := ⟨rfl, rfl, rfl, by decide +kernel, rfl, by decide +kernel, by decide +kernel⟩
theorem sc__law_given : FnScope N__law_given ["row", "things"] (defScope s__law_given) := ⟨rfl, rfl, rfl, by decide +kernel, rfl, by decide +kernel, by decide +kernel⟩
theorem sc__law_best : FnScope N__law_best ["rewards", "most"] (defScope s__law_best) := ⟨rfl, rfl, rfl, by decide +kernel, rfl, by decide +kernel, by decide +kernel⟩
theorem sc_law : FnScope N_law ["script"] (defScope s_law) := ⟨rfl, rfl, rfl, by decide +kernel, rfl, by decide +kernel, by decide +kernel⟩
theorem k_is_integer {K : PySem.W.Frag} {mg : Str → Option Value} {fd : FuncData} (hm : mg "is_integer" = some (.ref (He.ga K "is_integer"))) (F : FunD K "is_integer" "is_integer" (defArgs s_is_integer) (defBody s_is_integer) (defScope s_is_integer) [] [] (He.ga K "is_integer") fd) : DefOk (wr K) Pr mg fes glo free i_is_integer ⟨"is_integer", 1, f_is_integer.dfl⟩ :=
  DefOk.of0 (w := wr K) (fn := f_is_integer) rfl rfl rfl rfl hm F sc_is_integer rfl rfl c_is_integer fun _ _ _ _ _ _ us hl => match us, hl with | [_], _ => rfl
theorem k_is_within {K : PySem.W.Frag} {mg : Str → Option Value} {fd : FuncData} (hm : mg "is_within" = some (.ref (He.ga K "is_within"))) (F : FunD K "is_within" "is_within" (defArgs s_is_within) (defBody s_is_within) (defScope s_is_within) [] [] (He.ga K "is_within") fd) : DefOk (wr K) Pr mg fes glo free i_is_within ⟨"is_within", 3, f_is_within.dfl⟩ :=
  DefOk.of0 (w := wr K) (fn := f_is_within) rfl rfl rfl rfl hm F sc_is_within rfl rfl c_is_within fun _ _ _ _ _ _ us hl => match us, hl with | [_, _, _], _ => rfl
theorem k_is_row {K : PySem.W.Frag} {mg : Str → Option Value} {fd : FuncData} (hm : mg "is_row" = some (.ref (He.ga K "is_row"))) (F : FunD K "is_row" "is_row" (defArgs s_is_row) (defBody s_is_row) (defScope s_is_row) [] [] (He.ga K "is_row") fd) : DefOk (wr K) Pr mg fes glo free i_is_row ⟨"is_row", 1, f_is_row.dfl⟩ :=
  DefOk.of0 (w := wr K) (fn := f_is_row) rfl rfl rfl rfl hm F sc_is_row rfl rfl c_is_row fun _ _ _ _ _ _ us hl => match us, hl with | [_], _ => rfl
theorem k_is_tuple_of {K : PySem.W.Frag} {mg : Str → Option Value} {fd : FuncData} (hm : mg "is_tuple_of" = some (.ref (He.ga K "is_tuple_of"))) (F : FunD K "is_tuple_of" "is_tuple_of" (defArgs s_is_tuple_of) (defBody s_is_tuple_of) (defScope s_is_tuple_of) [] [] (He.ga K "is_tuple_of") fd) : DefOk (wr K) Pr mg fes glo free i_is_tuple_of ⟨"is_tuple_of", 2, f_is_tuple_of.dfl⟩ :=
  DefOk.of0 (w := wr K) (fn := f_is_tuple_of) rfl rfl rfl rfl hm F sc_is_tuple_of rfl rfl c_is_tuple_of fun _ _ _ _ _ _ us hl => match us, hl with | [_, _], _ => rfl
theorem k_is_name {K : PySem.W.Frag} {mg : Str → Option Value} {fd : FuncData} (hm : mg "is_name" = some (.ref (He.ga K "is_name"))) (F : FunD K "is_name" "is_name" (defArgs s_is_name) (defBody s_is_name) (defScope s_is_name) [] [] (He.ga K "is_name") fd) : DefOk (wr K) Pr mg fes glo free i_is_name ⟨"is_name", 1, f_is_name.dfl⟩ :=
  DefOk.of0 (w := wr K) (fn := f_is_name) rfl rfl rfl rfl hm F sc_is_name rfl rfl c_is_name fun _ _ _ _ _ _ us hl => match us, hl with | [_], _ => rfl
theorem k_is_reward {K : PySem.W.Frag} {mg : Str → Option Value} {fd : FuncData} (hm : mg "is_reward" = some (.ref (He.ga K "is_reward"))) (F : FunD K "is_reward" "is_reward" (defArgs s_is_reward) (defBody s_is_reward) (defScope s_is_reward) [] [] (He.ga K "is_reward") fd) : DefOk (wr K) Pr mg fes glo free i_is_reward ⟨"is_reward", 1, f_is_reward.dfl⟩ :=
  DefOk.of0 (w := wr K) (fn := f_is_reward) rfl rfl rfl rfl hm F sc_is_reward rfl rfl c_is_reward fun _ _ _ _ _ _ us hl => match us, hl with | [_], _ => rfl
theorem k_checked_list {K : PySem.W.Frag} {mg : Str → Option Value} {fd : FuncData} (hm : mg "checked_list" = some (.ref (He.ga K "checked_list"))) (F : FunD K "checked_list" "checked_list" (defArgs s_checked_list) (defBody s_checked_list) (defScope s_checked_list) [] [] (He.ga K "checked_list") fd) : DefOk (wr K) Pr mg fes glo free i_checked_list ⟨"checked_list", 1, f_checked_list.dfl⟩ :=
  DefOk.of0 (w := wr K) (fn := f_checked_list) rfl rfl rfl rfl hm F sc_checked_list rfl rfl c_checked_list fun _ _ _ _ _ _ us hl => match us, hl with | [_], _ => rfl
theorem k_check_points {K : PySem.W.Frag} {mg : Str → Option Value} {fd : FuncData} (hm : mg "check_points" = some (.ref (He.ga K "check_points"))) (F : FunD K "check_points" "check_points" (defArgs s_check_points) (defBody s_check_points) (defScope s_check_points) [] [] (He.ga K "check_points") fd) : DefOk (wr K) Pr mg fes glo free i_check_points ⟨"check_points", 1, f_check_points.dfl⟩ :=
  DefOk.of0 (w := wr K) (fn := f_check_points) rfl rfl rfl rfl hm F sc_check_points rfl rfl c_check_points fun _ _ _ _ _ _ us hl => match us, hl with | [_], _ => rfl
theorem k_best_rows {K : PySem.W.Frag} {mg : Str → Option Value} {fd : FuncData} (hm : mg "best_rows" = some (.ref (He.ga K "best_rows"))) (F : FunD K "best_rows" "best_rows" (defArgs s_best_rows) (defBody s_best_rows) (defScope s_best_rows) [] [] (He.ga K "best_rows") fd) : DefOk (wr K) Pr mg fes glo free i_best_rows ⟨"best_rows", 2, f_best_rows.dfl⟩ :=
  DefOk.of0 (w := wr K) (fn := f_best_rows) rfl rfl rfl rfl hm F sc_best_rows rfl rfl c_best_rows fun _ _ _ _ _ _ us hl => match us, hl with | [_, _], _ => rfl
theorem k_best_discount {K : PySem.W.Frag} {mg : Str → Option Value} {fd : FuncData} (hm : mg "best_discount" = some (.ref (He.ga K "best_discount"))) (F : FunD K "best_discount" "best_discount" (defArgs s_best_discount) (defBody s_best_discount) (defScope s_best_discount) [] [] (He.ga K "best_discount") fd) : DefOk (wr K) Pr mg fes glo free i_best_discount ⟨"best_discount", 2, f_best_discount.dfl⟩ :=
  DefOk.of0 (w := wr K) (fn := f_best_discount) rfl rfl rfl rfl hm F sc_best_discount rfl rfl c_best_discount fun _ _ _ _ _ _ us hl => match us, hl with | [_, _], _ => rfl
theorem k_dominated {K : PySem.W.Frag} {mg : Str → Option Value} {fd : FuncData} (hm : mg "dominated" = some (.ref (He.ga K "dominated"))) (F : FunD K "dominated" "dominated" (defArgs s_dominated) (defBody s_dominated) (defScope s_dominated) [] [] (He.ga K "dominated") fd) : DefOk (wr K) Pr mg fes glo free i_dominated ⟨"dominated", 1, f_dominated.dfl⟩ :=
  DefOk.of0 (w := wr K) (fn := f_dominated) rfl rfl rfl rfl hm F sc_dominated rfl rfl c_dominated fun _ _ _ _ _ _ us hl => match us, hl with | [_], _ => rfl
theorem k__law_taken {K : PySem.W.Frag} {mg : Str → Option Value} {fd : FuncData} (hm : mg "_law_taken" = some (.ref (He.ga K "_law_taken"))) (F : FunD K "_law_taken" "_law_taken" (defArgs s__law_taken) (defBody s__law_taken) (defScope s__law_taken) [] [] (He.ga K "_law_taken") fd) : DefOk (wr K) Pr mg fes glo free i__law_taken ⟨"_law_taken", 2, f__law_taken.dfl⟩ :=
  DefOk.of0 (w := wr K) (fn := f__law_taken) rfl rfl rfl rfl hm F sc__law_taken rfl rfl c__law_taken fun _ _ _ _ _ _ us hl => match us, hl with | [_, _], _ => rfl
theorem k__law_pick {K : PySem.W.Frag} {mg : Str → Option Value} {fd : FuncData} (hm : mg "_law_pick" = some (.ref (He.ga K "_law_pick"))) (F : FunD K "_law_pick" "_law_pick" (defArgs s__law_pick) (defBody s__law_pick) (defScope s__law_pick) [] [] (He.ga K "_law_pick") fd) : DefOk (wr K) Pr mg fes glo free i__law_pick ⟨"_law_pick", 2, f__law_pick.dfl⟩ :=
  DefOk.of0 (w := wr K) (fn := f__law_pick) rfl rfl rfl rfl hm F sc__law_pick rfl rfl c__law_pick fun _ _ _ _ _ _ us hl => match us, hl with | [_, _], _ => rfl
theorem k__law_alike {K : PySem.W.Frag} {mg : Str → Option Value} {fd : FuncData} (hm : mg "_law_alike" = some (.ref (He.ga K "_law_alike"))) (F : FunD K "_law_alike" "_law_alike" (defArgs s__law_alike) (defBody s__law_alike) (defScope s__law_alike) [] [] (He.ga K "_law_alike") fd) : DefOk (wr K) Pr mg fes glo free i__law_alike ⟨"_law_alike", 2, f__law_alike.dfl⟩ :=
  DefOk.of0 (w := wr K) (fn := f__law_alike) rfl rfl rfl rfl hm F sc__law_alike rfl rfl c__law_alike fun _ _ _ _ _ _ us hl => match us, hl with | [_, _], _ => rfl
theorem k__law_name {K : PySem.W.Frag} {mg : Str → Option Value} {fd : FuncData} (hm : mg "_law_name" = some (.ref (He.ga K "_law_name"))) (F : FunD K "_law_name" "_law_name" (defArgs s__law_name) (defBody s__law_name) (defScope s__law_name) [] [] (He.ga K "_law_name") fd) : DefOk (wr K) Pr mg fes glo free i__law_name ⟨"_law_name", 1, f__law_name.dfl⟩ :=
  DefOk.of0 (w := wr K) (fn := f__law_name) rfl rfl rfl rfl hm F sc__law_name rfl rfl c__law_name fun _ _ _ _ _ _ us hl => match us, hl with | [_], _ => rfl
theorem k__law_names {K : PySem.W.Frag} {mg : Str → Option Value} {fd : FuncData} (hm : mg "_law_names" = some (.ref (He.ga K "_law_names"))) (F : FunD K "_law_names" "_law_names" (defArgs s__law_names) (defBody s__law_names) (defScope s__law_names) [] [] (He.ga K "_law_names") fd) : DefOk (wr K) Pr mg fes glo free i__law_names ⟨"_law_names", 2, f__law_names.dfl⟩ :=
  DefOk.of0 (w := wr K) (fn := f__law_names) rfl rfl rfl rfl hm F sc__law_names rfl rfl c__law_names fun _ _ _ _ _ _ us hl => match us, hl with | [_, _], _ => rfl
theorem k__law_list {K : PySem.W.Frag} {mg : Str → Option Value} {fd : FuncData} (hm : mg "_law_list" = some (.ref (He.ga K "_law_list"))) (F : FunD K "_law_list" "_law_list" (defArgs s__law_list) (defBody s__law_list) (defScope s__law_list) [] [] (He.ga K "_law_list") fd) : DefOk (wr K) Pr mg fes glo free i__law_list ⟨"_law_list", 1, f__law_list.dfl⟩ :=
  DefOk.of0 (w := wr K) (fn := f__law_list) rfl rfl rfl rfl hm F sc__law_list rfl rfl c__law_list fun _ _ _ _ _ _ us hl => match us, hl with | [_], _ => rfl
theorem k__law_given {K : PySem.W.Frag} {mg : Str → Option Value} {fd : FuncData} (hm : mg "_law_given" = some (.ref (He.ga K "_law_given"))) (F : FunD K "_law_given" "_law_given" (defArgs s__law_given) (defBody s__law_given) (defScope s__law_given) [] [] (He.ga K "_law_given") fd) : DefOk (wr K) Pr mg fes glo free i__law_given ⟨"_law_given", 2, f__law_given.dfl⟩ :=
  DefOk.of0 (w := wr K) (fn := f__law_given) rfl rfl rfl rfl hm F sc__law_given rfl rfl c__law_given fun _ _ _ _ _ _ us hl => match us, hl with | [_, _], _ => rfl
theorem k__law_best {K : PySem.W.Frag} {mg : Str → Option Value} {fd : FuncData} (hm : mg "_law_best" = some (.ref (He.ga K "_law_best"))) (F : FunD K "_law_best" "_law_best" (defArgs s__law_best) (defBody s__law_best) (defScope s__law_best) [] [] (He.ga K "_law_best") fd) : DefOk (wr K) Pr mg fes glo free i__law_best ⟨"_law_best", 2, f__law_best.dfl⟩ :=
  DefOk.of0 (w := wr K) (fn := f__law_best) rfl rfl rfl rfl hm F sc__law_best rfl rfl c__law_best fun _ _ _ _ _ _ us hl => match us, hl with | [_, _], _ => rfl
theorem k_law {K : PySem.W.Frag} {mg : Str → Option Value} {fd : FuncData} (hm : mg "law" = some (.ref (He.ga K "law"))) (F : FunD K "law" "law" (defArgs s_law) (defBody s_law) (defScope s_law) [] [] (He.ga K "law") fd) : DefOk (wr K) Pr mg fes glo free i_law ⟨"law", 1, f_law.dfl⟩ :=
  DefOk.of0 (w := wr K) (fn := f_law) rfl rfl rfl rfl hm F sc_law rfl rfl c_law fun _ _ _ _ _ _ us hl => match us, hl with | [_], _ => rfl
theorem facts {prog : Program} {wd : World} {K : PySem.W.Frag} {h : Heap} {mg : Str → Option Value} (lev : Nat) (X : K.In h) (G : h.Ns mainGlobals mg) (c : He.SaysD hfa hfn K) :
    ∃ fd : FuncData, (∀ (s : Shared) (v : Value), BindsTo s fd ⟨[v], []⟩ [("script", v)]) ∧ ∀ base : Heap, FnOk prog wd K mg base (L2.CX prog wd) (lev + 1) (He.ga K "law") fd ["script"] (spC (wr K) 1 fun a M => evF Pr (lev + 1) i_law a M) := by
  obtain ⟨fd0, F0⟩ := c.def_ 0 (d := d_is_integer) rfl
  have m0 := He.glo_ok X G (c.fact 0 (f := .glo "is_integer") rfl)
  obtain ⟨fd1, F1⟩ := c.def_ 1 (d := d_is_within) rfl
  have m1 := He.glo_ok X G (c.fact 1 (f := .glo "is_within") rfl)
  obtain ⟨fd2, F2⟩ := c.def_ 2 (d := d_is_row) rfl
  have m2 := He.glo_ok X G (c.fact 2 (f := .glo "is_row") rfl)
  obtain ⟨fd3, F3⟩ := c.def_ 3 (d := d_is_tuple_of) rfl
  have m3 := He.glo_ok X G (c.fact 3 (f := .glo "is_tuple_of") rfl)
  obtain ⟨fd4, F4⟩ := c.def_ 4 (d := d_is_name) rfl
  have m4 := He.glo_ok X G (c.fact 4 (f := .glo "is_name") rfl)
  obtain ⟨fd5, F5⟩ := c.def_ 5 (d := d_is_reward) rfl
  have m5 := He.glo_ok X G (c.fact 5 (f := .glo "is_reward") rfl)
  obtain ⟨fd6, F6⟩ := c.def_ 6 (d := d_checked_list) rfl
  have m6 := He.glo_ok X G (c.fact 6 (f := .glo "checked_list") rfl)
  obtain ⟨fd7, F7⟩ := c.def_ 7 (d := d_check_points) rfl
  have m7 := He.glo_ok X G (c.fact 7 (f := .glo "check_points") rfl)
  obtain ⟨fd8, F8⟩ := c.def_ 8 (d := d_best_rows) rfl
  have m8 := He.glo_ok X G (c.fact 8 (f := .glo "best_rows") rfl)
  obtain ⟨fd9, F9⟩ := c.def_ 9 (d := d_best_discount) rfl
  have m9 := He.glo_ok X G (c.fact 9 (f := .glo "best_discount") rfl)
  obtain ⟨fd10, F10⟩ := c.def_ 10 (d := d_dominated) rfl
  have m10 := He.glo_ok X G (c.fact 10 (f := .glo "dominated") rfl)
  obtain ⟨fd11, F11⟩ := c.def_ 11 (d := d__law_taken) rfl
  have m11 := He.glo_ok X G (c.fact 11 (f := .glo "_law_taken") rfl)
  obtain ⟨fd12, F12⟩ := c.def_ 12 (d := d__law_pick) rfl
  have m12 := He.glo_ok X G (c.fact 12 (f := .glo "_law_pick") rfl)
  obtain ⟨fd13, F13⟩ := c.def_ 13 (d := d__law_alike) rfl
  have m13 := He.glo_ok X G (c.fact 13 (f := .glo "_law_alike") rfl)
  obtain ⟨fd14, F14⟩ := c.def_ 14 (d := d__law_name) rfl
  have m14 := He.glo_ok X G (c.fact 14 (f := .glo "_law_name") rfl)
  obtain ⟨fd15, F15⟩ := c.def_ 15 (d := d__law_names) rfl
  have m15 := He.glo_ok X G (c.fact 15 (f := .glo "_law_names") rfl)
  obtain ⟨fd16, F16⟩ := c.def_ 16 (d := d__law_list) rfl
  have m16 := He.glo_ok X G (c.fact 16 (f := .glo "_law_list") rfl)
  obtain ⟨fd17, F17⟩ := c.def_ 17 (d := d__law_given) rfl
  have m17 := He.glo_ok X G (c.fact 17 (f := .glo "_law_given") rfl)
  obtain ⟨fd18, F18⟩ := c.def_ 18 (d := d__law_best) rfl
  have m18 := He.glo_ok X G (c.fact 18 (f := .glo "_law_best") rfl)
  obtain ⟨fd19, F19⟩ := c.def_ 19 (d := d_law) rfl
  have m19 := He.glo_ok X G (c.fact 19 (f := .glo "law") rfl)
  have hd : ∀ i fe, fes[i]? = some fe → DefOk (wr K) Pr mg fes glo free i fe := by
    intro i fe h
    match i, h with
    | 0, h => cases h; exact k_is_integer m0 F0
    | 1, h => cases h; exact k_is_within m1 F1
    | 2, h => cases h; exact k_is_row m2 F2
    | 3, h => cases h; exact k_is_tuple_of m3 F3
    | 4, h => cases h; exact k_is_name m4 F4
    | 5, h => cases h; exact k_is_reward m5 F5
    | 6, h => cases h; exact k_checked_list m6 F6
    | 7, h => cases h; exact k_check_points m7 F7
    | 8, h => cases h; exact k_best_rows m8 F8
    | 9, h => cases h; exact k_best_discount m9 F9
    | 10, h => cases h; exact k_dominated m10 F10
    | 11, h => cases h; exact k__law_taken m11 F11
    | 12, h => cases h; exact k__law_pick m12 F12
    | 13, h => cases h; exact k__law_alike m13 F13
    | 14, h => cases h; exact k__law_name m14 F14
    | 15, h => cases h; exact k__law_names m15 F15
    | 16, h => cases h; exact k__law_list m16 F16
    | 17, h => cases h; exact k__law_given m17 F17
    | 18, h => cases h; exact k__law_best m18 F18
    | 19, h => cases h; exact k_law m19 F19
    | n + 20, h => cases h
  have hfree : ∀ x ∈ free, mg x = none := by
    intro x hx
    simp only [free, List.mem_cons, List.not_mem_nil, or_false] at hx
    rcases hx with h | h | h | h | h | h | h | h | h | h | h | h | h | h
    · subst h; exact He.free_ok X G (c.fact 26 (f := .free "all") rfl)
    · subst h; exact He.free_ok X G (c.fact 27 (f := .free "bool") rfl)
    · subst h; exact He.free_ok X G (c.fact 28 (f := .free "dict") rfl)
    · subst h; exact He.free_ok X G (c.fact 29 (f := .free "enumerate") rfl)
    · subst h; exact He.free_ok X G (c.fact 30 (f := .free "int") rfl)
    · subst h; exact He.free_ok X G (c.fact 31 (f := .free "isinstance") rfl)
    · subst h; exact He.free_ok X G (c.fact 32 (f := .free "len") rfl)
    · subst h; exact He.free_ok X G (c.fact 33 (f := .free "list") rfl)
    · subst h; exact He.free_ok X G (c.fact 34 (f := .free "max") rfl)
    · subst h; exact He.free_ok X G (c.fact 35 (f := .free "min") rfl)
    · subst h; exact He.free_ok X G (c.fact 36 (f := .free "range") rfl)
    · subst h; exact He.free_ok X G (c.fact 37 (f := .free "sorted") rfl)
    · subst h; exact He.free_ok X G (c.fact 38 (f := .free "str") rfl)
    · subst h; exact He.free_ok X G (c.fact 39 (f := .free "tuple") rfl)
  have hglo : ∀ p ∈ glo, ∃ v u, mg p.1 = some u ∧ RelV v u ∧ ∀ F : Hp, DR (wr K) F p.2 v := by
    intro p hp
    simp only [glo, List.mem_cons, List.not_mem_nil, or_false] at hp
    rcases hp with h | h | h | h | h | h
    · subst h; obtain ⟨t, e⟩ := He.str_ok X G (c.fact 20 (f := .str "LETTERS" "abcdefghijklmnopqrstuvwxyz") rfl); exact ⟨.str "abcdefghijklmnopqrstuvwxyz", _, e, ⟨t, rfl⟩, fun F => by simp only [DR]; exact ⟨trivial, by decide +kernel⟩⟩
    · subst h; obtain ⟨t, e⟩ := He.int_ok X G (c.fact 21 (f := .int "MOST_DISCOUNT" 10000) rfl); exact ⟨.int 10000, _, e, ⟨t, rfl⟩, fun F => by simp only [DR]⟩
    · subst h; obtain ⟨t, e⟩ := He.int_ok X G (c.fact 22 (f := .int "MOST_NAME" 8) rfl); exact ⟨.int 8, _, e, ⟨t, rfl⟩, fun F => by simp only [DR]⟩
    · subst h; obtain ⟨t, e⟩ := He.int_ok X G (c.fact 23 (f := .int "MOST_POINTS" 500) rfl); exact ⟨.int 500, _, e, ⟨t, rfl⟩, fun F => by simp only [DR]⟩
    · subst h; obtain ⟨t, e⟩ := He.int_ok X G (c.fact 24 (f := .int "MOST_PRICE" 200) rfl); exact ⟨.int 200, _, e, ⟨t, rfl⟩, fun F => by simp only [DR]⟩
    · subst h; obtain ⟨t, e⟩ := He.int_ok X G (c.fact 25 (f := .int "MOST_REWARDS" 12) rfl); exact ⟨.int 12, _, e, ⟨t, rfl⟩, fun F => by simp only [DR]⟩
  refine ⟨fd19, fun s v => (FunD.bindsA (ps := ["script"]) F19 fun _ _ _ _ _ _ us hl => match us, hl with | [_], _ => rfl) s [v] rfl, fun base => ?_⟩
  exact fn_step (w := wr K) (P := Pr) (fn := f_law) hfree hglo (level_ok hfree hglo hd lev) rfl rfl F19 sc_law rfl rfl c_law
end Pd
open PySem PySem.W PySem.Calls PyProof.Rows
set_option maxRecDepth 100000 in
set_option maxHeartbeats 0 in
theorem PySem.Challenge.cw_noidlegain_k59_dominated_rewards_holds : PySem.Challenge.rw_noidlegain_k59_dominated_rewards.Holds := by
  w_on; o_law
  refine HandSHeadRun.head_any (r := OpenLaw.row PySem.Challenge.rw_noidlegain_k59_dominated_rewards) (q := view (OpenLaw.row PySem.Challenge.rw_noidlegain_k59_dominated_rewards).prog [34]) (H := Pd.hk) (ob := Pd.ob) (M := 20000) (loose := Pd.loose) (d := HandSHeadRun.topDef (OpenLaw.row PySem.Challenge.rw_noidlegain_k59_dominated_rewards).prog 34) (kwd := []) Pd.ob_eq
    (by kernel_rfl) (fun s => by kernel_rfl) Pd.run (by kernel_rfl) (by kernel_rfl) (by kernel_rfl) (by rfl) (by first | assumption | decide +kernel) (by decide +kernel) ⟨rfl, rfl, rfl, rfl, rfl, by decide +kernel⟩ ?hw ?hc
  case hw => w_witness2
  case hc =>
    refine Pd.walk_ofW (l := PySem.Challenge.rw_noidlegain_k59_dominated_rewards) (most := 63) (k := Pd.level + 1) (x := "script") (CX := fun wd => L2.CX (PySem.Challenge.rw_noidlegain_k59_dominated_rewards).prog wd) rfl (by decide) (by kernel_rfl) ⟨rfl, by decide, by decide⟩ ?F (fun _ _ _ _ _ z => Pd.CX_no z)
    intro wd mg fa h Y G hmg0
    obtain ⟨K, KX, c⟩ := Y
    have hmg : mg ("law" : PySem.Str) = some (.ref fa) := by
      have e : (HandSHeadRun.topDef (OpenLaw.row PySem.Challenge.rw_noidlegain_k59_dominated_rewards).prog 34).name = ("law" : PySem.Str) := by kernel_rfl
      rw [← e]
      exact hmg0
    have e := hmg.symm.trans (He.glo_ok KX G (c.fact 19 (f := .glo "law") rfl))
    cases e
    obtain ⟨fd, hb, hF⟩ := Pd.facts (prog := (PySem.Challenge.rw_noidlegain_k59_dominated_rewards).prog) (wd := wd) Pd.level KX G c
    exact ⟨K, fd, _, KX, hb, fun H a ns hl _ hS => Pd.sp_law hS (Pd.law_true ns hl), fun base _ _ => hF base⟩
