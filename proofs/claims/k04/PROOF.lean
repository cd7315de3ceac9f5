import PyProof.Rows.All
import Wide.All
import OpenK.AllK
import Wide.FinOn
import HandS.ForMost
import HandS.Zip
import HandS.IsInst
import HandS.SortInts
import HandS.TupAny
import HandS.Conv
import HandS.Style
import HandS.Deep
import HandS.Flow
import KE.DataEq
import KE.GoesMore
import KE.DataCmp
import KE.SortData
import KE.DataMinMax
import HandS.SetFor
import HandS.TupSets
import HandS.Strs
import HandS.Dict
import PySem.Challenge.RW_fewworlds_k04_whole_pairs_followed_and_o
set_option Elab.async false
set_option linter.all false
set_option maxRecDepth 100000
-- part Mp0
/-! A small language without a heap: what the given texts say, value by value. -/
namespace MP

/-- values: texts by their codes; scr: the script, as it is handed in -/
inductive D where
  | non
  | bl (b : Bool)
  | int (i : Int)
  | str (s : List Nat)
  | tup (xs : List D)
  | lst (xs : List D)
  | scr (xs : List Int)
  | dct (kvs : List (D × D))

/-- how a slot that owns its list may be used: free, a caller's (fix), walked just now (lck) -/
inductive Md where
  | free | fix | lck

inductive Sl where
  | no
  | val (d : D)
  | acc (m : Md) (xs : List D)

abbrev Env := List Sl

inductive W where
  | val (d : D)
  | own (xs : List D)
  | slot (i : Nat)

structure Exc where
  cls : Nat
  fs : List D

inductive R (α : Type) where
  | ok (a : α) (r : Env)
  | exc (x : Exc) (r : Env)
  | no

namespace R
variable {α β : Type}
def bind : R α → (α → Env → R β) → R β
  | ok a r, f => f a r
  | exc x r, _ => exc x r
  | no, _ => no
@[simp] theorem bind_ok (a : α) (r : Env) (f : α → Env → R β) : (ok a r).bind f = f a r := rfl
@[simp] theorem bind_exc (x : Exc) (r : Env) (f : α → Env → R β) : (exc x r : R α).bind f = exc x r := rfl
@[simp] theorem bind_no (f : α → Env → R β) : (no : R α).bind f = no := rfl
def ofO (r : Env) : Option α → R α
  | some a => ok a r
  | none => no
@[simp] theorem ofO_some (r : Env) (a : α) : ofO r (some a) = ok a r := rfl
@[simp] theorem ofO_none (r : Env) : ofO r (none : Option α) = no := rfl
end R

/-! ### slots -/
def gets : Env → Nat → Sl
  | [], _ => .no
  | x :: _, 0 => x
  | _ :: r, n + 1 => gets r n
def sets : Env → Nat → Sl → Env
  | [], _, _ => []
  | _ :: r, 0, y => y :: r
  | x :: r, n + 1, y => x :: sets r n y
def wipes (r : Env) : List Nat → Env
  | [] => r
  | i :: is => sets (wipes r is) i .no
/-- the slots `is` as they were in r0 -/
def backs (r0 : Env) (r : Env) : List Nat → Env
  | [] => r
  | i :: is => sets (backs r0 r is) i (gets r0 i)

/-- what is seen of a result -/
def view (r : Env) : W → Option D
  | .val d => some d
  | .own xs => some (.lst xs)
  | .slot i => match gets r i with
    | .val d => some d
    | .acc _ xs => some (.lst xs)
    | .no => none
def views (r : Env) : List W → Option (List D)
  | [] => some []
  | w :: ws => match view r w, views r ws with
    | some d, some ds => some (d :: ds)
    | _, _ => none
def vals : List W → Option (List D)
  | [] => some []
  | .val d :: ws => (vals ws).map (d :: ·)
  | _ :: _ => none
/-- a result handed on for good: its list is never changed again -/
def take : W → Env → R D
  | .val d, r => .ok d r
  | .own xs, r => .ok (.lst xs) r
  | .slot i, r => match gets r i with
    | .val d => .ok d r
    | .acc .free xs => .ok (.lst xs) (sets r i (.val (.lst xs)))
    | _ => .no

/-! ### operators -/
inductive Op where
  | add | sub | mul | fdiv | mod | pow | shl | shr | band | bor
inductive Cm where
  | eq | ne | lt | le | gt | ge | is_ | isnot | mem | nomem
inductive Ty where
  | int | bool | str | tuple | list | dict
inductive Bi where
  | len | sum | sum2 | all | any | list | tuple | sorted | lenset | sortset | abs | int | min1 | max1 | min2 | max2 | listrange
inductive Me where
  | index | count
inductive Ik where
  | seq | rng1 | rng2 | enum | zip

def LIM : Nat := 1048576
def b2i (b : Bool) : Int := if b then 1 else 0

mutual
/-- == -/
def eqD : D → D → Bool
  | .non, .non => true
  | .bl a, .bl b => a == b
  | .bl a, .int j => b2i a == j
  | .int i, .bl b => i == b2i b
  | .int i, .int j => i == j
  | .str x, .str y => x == y
  | .tup xs, .tup ys => eqDs xs ys
  | .lst xs, .lst ys => eqDs xs ys
  | _, _ => false
def eqDs : List D → List D → Bool
  | [], [] => true
  | x :: xs, y :: ys => eqD x y && eqDs xs ys
  | _, _ => false
end
mutual
/-- neither dicts nor the script within -/
def pln : D → Bool
  | .tup xs => plns xs
  | .lst xs => plns xs
  | .dct _ => false
  | .scr _ => false
  | _ => true
def plns : List D → Bool
  | [] => true
  | x :: xs => pln x && plns xs
end
mutual
def dep : D → Nat
  | .tup xs => deps xs + 1
  | .lst xs => deps xs + 1
  | _ => 0
def deps : List D → Nat
  | [] => 0
  | x :: xs => max (dep x) (deps xs)
end
/-- may be compared by == -/
def eqOk (d e : D) : Bool := pln d && pln e && decide (min (dep d) (dep e) ≤ 64)

mutual
/-- < of alike data -/
def ltD : D → D → Bool
  | .bl a, .bl b => !a && b
  | .int i, .int j => decide (i < j)
  | .str x, .str y => decide (x < y)
  | .tup xs, .tup ys => ltDs xs ys
  | .lst xs, .lst ys => ltDs xs ys
  | _, _ => false
def ltDs : List D → List D → Bool
  | [], [] => false
  | [], _ :: _ => true
  | _ :: _, [] => false
  | x :: xs, y :: ys => if eqD x y then ltDs xs ys else ltD x y
end
mutual
/-- of one kind, place by place -/
def alD : D → D → Bool
  | .bl _, .bl _ => true
  | .int _, .int _ => true
  | .str _, .str _ => true
  | .tup xs, .tup ys => alDs xs ys
  | .lst xs, .lst ys => alDs xs ys
  | _, _ => false
def alDs : List D → List D → Bool
  | x :: xs, y :: ys => alD x y && alDs xs ys
  | _, _ => true
end
mutual
/-- no texts within -/
def nsD : D → Bool
  | .non => true
  | .bl _ => true
  | .int _ => true
  | .tup xs => nsDs xs
  | .lst xs => nsDs xs
  | _ => false
def nsDs : List D → Bool
  | [] => true
  | x :: xs => nsD x && nsDs xs
end
def ltOk (d e : D) : Bool := alD d e && pln d && pln e && decide (min (dep d) (dep e) ≤ 64)
def neTup : D → Bool
  | .tup (_ :: _) => true
  | _ => false
/-- may be sorted -/
def srtOk (ds : List D) : Bool := ds.all (fun d => ds.all (alD d)) && plns ds && decide (deps ds ≤ 60) && (ds.all neTup || ds.all fun d => match d with | .int _ => true | .str _ => true | .lst _ => true | _ => false)
def sortD (ds : List D) : List D := ds.mergeSort fun a b => !ltD b a
def minD (m : D) : List D → D
  | [] => m
  | x :: r => minD (if ltD x m then x else m) r
def maxD (m : D) : List D → D
  | [] => m
  | x :: r => maxD (if ltD m x then x else m) r
/-- ascending, each once -/
def insU (x : Int) : List Int → List Int
  | [] => [x]
  | y :: r => if x < y then x :: y :: r else if x = y then y :: r else y :: insU x r
def sortU : List Int → List Int
  | [] => []
  | x :: r => insU x (sortU r)
def insUL (x : List Int) : List (List Int) → List (List Int)
  | [] => [x]
  | y :: r => if x < y then x :: y :: r else if x = y then y :: r else y :: insUL x r
def sortUL : List (List Int) → List (List Int)
  | [] => []
  | x :: r => insUL x (sortUL r)
def getI : D → Option Int
  | .int i => some i
  | _ => none
def getsI : List D → Option (List Int)
  | [] => some []
  | .int i :: r => (getsI r).map (i :: ·)
  | _ :: _ => none
def getsB : List D → Option (List Bool)
  | [] => some []
  | .bl b :: r => (getsB r).map (b :: ·)
  | _ :: _ => none

def mulOk (i j : Int) : Bool := (decide (-18446744073709551616 < i) && decide (i < 18446744073709551616)) || (decide (-18446744073709551616 < j) && decide (j < 18446744073709551616))
def binOp : Op → D → D → Option W
  | .add, .int i, .int j => some (.val (.int (i + j)))
  | .add, .lst xs, .lst ys => if xs.length + ys.length ≤ LIM then some (.own (xs ++ ys)) else none
  | .add, .tup xs, .tup ys => if xs.length + ys.length ≤ LIM then some (.val (.tup (xs ++ ys))) else none
  | .add, .str x, .str y => if x.length + y.length ≤ LIM then some (.val (.str (x ++ y))) else none
  | .sub, .int i, .int j => some (.val (.int (i - j)))
  | .mul, .int i, .int j => if mulOk i j then some (.val (.int (i * j))) else none
  | .fdiv, .int i, .int j => if 0 < j ∧ j < 1073741824 then some (.val (.int (i / j))) else none
  | .mod, .int i, .int j => if 0 < j then some (.val (.int (i % j))) else none
  | .pow, .int i, .int j => if 0 ≤ j ∧ j ≤ 1000 ∧ i.natAbs < 18446744073709551616 then some (.val (.int (i ^ j.toNat))) else none
  | .shl, .int i, .int j => if 0 ≤ j ∧ j ≤ 1000 ∧ i.natAbs < 18446744073709551616 then some (.val (.int (i * 2 ^ j.toNat))) else none
  | .shr, .int i, .int j => if 0 ≤ j then some (.val (.int (i / 2 ^ j.toNat))) else none
  | _, _, _ => none
def isNon : D → Bool
  | .non => true
  | _ => false
/-- x in ds -/
def memD (x : D) (ds : List D) : Bool := ds.any fun y => eqD y x
def cmpOp : Cm → D → D → Option Bool
  | .eq, d, e => if eqOk d e then some (eqD d e) else none
  | .ne, d, e => if eqOk d e then some (!eqD d e) else none
  | .lt, .int i, .int j => some (decide (i < j))
  | .le, .int i, .int j => some (decide (i ≤ j))
  | .gt, .int i, .int j => some (decide (j < i))
  | .ge, .int i, .int j => some (decide (j ≤ i))
  | .lt, .tup xs, .tup ys => if ltOk (.tup xs) (.tup ys) then some (ltDs xs ys) else none
  | .gt, .tup xs, .tup ys => if ltOk (.tup ys) (.tup xs) then some (ltDs ys xs) else none
  | .is_, d, .non => some (isNon d)
  | .isnot, d, .non => some (!isNon d)
  | .mem, x, .lst ds => if eqOk (.lst ds) (.lst [x]) then some (memD x ds) else none
  | .mem, x, .tup ds => if eqOk (.tup ds) (.tup [x]) then some (memD x ds) else none
  | .nomem, x, .lst ds => if eqOk (.lst ds) (.lst [x]) then some (!memD x ds) else none
  | .nomem, x, .tup ds => if eqOk (.tup ds) (.tup [x]) then some (!memD x ds) else none
  | _, _, _ => none
def isTy : Ty → D → Option Bool
  | _, .scr _ => none
  | .int, .int _ => some true
  | .int, .bl _ => some true
  | .bool, .bl _ => some true
  | .str, .str _ => some true
  | .tuple, .tup _ => some true
  | .list, .lst _ => some true
  | .dict, .dct _ => some true
  | _, _ => some false

/-- ascending, by insertion -/
def insI (x : Int) : List Int → List Int
  | [] => [x]
  | y :: r => if x ≤ y then x :: y :: r else y :: insI x r
def sortI : List Int → List Int
  | [] => []
  | x :: r => insI x (sortI r)
def nodupI : List Int → Bool
  | [] => true
  | x :: r => !(r.contains x) && nodupI r
def minI : Int → List Int → Int
  | m, [] => m
  | m, x :: r => minI (if x < m then x else m) r
def maxI : Int → List Int → Int
  | m, [] => m
  | m, x :: r => maxI (if x > m then x else m) r
def sumL : List D → List D → Option (List D)
  | acc, [] => some acc
  | acc, .lst xs :: r => if acc.length + xs.length ≤ LIM then sumL (acc ++ xs) r else none
  | _, _ :: _ => none
def items : D → Option (List D)
  | .lst xs => some xs
  | .tup xs => some xs
  | _ => none
def biLen : List D → Option W
  | [.lst xs] => some (.val (.int xs.length))
  | [.tup xs] => some (.val (.int xs.length))
  | [.str xs] => some (.val (.int xs.length))
  | _ => none
def biSum : List D → Option W
  | [.lst xs] => (getsI xs).map fun ns => .val (.int ns.sum)
  | _ => none
def biSum2 : List D → Option W
  | [.lst (x :: xs), .lst ys] => (sumL ys (x :: xs)).map .own
  | _ => none
def biAll : List D → Option W
  | [.lst xs] => (getsB xs).map fun bs => .val (.bl (bs.all id))
  | _ => none
def biAny : List D → Option W
  | [.lst xs] => (getsB xs).map fun bs => .val (.bl (bs.any id))
  | _ => none
def biList : List D → Option W
  | [d] => (items d).map .own
  | _ => none
def biTuple : List D → Option W
  | [.lst xs] => some (.val (.tup xs))
  | [.tup xs] => some (.val (.tup xs))
  | _ => none
def getsT : List D → Option (List (List Int))
  | [] => some []
  | .tup xs :: r => match getsI xs, getsT r with
    | some ns, some ks => some (ns :: ks)
    | _, _ => none
  | _ :: _ => none
def sorted1 (xs : List D) : Option (List Int) → Option W
  | some ns => some (.own ((sortI ns).map .int))
  | none => if srtOk xs then some (.own (sortD xs)) else none
def biSorted : List D → Option W
  | [.lst xs] => sorted1 xs (getsI xs)
  | [.tup xs] => if srtOk xs then some (.own (sortD xs)) else none
  | _ => none
def tupI (ns : List Int) : D := .tup (ns.map .int)
def sortset1 (xs : List D) : Option (List Int) → Option W
  | some ns => if ns.length ≤ 4000 ∧ (sortU ns).length < 64 then some (.own ((sortU ns).map .int)) else none
  | none => match getsT xs with
    | some ks => if ks.all (fun k => !k.isEmpty) ∧ (sortUL ks).length < 63 then some (.own ((sortUL ks).map tupI)) else none
    | none => none
def biSortset : List D → Option W
  | [.lst xs] => sortset1 xs (getsI xs)
  | [.tup xs] => sortset1 xs (getsI xs)
  | _ => none
def biLenset : List D → Option W
  | [.lst xs] => (getsI xs).bind fun ns => if nodupI ns && decide (ns.length ≤ 4000) then some (.val (.int ns.length)) else none
  | _ => none
def biAbs : List D → Option W
  | [.int i] => some (.val (.int (if i < 0 then -i else i)))
  | _ => none
def biInt : List D → Option W
  | [.int i] => some (.val (.int i))
  | [.bl b] => some (.val (.int (b2i b)))
  | _ => none
def alAll (ds : List D) : Bool := ds.all (fun d => ds.all (alD d)) && plns ds && decide (deps ds ≤ 60) && nsDs ds
def min1 (xs : List D) : Option (List Int) → Option W
  | some [] => none
  | some (n :: ns) => some (.val (.int (minI n ns)))
  | none => match xs with
    | [] => none
    | x :: r => if alAll (x :: r) then some (.val (minD x r)) else none
def max1 (xs : List D) : Option (List Int) → Option W
  | some [] => none
  | some (n :: ns) => some (.val (.int (maxI n ns)))
  | none => none
def biMin1 : List D → Option W
  | [.lst xs] => min1 xs (getsI xs)
  | _ => none
def biMax1 : List D → Option W
  | [.lst xs] => max1 xs (getsI xs)
  | _ => none
def biMin2 : List D → Option W
  | [.int i, .int j] => some (.val (.int (if j < i then j else i)))
  | _ => none
def biMax2 : List D → Option W
  | [.int i, .int j] => some (.val (.int (if j > i then j else i)))
  | _ => none
def biListrange : List D → Option W
  | [.int n] => if n ≤ 1048576 ∧ -1073741824 ≤ n then some (.own ((List.range n.toNat).map fun (k : Nat) => D.int (k : Int))) else none
  | _ => none
def biOp : Bi → List D → Option W
  | .len, ds => biLen ds
  | .sum, ds => biSum ds
  | .sum2, ds => biSum2 ds
  | .all, ds => biAll ds
  | .any, ds => biAny ds
  | .list, ds => biList ds
  | .tuple, ds => biTuple ds
  | .sorted, ds => biSorted ds
  | .lenset, ds => biLenset ds
  | .sortset, ds => biSortset ds
  | .abs, ds => biAbs ds
  | .int, ds => biInt ds
  | .min1, ds => biMin1 ds
  | .max1, ds => biMax1 ds
  | .min2, ds => biMin2 ds
  | .max2, ds => biMax2 ds
  | .listrange, ds => biListrange ds
/-- the first place of an equal one -/
def findD (x : D) : Nat → List D → Option Nat
  | _, [] => none
  | k, y :: r => if eqD y x then some k else findD x (k + 1) r
def getsS : List D → Option (List (List Nat))
  | [] => some []
  | .str s :: r => (getsS r).map (s :: ·)
  | _ :: _ => none
def findS (z : List Nat) : Nat → List (List Nat) → Option Nat
  | _, [] => none
  | k, y :: r => if y = z then some k else findS z (k + 1) r
def meOp : Me → D → List D → Option W
  | .index, .lst ds, [x] => if eqOk (.lst ds) (.lst [x]) then (findD x 0 ds).map fun k => .val (.int k) else none
  | .index, .tup ds, [.str z] => (getsS ds).bind fun ss => (findS z 0 ss).map fun k => .val (.int k)
  | _, _, _ => none
def enumD : Nat → List D → List D
  | _, [] => []
  | k, x :: r => .tup [.int (k : Int), x] :: enumD (k + 1) r
/-- what is walked -/
def itR1 : List D → Option (List D)
  | [.int n] => if n ≤ 1048576 ∧ -1073741824 ≤ n then some ((List.range n.toNat).map fun (k : Nat) => D.int (0 + (k : Int))) else none
  | _ => none
def itR2 : List D → Option (List D)
  | [.int a, .int b] => if b - a ≤ 1048576 ∧ -1073741824 ≤ a ∧ a ≤ 1073741824 ∧ b ≤ 1073741824 ∧ -1073741824 ≤ b then some ((List.range (b - a).toNat).map fun (k : Nat) => D.int (a + (k : Int))) else none
  | _ => none
def itEnum : List D → Option (List D)
  | [.lst xs] => some (enumD 0 xs)
  | [.tup xs] => some (enumD 0 xs)
  | _ => none
def itZip : List D → Option (List D)
  | [.lst xs, .lst ys] => some (List.zipWith (fun x y => .tup [x, y]) xs ys)
  | [.tup xs, .tup ys] => some (List.zipWith (fun x y => .tup [x, y]) xs ys)
  | _ => none
def itSeq : List D → Option (List D)
  | [d] => items d
  | _ => none
def itOp : Ik → List D → Option (List D)
  | .seq, ds => itSeq ds
  | .rng1, ds => itR1 ds
  | .rng2, ds => itR2 ds
  | .enum, ds => itEnum ds
  | .zip, ds => itZip ds
def ixN (n : Nat) (i : Int) : Option Nat := if 0 ≤ i then (if i < n then some i.toNat else none) else if -(n : Int) ≤ i then some (i + n).toNat else none
def subOp : D → D → Option D
  | .lst xs, .int i => (ixN xs.length i).bind fun k => xs[k]?
  | .tup xs, .int i => (ixN xs.length i).bind fun k => xs[k]?
  | _, _ => none
def sIx (n d : Nat) : Option Int → Nat
  | none => d
  | some i => if i < 0 then (i + n).toNat else min i.toNat n
def cut {α : Type} (xs : List α) (lo hi : Option Int) : List α := (xs.drop (sIx xs.length 0 lo)).take (sIx xs.length xs.length hi - sIx xs.length 0 lo)
def cutOp (lo hi : Option Int) : D → Option W
  | .lst xs => some (.own (cut xs lo hi))
  | .tup xs => some (.val (.tup (cut xs lo hi)))
  | .scr ns => some (.own ((cut ns lo hi).map .int))
  | _ => none

/-! ### syntax -/
/-- targets: a slot, a tuple of targets (tp of a chain) -/
inductive Tg where
  | nm (i : Nat)
  | tp (ts : Tg)
  | nil
  | cons (t ts : Tg)

inductive E where
  | var (i : Nat)
  | lit (d : D)
  | tk (e : E)
  | bin (op : Op) (a b : E)
  | neg (a : E)
  | not (a : E)
  | and (a b : E)
  | or (a b : E)
  | cmp (op : Cm) (a b : E)
  | chain (o1 o2 : Cm) (a b c : E)
  | ite (c a b : E)
  | tup (es : E)
  | list (es : E)
  | sub (a i : E)
  | cut (a lo hi : E)
  | bi (b : Bi) (es : E)
  | meth (m : Me) (o es : E)
  | isi (e : E) (t : Ty)
  | call (f : Nat) (es : E)
  | app (i : Nat) (e : E)
  | ext (i : Nat) (e : E)
  | pop (i : Nat)
  | popAt (i : Nat) (e : E)
  | lc (t : Tg) (k : Ik) (es c x : E) (own : List Nat)
  | nil
  | cons (e es : E)

inductive S where
  | skip
  | seq (a b : S)
  | asn (t : Tg) (e : E)
  | par (t : Tg) (e : E)
  | setix (i : Nat) (e v : E)
  | expr (e : E)
  | ret (e : E)
  | retn
  | ite (c : E) (a b : S)
  | for_ (t : Tg) (k : Ik) (es : E) (b : S)
  | wh (c : E) (b : S)
  | brk
  | dead
  | fz (s : S) (i : Nat)
  | folw

inductive Fl where
  | next
  | ret (w : W)
  | brk

/-! ### meaning -/
abbrev CallF := Nat → List Sl → R W

/-- a plain store: a caller's list stays at its name, a walked one too -/
def held : Sl → Bool
  | .acc .fix _ => true
  | .acc .lck _ => true
  | _ => false
def put : Env → Nat → Sl → Option Env
  | [], _, _ => none
  | s :: r, 0, y => if held s then none else some (y :: r)
  | s :: r, n + 1, y => (put r n y).map (s :: ·)
mutual
def asg : Tg → D → Env → Option Env
  | .nm i, d, r => put r i (.val d)
  | .tp ts, .tup ds, r => asgs ts ds r
  | _, _, _ => none
def asgs : Tg → List D → Env → Option Env
  | .nil, [], r => some r
  | .cons t ts, d :: ds, r => match asg t d r with
    | some r' => asgs ts ds r'
    | none => none
  | _, _, _ => none
end
/-- a result put to a name: a new list is the name's own -/
def putW (r : Env) (i : Nat) : W → R Unit
  | .val d => R.ofO r (put r i (.val d)) |>.bind fun r' _ => .ok () r'
  | .own xs => R.ofO r (put r i (.acc .free xs)) |>.bind fun r' _ => .ok () r'
  | .slot j => (take (.slot j) r).bind fun d r1 => R.ofO r1 (put r1 i (.val d)) |>.bind fun r' _ => .ok () r'
def lock1 (r : Env) : W → Env
  | .slot i => match gets r i with
    | .acc _ xs => sets r i (.acc .lck xs)
    | _ => r
  | _ => r
def locks (r : Env) : List W → Env
  | [] => r
  | w :: ws => locks (lock1 r w) ws
/-- the slots of ws with the mode they had in r0 -/
def unlock1 (r0 r : Env) : W → Env
  | .slot i => match gets r0 i, gets r i with
    | .acc m _, .acc .lck xs => sets r i (.acc m xs)
    | _, _ => r
  | _ => r
def unlocks (r0 r : Env) : List W → Env
  | [] => r
  | w :: ws => unlock1 r0 (unlocks r0 r ws) w
def R.unlock {α : Type} (r0 : Env) (ws : List W) : R α → R α
  | .ok a r => .ok a (unlocks r0 r ws)
  | .exc x r => .exc x (unlocks r0 r ws)
  | .no => .no

/-- an argument as the callee's slot -/
def argS (r : Env) : W → Option Sl
  | .val d => some (.val d)
  | .own _ => none
  | .slot i => match gets r i with
    | .acc .free xs => some (.acc .fix xs)
    | .acc .fix xs => some (.acc .fix xs)
    | _ => none
def argsS (r : Env) : List W → Option (List Sl)
  | [] => some []
  | w :: ws => match argS r w, argsS r ws with
    | some s, some ss => some (s :: ss)
    | _, _ => none
def slotsOf : List W → List Nat
  | [] => []
  | .slot i :: ws => i :: slotsOf ws
  | _ :: ws => slotsOf ws
def nodupN : List Nat → Bool
  | [] => true
  | x :: r => !(r.contains x) && nodupN r
/-- the callee's lists, back in the caller's slots -/
def backArgs : List W → List Sl → Env → Env
  | .slot i :: ws, .acc _ xs :: ss, r => match gets r i with
    | .acc m _ => backArgs ws ss (sets r i (.acc m xs))
    | _ => backArgs ws ss r
  | _ :: ws, _ :: ss, r => backArgs ws ss r
  | _, _, r => r
def R.back (ws : List W) (r : Env) : R W → R W
  | .ok (.slot _) _ => .no
  | .ok w out => .ok w (backArgs ws out r)
  | .exc x out => .exc x (backArgs ws out r)
  | .no => .no

/-- one item of a comprehension at a time -/
def compL (step : D → Env → R (Option D)) : List D → List D → Env → R (List D)
  | [], out, r => .ok out r
  | x :: xs, out, r => (step x r).bind fun y r' => match y with
    | some d => compL step xs (out ++ [d]) r'
    | none => compL step xs out r'
def forL (step : D → Env → R Fl) : List D → Env → R Fl
  | [], r => .ok .next r
  | x :: xs, r => (step x r).bind fun f r' => match f with
    | .next => forL step xs r'
    | .brk => .ok .next r'
    | .ret w => .ok (.ret w) r'
def whL (test : Env → R Bool) (step : Env → R Fl) : Nat → Env → R Fl
  | 0, _ => .no
  | n + 1, r => (test r).bind fun b r1 => match b with
    | true => (step r1).bind fun f r2 => match f with
      | .next => whL test step n r2
      | .brk => .ok .next r2
      | .ret w => .ok (.ret w) r2
    | false => .ok .next r1

def vw {β : Type} (r : Env) (w : W) (f : D → R β) : R β := match view r w with
  | some d => f d
  | none => .no
/-- a part of a slice; nil: left out -/
def R.part : E → (Unit → R W) → Env → R (Option Int)
  | .nil, _, r => .ok none r
  | _, f, _ => (f ()).bind fun w r => match w with
    | .val (.int i) => .ok (some i) r
    | _ => .no
def asB (w : W) (r : Env) : R Bool := match w with
  | .val (.bl b) => .ok b r
  | _ => .no
/-- the list that slot i owns, to be changed -/
def mutL {β : Type} (r : Env) (i : Nat) (f : Md → List D → R β) : R β := match gets r i with
  | .acc .free xs => f .free xs
  | .acc .fix xs => f .fix xs
  | _ => .no

section
variable (C : CallF)
mutual
def ev : E → Env → R W
  | .var i, r => match gets r i with
    | .val d => .ok (.val d) r
    | .acc _ _ => .ok (.slot i) r
    | .no => .no
  | .lit d, r => .ok (.val d) r
  | .tk e, r => (ev e r).bind fun w r1 => (take w r1).bind fun d r2 => .ok (.val d) r2
  | .bin op a b, r => (ev a r).bind fun x r1 => (ev b r1).bind fun y r2 => vw r2 x fun d => vw r2 y fun e => R.ofO r2 (binOp op d e)
  | .neg a, r => (ev a r).bind fun x r1 => match x with
    | .val (.int i) => .ok (.val (.int (-i))) r1
    | _ => .no
  | .not a, r => (ev a r).bind fun x r1 => (asB x r1).bind fun b r2 => .ok (.val (.bl (!b))) r2
  | .and a b, r => (ev a r).bind fun x r1 => (asB x r1).bind fun c r2 => match c with
    | true => ev b r2
    | false => .ok (.val (.bl false)) r2
  | .or a b, r => (ev a r).bind fun x r1 => (asB x r1).bind fun c r2 => match c with
    | true => .ok (.val (.bl true)) r2
    | false => ev b r2
  | .cmp op a b, r => (ev a r).bind fun x r1 => (ev b r1).bind fun y r2 => vw r2 x fun d => vw r2 y fun e => (R.ofO r2 (cmpOp op d e)).bind fun c r3 => .ok (.val (.bl c)) r3
  | .chain o1 o2 a b c, r => (ev a r).bind fun x r1 => (ev b r1).bind fun y r2 => vw r2 x fun d => vw r2 y fun e => (R.ofO r2 (cmpOp o1 d e)).bind fun t r3 => match t with
    | true => (ev c r3).bind fun z r4 => vw r4 y fun e' => vw r4 z fun g => (R.ofO r4 (cmpOp o2 e' g)).bind fun t r5 => .ok (.val (.bl t)) r5
    | false => .ok (.val (.bl false)) r3
  | .ite c a b, r => (ev c r).bind fun x r1 => (asB x r1).bind fun t r2 => match t with
    | true => ev a r2
    | false => ev b r2
  | .tup es, r => (evs es r).bind fun ws r1 => R.ofO r1 ((vals ws).map fun ds => .val (.tup ds))
  | .list es, r => (evs es r).bind fun ws r1 => R.ofO r1 ((vals ws).map .own)
  | .sub a i, r => (ev a r).bind fun x r1 => (ev i r1).bind fun y r2 => vw r2 x fun d => vw r2 y fun e => R.ofO r2 ((subOp d e).map .val)
  | .cut a lo hi, r => (ev a r).bind fun x r1 => (R.part lo (fun _ => ev lo r1) r1).bind fun l r2 => (R.part hi (fun _ => ev hi r2) r2).bind fun h r3 => vw r3 x fun d => R.ofO r3 (cutOp l h d)
  | .bi b es, r => (evs es r).bind fun ws r1 => match views r1 ws with
    | some ds => R.ofO r1 (biOp b ds)
    | none => .no
  | .meth m o es, r => (ev o r).bind fun x r1 => (evs es r1).bind fun ws r2 => vw r2 x fun d => match views r2 ws with
    | some ds => R.ofO r2 (meOp m d ds)
    | none => .no
  | .isi e t, r => (ev e r).bind fun x r1 => vw r1 x fun d => R.ofO r1 ((isTy t d).map fun b => .val (.bl b))
  | .call f es, r => (evs es r).bind fun ws r1 => match argsS r1 ws with
    | some ss => if nodupN (slotsOf ws) then (C f ss).back ws r1 else .no
    | none => .no
  | .app i e, r => mutL r i fun _ _ => (ev e r).bind fun x r1 => match x with
    | .val d => mutL r1 i fun m xs => if xs.length < LIM then .ok (.val .non) (sets r1 i (.acc m (xs ++ [d]))) else .no
    | _ => .no
  | .ext i e, r => mutL r i fun _ _ => (ev e r).bind fun x r1 => vw r1 x fun d => match d with
    | .lst ys => mutL r1 i fun m xs => if xs.length + ys.length ≤ LIM then .ok (.val .non) (sets r1 i (.acc m (xs ++ ys))) else .no
    | _ => .no
  | .pop i, r => mutL r i fun m xs => match xs.getLast? with
    | some d => .ok (.val d) (sets r i (.acc m xs.dropLast))
    | none => .no
  | .popAt i e, r => mutL r i fun _ _ => (ev e r).bind fun x r1 => match x with
    | .val (.int k) => mutL r1 i fun m xs => match (ixN xs.length k).bind fun j => (xs[j]?).map fun d => (j, d) with
      | some (j, d) => .ok (.val d) (sets r1 i (.acc m (xs.eraseIdx j)))
      | none => .no
    | _ => .no
  | .lc t k es c x own, r => (evs es r).bind fun ws r1 => match (views r1 ws).bind (itOp k) with
    | some ds => ((compL (fun d r2 => match asg t d r2 with
        | some r3 => (ev c r3).bind fun y r4 => (asB y r4).bind fun b r5 => match b with
          | true => (ev x r5).bind fun z r6 => match z with
            | .val d' => .ok (some d') (wipes r6 own)
            | _ => .no
          | false => .ok none (wipes r5 own)
        | none => .no) ds [] (wipes (locks r1 ws) own)).bind fun out r7 => .ok (.own out) (backs (locks r1 ws) r7 own)).unlock r1 ws
    | none => .no
  | .nil, _ => .no
  | .cons _ _, _ => .no
def evs : E → Env → R (List W)
  | .nil, r => .ok [] r
  | .cons e es, r => (ev e r).bind fun w r1 => (evs es r1).bind fun ws r2 => .ok (w :: ws) r2
  | _, _ => .no
end
def test (c : E) (r : Env) : R Bool := (ev C c r).bind asB
/-- how long a while may go -/
def WN : Nat := 100000
/-- several results to several targets, from the left -/
def putWs : Tg → List W → Env → R Unit
  | .nil, [], r => .ok () r
  | .cons (.nm i) ts, w :: ws, r => if (slotsOf ws).contains i then .no else (putW r i w).bind fun _ r1 => putWs ts ws r1
  | .cons (.tp t) ts, .val d :: ws, r => if (slotsOf ws).isEmpty then (R.ofO r (asg (.tp t) d r)).bind fun r' _ => putWs ts ws r' else .no
  | _, _, _ => .no
/-- pairs [a, m] and [m, t] make [a, t] -/
def rowK (k : List Int) (ls : List (List Int)) : List (List Int) := match k with
  | [a, m] => ls.filterMap fun l => match l with
    | [g, t] => if g = m then some [a, t] else none
    | _ => none
  | _ => []
def folK (ks ls : List (List Int)) : List (List Int) := ks.flatMap fun k => rowK k ls
def twoB (ks : List (List Int)) : Bool := ks.all fun k => k.length == 2
def folS (d e : D) : Option (List (List Int)) := (items d).bind fun xs => (items e).bind fun ys => (getsT xs).bind fun ks => (getsT ys).bind fun ls =>
  if twoB ks && twoB ls && decide (ks.length * ls.length ≤ 4000) && decide ((sortUL (folK ks ls)).length < 63) then some (sortUL (folK ks ls)) else none
/-- the whole body of a def of two parameters: a dict filled by pairs that meet, sorted -/
def folR (r : Env) : R Fl := match r with
  | [.val d, .val e, .no, .no, .no, .no, .no] => match folS d e with
    | some ks => .ok (.ret (.own (ks.map tupI))) r
    | none => .no
  | _ => .no
def ex : S → Env → R Fl
  | .skip, r => .ok .next r
  | .seq a b, r => (ex a r).bind fun f r1 => match f with
    | .next => ex b r1
    | .ret w => .ok (.ret w) r1
    | .brk => .ok .brk r1
  | .asn t e, r => (ev C e r).bind fun w r1 => match t with
    | .nm i => (putW r1 i w).bind fun _ r2 => .ok .next r2
    | t => vw r1 w fun d => match d with
      | .tup _ => (R.ofO r1 (asg t d r1)).bind fun r' _ => .ok .next r'
      | _ => .no
  | .par t es, r => (evs C es r).bind fun ws r1 => (putWs t ws r1).bind fun _ r2 => .ok .next r2
  | .setix i e v, r => (ev C v r).bind fun x r1 => mutL r1 i fun _ _ => (ev C e r1).bind fun y r2 => match x, y with
    | .val d, .val (.int k) => mutL r2 i fun m xs => match ixN xs.length k with
      | some j => .ok .next (sets r2 i (.acc m (xs.set j d)))
      | none => .no
    | _, _ => .no
  | .expr e, r => (ev C e r).bind fun _ r1 => .ok .next r1
  | .ret e, r => (ev C e r).bind fun w r1 => .ok (.ret w) r1
  | .retn, r => .ok (.ret (.val .non)) r
  | .ite c a b, r => (test C c r).bind fun t r1 => match t with
    | true => ex a r1
    | false => ex b r1
  | .for_ t k es b, r => (evs C es r).bind fun ws r1 => match (views r1 ws).bind (itOp k) with
    | some ds => (forL (fun d r2 => match asg t d r2 with
        | some r3 => ex b r3
        | none => .no) ds (locks r1 ws)).unlock r1 ws
    | none => .no
  | .wh c b, r => whL (test C c) (ex b) WN r
  | .brk, r => .ok .brk r
  | .dead, _ => .no
  | .fz s i, r => (ex s r).bind fun f r1 => match f with
    | .next => (take (.slot i) r1).bind fun _ r2 => .ok .next r2
    | _ => .no
  | .folw, r => folR r
end

/-- a def: how many parameters, how many slots, its body -/
structure Fn where
  n : Nat
  m : Nat
  b : S

/-- the parameters behind a call: lists that were handed in as the callee left them -/
def outsF (r : Env) : Nat → List Sl → List Sl
  | _, [] => []
  | i, .acc _ _ :: ss => gets r i :: outsF r (i + 1) ss
  | i, s :: ss => s :: outsF r (i + 1) ss
def outs (ss : List Sl) (r : Env) : List Sl := outsF r 0 ss
/-- what is handed back -/
def outW (w : W) (r : Env) : R W := match w with
  | .slot i => match gets r i with
    | .val d => .ok (.val d) r
    | .acc .free xs => .ok (.own xs) (sets r i .no)
    | _ => .no
  | w => .ok w r
def R.fin (ss : List Sl) : R Fl → R W
  | .ok (.ret w) r => (outW w r).bind fun w' r' => .ok w' (outs ss r')
  | .ok .next r => .ok (.val .non) (outs ss r)
  | .ok .brk _ => .no
  | .exc x r => .exc x (outs ss r)
  | .no => .no
def callF (P : Nat → Option Fn) : Nat → CallF
  | 0 => fun _ _ => .no
  | n + 1 => fun f ss => match P f with
    | some fn => if ss.length = fn.n then (ex (callF P n) fn.b (ss ++ List.replicate (fn.m - fn.n) .no)).fin ss else .no
    | none => .no

end MP

-- part Mp1
/-! How the values of MP lie in the abstract heap of the hand layer. -/
namespace MP
open PySem PySem.Spec PyProof.Rows L2

/-! ### slots -/
theorem gets_sets_same : ∀ {r : Env} {i : Nat} {s : Sl}, i < r.length → gets (sets r i s) i = s
  | [], _, _, h => absurd h (Nat.not_lt_zero _)
  | _ :: _, 0, _, _ => rfl
  | _ :: r, i + 1, _, h => gets_sets_same (r := r) (i := i) (Nat.lt_of_succ_lt_succ h)
theorem gets_sets_ne : ∀ {r : Env} {i j : Nat} {s : Sl}, j ≠ i → gets (sets r i s) j = gets r j
  | [], _, _, _, _ => rfl
  | _ :: _, 0, 0, _, h => absurd rfl h
  | _ :: _, 0, _ + 1, _, _ => rfl
  | _ :: _, _ + 1, 0, _, _ => rfl
  | _ :: r, i + 1, j + 1, _, h => gets_sets_ne (r := r) (i := i) (j := j) (fun e => h (congrArg _ e))
theorem sets_length : ∀ {r : Env} {i : Nat} {s : Sl}, (sets r i s).length = r.length
  | [], _, _ => rfl
  | _ :: _, 0, _ => rfl
  | _ :: r, i + 1, _ => congrArg (· + 1) (sets_length (r := r) (i := i))
theorem gets_lt : ∀ {r : Env} {i : Nat}, gets r i ≠ .no → i < r.length
  | [], _, h => absurd rfl h
  | _ :: _, 0, _ => Nat.succ_pos _
  | _ :: r, i + 1, h => Nat.succ_lt_succ (gets_lt (r := r) (i := i) h)

/-- the script: locked, or of the written part -/
def ScrAt (K : PySem.W.Frag) (H : Hp) (a : Addr) (xs : List V) : Prop := (∃ o, H a = some (.frz o (.lst xs))) ∨ SqL K (fun _ => none) a xs
theorem ScrAt.sq {K : PySem.W.Frag} {H : Hp} {a : Addr} {xs : List V} (h : ScrAt K H a xs) : SqL K H a xs := by
  rcases h with ⟨o, h⟩ | (h | ⟨o, h⟩) | h
  · exact .inl (.inr ⟨o, h⟩)
  · cases h
  · cases h
  · exact .inr h
theorem ScrAt.of {K : PySem.W.Frag} {H : Hp} {a : Addr} {xs : List V} (hO : Only H) (h : SqL K H a xs) : ScrAt K H a xs := by
  rcases h with (h | ⟨o, h⟩) | h
  · rcases hO a with z | ⟨o, ys, z⟩
    · rw [z] at h; cases h
    · rw [z] at h; cases h
  · exact .inl ⟨o, h⟩
  · exact .inr (.inr h)
/-! ### values in the heap; N: addresses that a value never comes to -/
mutual
inductive Rep (K : PySem.W.Frag) (H : Hp) (N : Addr → Prop) : V → D → Prop
  | non : Rep K H N .non .non
  | bl (b : Bool) : Rep K H N (.bl b) (.bl b)
  | int (i : Int) : Rep K H N (.int i) (.int i)
  | str (s : List Nat) : s.length ≤ LIM → Rep K H N (.str ⟨s.toArray⟩) (.str s)
  | tup {a : Addr} {vs : List V} {ds : List D} : SqT K H a vs → Reps K H N vs ds → ds.length ≤ sizeLine → Rep K H N (.ref a) (.tup ds)
  | lst {a : Addr} {vs : List V} {ds : List D} : ¬ N a → H a = some (.lst vs) → Reps K H N vs ds → ds.length ≤ sizeLine → Rep K H N (.ref a) (.lst ds)
  | scr {a : Addr} {ns : List Int} : ScrAt K H a (ns.map V.int) → ns.length ≤ sizeLine → Rep K H N (.ref a) (.scr ns)
inductive Reps (K : PySem.W.Frag) (H : Hp) (N : Addr → Prop) : List V → List D → Prop
  | nil : Reps K H N [] []
  | cons {v : V} {vs : List V} {d : D} {ds : List D} : Rep K H N v d → Reps K H N vs ds → Reps K H N (v :: vs) (d :: ds)
end

/-- M: what may change; it is lists, and nothing comes to it -/
structure Stab (H H' : Hp) (M N N' : Addr → Prop) : Prop where
  frame : ∀ b o, H b = some o → ¬ M b → H' b = some o
  lists : ∀ b, M b → ∃ xs, H b = some (.lst xs)
  sub : ∀ b, M b → N b
  new : ∀ b, N' b → N b ∨ H b = none

section
variable {K : PySem.W.Frag} {H H' : Hp} {M N N' : Addr → Prop}
theorem Stab.rd (st : Stab H H' M N N') {a : Addr} {vs : List V} (h : SqT K H a vs) : SqT K H' a vs := by
  have nM : ∀ u, H a = some u → (∀ xs, u ≠ .lst xs) → ¬ M a := fun u e ne m => by
    obtain ⟨xs, e'⟩ := st.lists a m
    rw [e] at e'
    exact ne xs (Option.some.inj e')
  rcases h with (h | ⟨o, h⟩) | h
  · exact .inl (.inl (st.frame a _ h (nM _ h fun _ z => nomatch z)))
  · exact .inl (.inr ⟨o, st.frame a _ h (nM _ h fun _ z => nomatch z)⟩)
  · exact .inr h
theorem Stab.notN (st : Stab H H' M N N') {a : Addr} {o : HO} (h : H a = some o) (n : ¬ N a) : ¬ N' a := fun z => by
  rcases st.new a z with z | z
  · exact n z
  · rw [h] at z; cases z
theorem Stab.notM (st : Stab H H' M N N') {a : Addr} (n : ¬ N a) : ¬ M a := fun z => n (st.sub a z)
mutual
theorem Rep.stab (st : Stab H H' M N N') : ∀ {v : V} {d : D}, Rep K H N v d → Rep K H' N' v d
  | _, .non, h => by cases h; exact .non
  | _, .bl b, h => by cases h; exact .bl b
  | _, .int i, h => by cases h; exact .int i
  | _, .str s, h => by cases h with | str _ l => exact .str s l
  | _, .tup ds, h => by
    cases h with
    | tup h1 h2 h3 => exact .tup (st.rd h1) (Reps.stab st h2) h3
  | _, .lst ds, h => by
    cases h with
    | lst h0 h1 h2 h3 => exact .lst (st.notN h1 h0) (st.frame _ _ h1 (st.notM h0)) (Reps.stab st h2) h3
  | _, .scr ns, h => by
    cases h with
    | scr h1 h2 =>
      rcases h1 with ⟨o, h1⟩ | h1
      · refine .scr (.inl ⟨o, st.frame _ _ h1 fun m => ?_⟩) h2
        obtain ⟨xs, e⟩ := st.lists _ m
        rw [h1] at e; cases e
      · exact .scr (.inr h1) h2
  | _, .dct _, h => by cases h
theorem Reps.stab (st : Stab H H' M N N') : ∀ {vs : List V} {ds : List D}, Reps K H N vs ds → Reps K H' N' vs ds
  | _, [], h => by cases h; exact .nil
  | _, d :: ds, h => by
    cases h with
    | cons h1 h2 => exact .cons (Rep.stab st h1) (Reps.stab st h2)
end
theorem Rep.anti {v : V} {d : D} (h : Rep K H N v d) (hn : ∀ b, N' b → N b) : Rep K H N' v d :=
  Rep.stab (M := fun _ => False) ⟨fun _ _ e _ => e, fun _ z => z.elim, fun _ z => z.elim, fun b z => .inl (hn b z)⟩ h
theorem Reps.anti {vs : List V} {ds : List D} (h : Reps K H N vs ds) (hn : ∀ b, N' b → N b) : Reps K H N' vs ds :=
  Reps.stab (M := fun _ => False) ⟨fun _ _ e _ => e, fun _ z => z.elim, fun _ z => z.elim, fun b z => .inl (hn b z)⟩ h
/-- where nothing is changed -/
theorem Stab.grow (k : ∀ b o, H b = some o → H' b = some o) (hn : ∀ b, N' b → N b ∨ H b = none) : Stab H H' (fun _ => False) N N' := ⟨fun b o e _ => k b o e, fun _ z => z.elim, fun _ z => z.elim, hn⟩
theorem Reps.length : ∀ {vs : List V} {ds : List D}, Reps K H N vs ds → vs.length = ds.length
  | _, [], h => by cases h; rfl
  | _, d :: ds, h => by
    cases h with
    | cons h1 h2 => exact congrArg (· + 1) (Reps.length h2)
theorem Reps.append : ∀ {vs us : List V} {ds es : List D}, Reps K H N vs ds → Reps K H N us es → Reps K H N (vs ++ us) (ds ++ es)
  | _, _, [], _, h, g => by cases h; exact g
  | _, _, d :: ds, _, h, g => by
    cases h with
    | cons h1 h2 => exact .cons h1 (Reps.append h2 g)
theorem Reps.get : ∀ {vs : List V} {ds : List D} {k : Nat} {d : D}, Reps K H N vs ds → ds[k]? = some d → ∃ v, vs[k]? = some v ∧ Rep K H N v d
  | _, [], _, _, _, e => by simp at e
  | _, d :: ds, 0, _, h, e => by
    cases h with
    | cons h1 h2 => simp at e; subst e; exact ⟨_, rfl, h1⟩
  | _, d :: ds, k + 1, _, h, e => by
    cases h with
    | cons h1 h2 => exact Reps.get (k := k) h2 (by simpa using e)
theorem Reps.set : ∀ {vs : List V} {ds : List D} (k : Nat) {v : V} {d : D}, Rep K H N v d → Reps K H N vs ds → Reps K H N (vs.set k v) (ds.set k d)
  | _, [], _, _, _, _, h => by cases h; exact .nil
  | _, _ :: ds, 0, _, _, r, h => by
    cases h with
    | cons h1 h2 => exact .cons r h2
  | _, _ :: ds, k + 1, _, _, r, h => by
    cases h with
    | cons h1 h2 => exact .cons h1 (Reps.set k r h2)
theorem Reps.erase : ∀ {vs : List V} {ds : List D} (k : Nat), Reps K H N vs ds → Reps K H N (vs.eraseIdx k) (ds.eraseIdx k)
  | _, [], _, h => by cases h; exact .nil
  | _, _ :: ds, 0, h => by
    cases h with
    | cons h1 h2 => exact h2
  | _, _ :: ds, k + 1, h => by
    cases h with
    | cons h1 h2 => exact .cons h1 (Reps.erase k h2)
theorem Reps.take : ∀ {vs : List V} {ds : List D} (k : Nat), Reps K H N vs ds → Reps K H N (vs.take k) (ds.take k)
  | _, _, 0, _ => .nil
  | _, [], _ + 1, h => by cases h; exact .nil
  | _, _ :: ds, k + 1, h => by
    cases h with
    | cons h1 h2 => exact .cons h1 (Reps.take k h2)
theorem Reps.drop : ∀ {vs : List V} {ds : List D} (k : Nat), Reps K H N vs ds → Reps K H N (vs.drop k) (ds.drop k)
  | _, _, 0, h => h
  | _, [], _ + 1, h => by cases h; exact .nil
  | _, _ :: ds, k + 1, h => by
    cases h with
    | cons h1 h2 => exact Reps.drop k h2
theorem Reps.dropLast : ∀ {vs : List V} {ds : List D}, Reps K H N vs ds → Reps K H N vs.dropLast ds.dropLast := fun {vs ds} h => by
  rw [List.dropLast_eq_take, List.dropLast_eq_take, h.length]
  exact h.take _
theorem Reps.ints : ∀ {ns : List Int}, Reps K H N (ns.map V.int) (ns.map D.int)
  | [] => .nil
  | n :: ns => .cons (.int n) Reps.ints
end

/-! ### what the slots hold -/
def Acc (σ : L2.St) (r : Env) (a : Addr) : Prop := ∃ i m xs, gets r i = .acc m xs ∧ σ[i]? = some (some (.ref a))
/-- what may be changed -/
def Mu (σ : L2.St) (r : Env) (a : Addr) : Prop := ∃ i m xs, gets r i = .acc m xs ∧ m ≠ .lck ∧ σ[i]? = some (some (.ref a))
theorem Mu.acc {σ : L2.St} {r : Env} {a : Addr} : Mu σ r a → Acc σ r a := fun ⟨i, m, xs, h, _, e⟩ => ⟨i, m, xs, h, e⟩
/-- nothing that a name holds comes to T or to a list that another name owns -/
structure ER (K : PySem.W.Frag) (H : Hp) (T : Addr → Prop) (σ : L2.St) (r : Env) : Prop where
  len : σ.length = r.length
  val : ∀ i d, gets r i = .val d → ∃ v, σ[i]? = some (some v) ∧ Rep K H (fun b => T b ∨ Acc σ r b) v d
  acc : ∀ i m xs, gets r i = .acc m xs → ∃ a vs, σ[i]? = some (some (.ref a)) ∧ ¬ T a ∧ H a = some (.lst vs) ∧ Reps K H (fun b => T b ∨ Acc σ r b) vs xs ∧ xs.length ≤ sizeLine
  inj : ∀ i j m m' xs ys a, gets r i = .acc m xs → gets r j = .acc m' ys → σ[i]? = some (some (.ref a)) → σ[j]? = some (some (.ref a)) → i = j
  tal : ∀ a, T a → H a ≠ none

def ownA : W → V → List Addr
  | .own _, .ref a => [a]
  | _, _ => []
def owns : List W → List V → List Addr
  | w :: ws, v :: vs => ownA w v ++ owns ws vs
  | _, _ => []
/-- T and the new lists among the results -/
def Tw (T : Addr → Prop) (ws : List W) (vs : List V) : Addr → Prop := fun b => T b ∨ b ∈ owns ws vs
def WR (K : PySem.W.Frag) (H : Hp) (T : Addr → Prop) (σ : L2.St) (r : Env) : W → V → Prop
  | .val d, v => Rep K H (fun b => T b ∨ Acc σ r b) v d
  | .own xs, v => ∃ a vs, v = .ref a ∧ T a ∧ H a = some (.lst vs) ∧ Reps K H (fun b => T b ∨ Acc σ r b) vs xs ∧ xs.length ≤ sizeLine
  | .slot i, v => σ[i]? = some (some v)
inductive WRs (K : PySem.W.Frag) (H : Hp) (T : Addr → Prop) (σ : L2.St) (r : Env) : List W → List V → Prop
  | nil : WRs K H T σ r [] []
  | cons {w : W} {v : V} {ws : List W} {vs : List V} : WR K H T σ r w v → WRs K H T σ r ws vs → WRs K H T σ r (w :: ws) (v :: vs)

/-- from (H, σ, r) on: the results ws at vs, behind them (H', σ', r') -/
structure Po (K : PySem.W.Frag) (H : Hp) (T : Addr → Prop) (σ : L2.St) (r : Env) (σ' : L2.St) (r' : Env) (ws : List W) (vs : List V) (H' : Hp) : Prop where
  t0 : ∀ a, T a → H a ≠ none
  frame : ∀ b o, H b = some o → ¬ Mu σ r b → H' b = some o
  pers : ∀ b, H b ≠ none → H' b ≠ none
  env : ER K H' (Tw T ws vs) σ' r'
  res : WRs K H' (Tw T ws vs) σ' r' ws vs
  fresh : ∀ b ∈ owns ws vs, H b = none
  nd : (owns ws vs).Nodup
  news : ∀ a, Acc σ' r' a → Acc σ r a ∨ H a = none
  mun : ∀ a, Mu σ' r' a → Mu σ r a ∨ H a = none
  keep : ∀ i m xs, gets r i = .acc m xs → m ≠ .free → (∃ ys, gets r' i = .acc m ys ∧ (m = .lck → ys = xs)) ∧ σ'[i]? = σ[i]?

section
variable {K : PySem.W.Frag} {H H' H1 H2 : Hp} {T T' : Addr → Prop} {σ σ' σ1 σ2 : L2.St} {r r' r1 r2 : Env} {ws us : List W} {vs zs : List V} {w : W} {v : V}
theorem ER.lists (h : ER K H T σ r) : ∀ b, Mu σ r b → ∃ xs, H b = some (.lst xs) := fun b ⟨i, m, xs, e, _, e2⟩ => by
  obtain ⟨a, vs, e3, _, e4, _⟩ := h.acc i m xs e
  rw [e2] at e3; cases e3
  exact ⟨vs, e4⟩
theorem ER.accT (h : ER K H T σ r) {a : Addr} (x : Acc σ r a) : ¬ T a ∧ H a ≠ none := by
  obtain ⟨i, m, xs, e, e2⟩ := x
  obtain ⟨a', vs, e3, n, e4, _⟩ := h.acc i m xs e
  rw [e2] at e3; cases e3
  exact ⟨n, by rw [e4]; simp⟩
theorem ER.sub (h : ER K H T σ r) (hT : ∀ b, T' b → T b) : ER K H T' σ r :=
  ⟨h.len, fun i d e => let ⟨v, e1, e2⟩ := h.val i d e; ⟨v, e1, e2.anti fun b z => z.imp (hT b) id⟩,
    fun i m xs e => let ⟨a, vs, e1, e2, e3, e4, e5⟩ := h.acc i m xs e; ⟨a, vs, e1, fun z => e2 (hT a z), e3, e4.anti fun b z => z.imp (hT b) id, e5⟩, h.inj, fun a z => h.tal a (hT a z)⟩
/-- the heap has grown -/
theorem ER.grow (h : ER K H T σ r) (k : ∀ b o, H b = some o → H' b = some o) (hn : ∀ b, T' b → T b ∨ H b = none) (ht : ∀ b, T' b → H' b ≠ none) : ER K H' T' σ r := by
  have hN : ∀ b, (T' b ∨ Acc σ r b) → (T b ∨ Acc σ r b) ∨ H b = none := fun b z => by
    rcases z with z | z
    · rcases hn b z with z | z
      · exact .inl (.inl z)
      · exact .inr z
    · exact .inl (.inr z)
  refine ⟨h.len, fun i d e => let ⟨v, e1, e2⟩ := h.val i d e; ⟨v, e1, Rep.stab (.grow k hN) e2⟩, fun i m xs e => ?_, h.inj, ht⟩
  obtain ⟨a, vs, e1, e2, e3, e4, e5⟩ := h.acc i m xs e
  refine ⟨a, vs, e1, fun z => ?_, k a _ e3, Reps.stab (.grow k hN) e4, e5⟩
  rcases hn a z with z | z
  · exact e2 z
  · rw [e3] at z; cases z
theorem owns_app : ∀ {ws us : List W} {vs zs : List V}, ws.length = vs.length → owns (ws ++ us) (vs ++ zs) = owns ws vs ++ owns us zs
  | [], _, [], _, _ => rfl
  | w :: ws, us, v :: vs, zs, h => by
    show ownA w v ++ owns (ws ++ us) (vs ++ zs) = (ownA w v ++ owns ws vs) ++ owns us zs
    rw [owns_app (by simpa using h), List.append_assoc]
  | [], _, _ :: _, _, h => by simp at h
  | _ :: _, _, [], _, h => by simp at h
theorem WRs.length : ∀ {ws : List W} {vs : List V}, WRs K H T σ r ws vs → ws.length = vs.length
  | _, _, .nil => rfl
  | _, _, .cons _ h => congrArg (· + 1) (WRs.length h)
theorem WRs.append : ∀ {ws us : List W} {vs zs : List V}, WRs K H T σ r ws vs → WRs K H T σ r us zs → WRs K H T σ r (ws ++ us) (vs ++ zs)
  | _, _, _, _, .nil, g => g
  | _, _, _, _, .cons h t, g => .cons h (WRs.append t g)
theorem Tw_nil : Tw T [] [] = T := funext fun b => propext ⟨fun h => h.elim id fun z => absurd (show b ∈ ([] : List Addr) from z) (by simp), .inl⟩
theorem Tw_app (h : ws.length = vs.length) : Tw (Tw T ws vs) us zs = Tw T (ws ++ us) (vs ++ zs) := funext fun b => propext (by
  unfold Tw
  rw [owns_app h, List.mem_append, or_assoc])
/-- results a step later -/
theorem WR.stab (h : WR K H T σ r w v) (E : ER K H T σ r) (frame : ∀ b o, H b = some o → ¬ Mu σ r b → H' b = some o) (news : ∀ a, Acc σ' r' a → Acc σ r a ∨ H a = none) (hT : ∀ b, T b → T' b) (hn : ∀ b, T' b → T b ∨ H b = none)
    (hs : ∀ i, w = .slot i → σ'[i]? = σ[i]?) : WR K H' T' σ' r' w v := by
  have st : Stab H H' (Mu σ r) (fun b => T b ∨ Acc σ r b) (fun b => T' b ∨ Acc σ' r' b) := ⟨frame, E.lists, fun b z => .inr z.acc, fun b z => by
    rcases z with z | z
    · rcases hn b z with z | z
      · exact .inl (.inl z)
      · exact .inr z
    · rcases news b z with z | z
      · exact .inl (.inr z)
      · exact .inr z⟩
  cases w with
  | val d => exact Rep.stab st h
  | own xs =>
    obtain ⟨a, vs, e, t, e1, e2, e3⟩ := h
    exact ⟨a, vs, e, hT a t, frame a _ e1 (fun z => (E.accT z.acc).1 t), Reps.stab st e2, e3⟩
  | slot i => exact (hs i rfl).trans h
theorem WRs.stab : ∀ {ws : List W} {vs : List V}, WRs K H T σ r ws vs → ER K H T σ r → (∀ b o, H b = some o → ¬ Mu σ r b → H' b = some o) → (∀ a, Acc σ' r' a → Acc σ r a ∨ H a = none) → (∀ b, T b → T' b) → (∀ b, T' b → T b ∨ H b = none) →
    (∀ i, W.slot i ∈ ws → σ'[i]? = σ[i]?) → WRs K H' T' σ' r' ws vs
  | _, _, .nil, _, _, _, _, _, _ => .nil
  | _, _, .cons h t, E, f, n, hT, hn, hs => .cons (h.stab E f n hT hn fun i e => hs i (by rw [e]; exact List.mem_cons_self)) (t.stab E f n hT hn fun i e => hs i (List.mem_cons_of_mem _ e))

theorem Po.refl (E : ER K H T σ r) : Po K H T σ r σ r [] [] H where
  t0 := E.tal
  frame := fun _ _ e _ => e
  pers := fun _ h => h
  env := by rw [Tw_nil]; exact E
  res := .nil
  fresh := fun _ z => by cases z
  nd := List.nodup_nil
  news := fun _ z => .inl z
  mun := fun _ z => .inl z
  keep := fun i m xs e _ => ⟨⟨xs, e, fun _ => rfl⟩, rfl⟩
theorem Po.trans (p : Po K H T σ r σ1 r1 ws vs H1) (q : Po K H1 (Tw T ws vs) σ1 r1 σ2 r2 us zs H2) (hs : ∀ i, W.slot i ∈ ws → σ2[i]? = σ1[i]?) : Po K H T σ r σ2 r2 (ws ++ us) (vs ++ zs) H2 := by
  have hl := p.res.length
  have back : ∀ b, H1 b = none → H b = none := fun b e => Classical.byContradiction fun n => p.pers b n e
  have frame : ∀ b o, H b = some o → ¬ Mu σ r b → H2 b = some o := fun b o e n => q.frame b o (p.frame b o e n) fun z => (p.mun b z).elim n fun z => by rw [e] at z; cases z
  refine ⟨p.t0, frame, fun b h => q.pers b (p.pers b h), ?_, ?_, fun b hb => ?_, ?_, fun a x => ?_, fun a x => ?_, fun i m xs e nf => ?_⟩
  · rw [← Tw_app hl]; exact q.env
  · refine .append ?_ (by rw [← Tw_app hl]; exact q.res)
    refine p.res.stab p.env q.frame q.news (fun b z => ?_) (fun b z => ?_) hs
    · rw [← Tw_app hl]; exact .inl z
    · rw [← Tw_app hl] at z
      exact z.imp id (q.fresh b)
  · rw [owns_app hl] at hb
    rcases List.mem_append.mp hb with hb | hb
    · exact p.fresh b hb
    · exact back b (q.fresh b hb)
  · rw [owns_app hl]
    refine List.nodup_append.mpr ⟨p.nd, q.nd, fun a ha b hb e => ?_⟩
    subst e
    exact p.env.tal a (.inr ha) (q.fresh a hb)
  · rcases q.news a x with x | x
    · exact p.news a x
    · exact .inr (back a x)
  · rcases q.mun a x with x | x
    · exact p.mun a x
    · exact .inr (back a x)
  · obtain ⟨⟨ys, e1, l1⟩, s1⟩ := p.keep i m xs e nf
    obtain ⟨⟨zs, e2, l2⟩, s2⟩ := q.keep i m ys e1 nf
    exact ⟨⟨zs, e2, fun z => (l2 z).trans (l1 z)⟩, s2.trans s1⟩
/-- some results dropped -/
theorem Po.drop (p : Po K H T σ r σ1 r1 ws vs H1) : Po K H T σ r σ1 r1 [] [] H1 :=
  ⟨p.t0, p.frame, p.pers, by rw [Tw_nil]; exact p.env.sub fun b z => .inl z, .nil, fun b z => absurd (show b ∈ ([] : List Addr) from z) (by simp), List.nodup_nil, p.news, p.mun, p.keep⟩

/-- what an operation on values leaves -/
structure Op1 (K : PySem.W.Frag) (H : Hp) (N : Addr → Prop) (w : W) (v : V) (H' : Hp) : Prop where
  grow : ∀ b o, H b = some o → H' b = some o
  res : match w with
    | .val d => Rep K H' N v d
    | .own xs => ∃ a vs, v = .ref a ∧ H a = none ∧ H' a = some (.lst vs) ∧ Reps K H N vs xs ∧ xs.length ≤ sizeLine
    | .slot _ => False
theorem Po.op (p : Po K H T σ r σ1 r1 ws vs H1) (o : Op1 K H1 (fun b => Tw T ws vs b ∨ Acc σ1 r1 b) w v H2) : Po K H T σ r σ1 r1 [w] [v] H2 := by
  have back : ∀ b, H1 b = none → H b = none := fun b e => Classical.byContradiction fun n => p.pers b n e
  have pers : ∀ b, H1 b ≠ none → H2 b ≠ none := fun b h z => by
    cases q : H1 b with
    | none => exact h q
    | some u => rw [o.grow b u q] at z; cases z
  have base : ∀ (hf : ∀ b ∈ owns [w] [v], H1 b = none ∧ H2 b ≠ none) (hr : WR K H2 (Tw T [w] [v]) σ1 r1 w v) (hnd : (owns [w] [v]).Nodup), Po K H T σ r σ1 r1 [w] [v] H2 := fun hf hr hnd =>
    ⟨p.t0, fun b u e n => o.grow b u (p.frame b u e n), fun b h => pers b (p.pers b h),
      p.env.grow o.grow (fun b z => z.elim (fun z => .inl (.inl z)) fun z => .inr (hf b z).1) (fun b z => z.elim (fun z => pers b (p.env.tal b (.inl z))) fun z => (hf b z).2),
      .cons hr .nil, fun b hb => back b (hf b hb).1, hnd, p.news, p.mun, p.keep⟩
  cases w with
  | val d =>
    have h : Rep K H2 _ v d := o.res
    refine base (fun b hb => ?_) ?_ ?_
    · cases hb
    · exact h.anti fun b z => z.elim (fun z => .inl (z.elim .inl fun z => by cases z)) .inr
    · exact List.nodup_nil
  | own xs =>
    obtain ⟨a, us, e, e1, e2, e3, e4⟩ := o.res
    subst e
    refine base (fun b hb => ?_) ⟨a, us, rfl, .inr (List.mem_singleton.mpr rfl), e2, Reps.stab (.grow o.grow fun b z => ?_) e3, e4⟩ ?_
    · have hb' : b ∈ [a] := hb
      rw [List.mem_singleton] at hb'
      subst hb'
      exact ⟨e1, by rw [e2]; simp⟩
    · rcases z with (z | z) | z
      · exact .inl (.inl (.inl z))
      · have z' : b ∈ [a] := z
        rw [List.mem_singleton] at z'
        subst z'
        exact .inr e1
      · exact .inl (.inr z)
    · show [a].Nodup
      simp
  | slot i => exact o.res.elim

/-- a value as it is seen: of a list the list alone may be come to by a name -/
def VR (K : PySem.W.Frag) (H : Hp) (N : Addr → Prop) (v : V) : D → Prop
  | .lst xs => ∃ a vs, v = .ref a ∧ H a = some (.lst vs) ∧ Reps K H N vs xs ∧ xs.length ≤ sizeLine
  | d => Rep K H N v d
theorem VR.of {N : Addr → Prop} {d : D} (h : Rep K H N v d) : VR K H N v d := by
  cases d with
  | lst xs => cases h with | lst h0 h1 h2 h3 => exact ⟨_, _, rfl, h1, h2, h3⟩
  | _ => exact h
theorem WR.view {d : D} (h : WR K H T σ r w v) (E : ER K H T σ r) (e : view r w = some d) : VR K H (fun b => T b ∨ Acc σ r b) v d := by
  cases w with
  | val d' => cases e; exact .of h
  | own xs =>
    cases e
    obtain ⟨a, vs, e, _, e1, e2, e3⟩ := h
    exact ⟨a, vs, e, e1, e2, e3⟩
  | slot i =>
    have h : σ[i]? = some (some v) := h
    have e : (match gets r i with
      | .val d => some d
      | .acc _ xs => some (.lst xs)
      | .no => none) = some d := e
    cases q : gets r i with
    | no => rw [q] at e; cases e
    | val d' =>
      rw [q] at e; cases e
      obtain ⟨v', e1, e2⟩ := E.val i _ q
      rw [h] at e1; cases e1
      exact .of e2
    | acc m xs =>
      rw [q] at e; cases e
      obtain ⟨a, vs, e1, _, e2, e3, e4⟩ := E.acc i m xs q
      rw [h] at e1; cases e1
      exact ⟨a, vs, rfl, e2, e3, e4⟩
inductive VRs (K : PySem.W.Frag) (H : Hp) (N : Addr → Prop) : List V → List D → Prop
  | nil : VRs K H N [] []
  | cons {v : V} {d : D} {vs : List V} {ds : List D} : VR K H N v d → VRs K H N vs ds → VRs K H N (v :: vs) (d :: ds)
theorem WRs.views (E : ER K H T σ r) : ∀ {ws : List W} {vs : List V} {ds : List D}, WRs K H T σ r ws vs → MP.views r ws = some ds → VRs K H (fun b => T b ∨ Acc σ r b) vs ds
  | _, _, _, .nil, e => by cases e; exact .nil
  | _, _, _, .cons (w := w) (ws := ws) h t, e => by
    unfold MP.views at e
    cases q1 : MP.view r w with
    | none => rw [q1] at e; cases e
    | some d =>
      cases q2 : MP.views r ws with
      | none => rw [q1, q2] at e; cases e
      | some ds =>
        rw [q1, q2] at e
        cases e
        exact .cons (h.view E q1) (t.views E q2)
end
end MP

-- part Mp2
/-! Stores: a list handed on, changed, given a name; targets. -/
namespace MP
open PySem PySem.Spec PyProof.Rows L2

theorem R.bind_inv {α β : Type} {x : R α} {f : α → Env → R β} {b : β} {r : Env} (e : x.bind f = .ok b r) : ∃ a r1, x = .ok a r1 ∧ f a r1 = .ok b r := by
  cases x with
  | ok a r1 => exact ⟨a, r1, rfl, e⟩
  | exc x r1 => cases e
  | no => cases e
theorem R.ofO_inv {α : Type} {r r' : Env} {o : Option α} {a : α} (e : R.ofO r o = .ok a r') : o = some a ∧ r' = r := by
  cases o with
  | none => cases e
  | some b => cases e; exact ⟨rfl, rfl⟩
theorem gets_sets {r : Env} {i j : Nat} {s : Sl} : gets (sets r i s) j = if j = i ∧ i < r.length then s else gets r j := by
  by_cases h : j = i
  · subst h
    by_cases hl : j < r.length
    · rw [gets_sets_same hl, if_pos ⟨rfl, hl⟩]
    · rw [if_neg fun z => hl z.2]
      have a : gets (sets r j s) j = .no := Classical.byContradiction fun n => hl (by have := gets_lt n; rwa [sets_length] at this)
      have b : gets r j = .no := Classical.byContradiction fun n => hl (gets_lt n)
      rw [a, b]
  · rw [gets_sets_ne h, if_neg fun z => h z.1]

section
variable {K : PySem.W.Frag} {H H' H1 H2 : Hp} {T T' : Addr → Prop} {σ σ' σ1 σ2 : L2.St} {r r' r1 r2 : Env} {ws us : List W} {vs zs : List V} {w : W} {v : V} {i : Nat} {d : D} {xs ys : List D} {a b : Addr} {m : Md}

theorem acc_sets {s : Sl} (h : Acc σ (sets r i s) b) : Acc σ r b ∨ ∃ m xs, s = .acc m xs ∧ σ[i]? = some (some (.ref b)) := by
  obtain ⟨j, m, xs, e, e2⟩ := h
  rw [gets_sets] at e
  split at e
  · rename_i hj
    rw [hj.1] at e2
    exact .inr ⟨m, xs, e, e2⟩
  · exact .inl ⟨j, m, xs, e, e2⟩
theorem mu_sets {s : Sl} (h : Mu σ (sets r i s) b) : Mu σ r b ∨ ∃ m xs, s = .acc m xs ∧ m ≠ .lck ∧ σ[i]? = some (some (.ref b)) := by
  obtain ⟨j, m, xs, e, nl, e2⟩ := h
  rw [gets_sets] at e
  split at e
  · rename_i hj
    rw [hj.1] at e2
    exact .inr ⟨m, xs, e, nl, e2⟩
  · exact .inl ⟨j, m, xs, e, nl, e2⟩

/-- a list is given up: it is a value from now on -/
theorem ER.freeze (E : ER K H T σ r) (e : gets r i = .acc m xs) : ER K H T σ (sets r i (.val (.lst xs))) ∧ (∀ b, Acc σ (sets r i (.val (.lst xs))) b → Acc σ r b) ∧ (∀ b, Mu σ (sets r i (.val (.lst xs))) b → Mu σ r b) ∧
    ∀ a, σ[i]? = some (some (.ref a)) → ¬ Acc σ (sets r i (.val (.lst xs))) a := by
  have hi : i < r.length := gets_lt (by rw [e]; exact Sl.noConfusion)
  have h1 : ∀ b, Acc σ (sets r i (.val (.lst xs))) b → Acc σ r b := fun b x => by
    rcases acc_sets x with x | ⟨_, _, z, _⟩
    · exact x
    · cases z
  have h2 : ∀ b, Mu σ (sets r i (.val (.lst xs))) b → Mu σ r b := fun b x => by
    rcases mu_sets x with x | ⟨_, _, z, _⟩
    · exact x
    · cases z
  have h3 : ∀ a, σ[i]? = some (some (.ref a)) → ¬ Acc σ (sets r i (.val (.lst xs))) a := fun a ea ⟨j, m', ys, e2, e3⟩ => by
    rw [gets_sets] at e2
    split at e2
    · cases e2
    · rename_i hj
      exact hj ⟨(E.inj i j m m' xs ys a e e2 ea e3).symm, hi⟩
  refine ⟨⟨E.len.trans sets_length.symm, fun j d' e2 => ?_, fun j m' ys e2 => ?_, fun j k m1 m2 x1 x2 a e1 e2 e3 e4 => ?_, E.tal⟩, h1, h2, h3⟩
  · rw [gets_sets] at e2
    split at e2
    · rename_i hj
      cases e2
      obtain ⟨a, vs, e1, e4, e5, e6, e7⟩ := E.acc i m xs e
      refine ⟨.ref a, by rw [hj.1]; exact e1, .lst (fun z => z.elim e4 (h3 a e1)) e5 (e6.anti fun b z => z.imp id (h1 b)) e7⟩
    · obtain ⟨v, e3, e4⟩ := E.val j d' e2
      exact ⟨v, e3, e4.anti fun b z => z.imp id (h1 b)⟩
  · rw [gets_sets] at e2
    split at e2
    · cases e2
    · obtain ⟨a, vs, e1, e4, e5, e6, e7⟩ := E.acc j m' ys e2
      exact ⟨a, vs, e1, e4, e5, e6.anti fun b z => z.imp id (h1 b), e7⟩
  · rw [gets_sets] at e1 e2
    split at e1
    · cases e1
    · split at e2
      · cases e2
      · exact E.inj j k m1 m2 x1 x2 a e1 e2 e3 e4

theorem take_slot (e : take (.slot i) r = .ok d r') : (gets r i = .val d ∧ r' = r) ∨ ∃ xs, gets r i = .acc .free xs ∧ d = .lst xs ∧ r' = sets r i (.val (.lst xs)) := by
  unfold take at e
  dsimp only at e
  cases q : gets r i with
  | no => rw [q] at e; cases e
  | val d' => rw [q] at e; cases e; exact .inl ⟨rfl, rfl⟩
  | acc m xs =>
    rw [q] at e
    cases m with
    | free => cases e; exact .inr ⟨xs, rfl, rfl, rfl⟩
    | fix => cases e
    | lck => cases e

/-- a result handed on for good -/
theorem Po.take (p : Po K H T σ r σ1 r1 (w :: ws) (v :: vs) H1) (e : take w r1 = .ok d r2) : Po K H T σ r σ1 r2 (.val d :: ws) (v :: vs) H1 := by
  have hT : ∀ b, Tw T (.val d :: ws) (v :: vs) b → Tw T (w :: ws) (v :: vs) b := fun b z => z.imp id fun z => List.mem_append_right _ z
  have key : ∀ (r2 : Env), ER K H1 (Tw T (.val d :: ws) (v :: vs)) σ1 r2 → (∀ b, Acc σ1 r2 b → Acc σ1 r1 b) → (∀ b, Mu σ1 r2 b → Mu σ1 r1 b) → (∀ i m xs, gets r i = .acc m xs → m ≠ .free → ∃ ys, gets r2 i = .acc m ys ∧ (m = .lck → ys = xs)) →
      Rep K H1 (fun b => Tw T (.val d :: ws) (v :: vs) b ∨ Acc σ1 r2 b) v d → Po K H T σ r σ1 r2 (.val d :: ws) (v :: vs) H1 := fun r2 E2 ha hm hk hr => by
    refine ⟨p.t0, p.frame, p.pers, E2, ?_, fun b hb => p.fresh b (List.mem_append_right _ hb), (List.nodup_append.mp p.nd).2.1, fun b x => p.news b (ha b x), fun b x => p.mun b (hm b x), fun i m xs e nf => ⟨hk i m xs e nf, (p.keep i m xs e nf).2⟩⟩
    cases p.res with
    | cons h t =>
      refine .cons hr ?_
      have go : ∀ {us : List W} {zs : List V}, WRs K H1 (Tw T (w :: ws) (v :: vs)) σ1 r1 us zs → (∀ b ∈ owns us zs, b ∈ owns ws vs) → WRs K H1 (Tw T (.val d :: ws) (v :: vs)) σ1 r2 us zs := fun {us zs} h => by
        induction h with
        | nil => exact fun _ => .nil
        | cons g t ih =>
          rename_i w' v' us' zs'
          intro hsub
          refine .cons ?_ (ih fun b hb => hsub b (List.mem_append_right _ hb))
          cases w' with
          | val d' => exact Rep.anti g fun b z => z.imp (hT b) (ha b)
          | own xs =>
            obtain ⟨a, us, e, t, e1, e2, e3⟩ := g
            subst e
            exact ⟨a, us, rfl, .inr (hsub a (List.mem_append_left _ (List.mem_singleton.mpr rfl))), e1, e2.anti fun b z => z.imp (hT b) (ha b), e3⟩
          | slot i => exact g
      exact go t fun b hb => hb
  have hk := fun i m xs e nf => (p.keep i m xs e nf).1
  cases w with
  | val d' =>
    cases e
    exact p
  | own xs =>
    cases e
    refine key r1 (p.env.sub hT) (fun _ z => z) (fun _ z => z) hk ?_
    cases p.res with
    | cons h t =>
      obtain ⟨a, us, e, t, e1, e2, e3⟩ := h
      subst e
      have ha : a ∈ owns (.own xs :: ws) (.ref a :: vs) := List.mem_append_left _ (List.mem_singleton.mpr rfl)
      refine .lst (fun z => ?_) e1 (e2.anti fun b z => z.imp (hT b) id) e3
      rcases z with (z | z) | z
      · exact p.t0 a z (p.fresh a ha)
      · exact (List.nodup_append.mp p.nd).2.2 a (List.mem_singleton.mpr rfl) a z rfl
      · exact (p.env.accT z).1 t
  | slot i =>
    have hs : σ1[i]? = some (some v) := by
      cases p.res with
      | cons h t => exact h
    rcases take_slot e with ⟨q, e2⟩ | ⟨xs, q, e1, e2⟩
    · subst e2
      refine key r2 (p.env.sub hT) (fun _ z => z) (fun _ z => z) hk ?_
      obtain ⟨v', e3, e4⟩ := p.env.val i d q
      rw [hs] at e3; cases e3
      exact e4.anti fun b z => z.imp (hT b) id
    · subst e1 e2
      obtain ⟨E2, h1, h2, h3⟩ := (p.env.sub hT).freeze q
      refine key _ E2 h1 h2 (fun j m ys e nf => ?_) ?_
      · obtain ⟨zs, e5, e6⟩ := hk j m ys e nf
        refine ⟨zs, ?_, e6⟩
        rw [gets_sets, if_neg fun z => ?_]
        · exact e5
        · rw [z.1, q] at e5
          cases e5
          exact nf rfl
      · have hi : i < r1.length := gets_lt (by rw [q]; exact Sl.noConfusion)
        obtain ⟨v', e3, e4⟩ := E2.val i (.lst xs) (by rw [gets_sets, if_pos ⟨rfl, hi⟩])
        rw [hs] at e3; cases e3
        exact e4

/-- a name's own list is changed -/
theorem Po.mut {us : List V} (p : Po K H T σ r σ1 r1 ws vs H1) (e : gets r1 i = .acc m xs) (nl : m ≠ .lck) (ea : σ1[i]? = some (some (.ref a))) (h : Reps K H1 (fun b => Tw T ws vs b ∨ Acc σ1 r1 b) us ys) (hl : ys.length ≤ sizeLine) :
    Po K H T σ r σ1 (sets r1 i (.acc m ys)) ws vs (upd H1 a (.lst us)) := by
  have hi : i < r1.length := gets_lt (by rw [e]; exact Sl.noConfusion)
  have ma : Mu σ1 r1 a := ⟨i, m, xs, e, nl, ea⟩
  have frame : ∀ b o, H1 b = some o → ¬ Mu σ1 r1 b → upd H1 a (.lst us) b = some o := fun b o e1 n => by
    rw [upd_ne fun z => n (by rw [z]; exact ma)]
    exact e1
  have ha : ∀ b, Acc σ1 (sets r1 i (.acc m ys)) b → Acc σ1 r1 b := fun b x => by
    rcases acc_sets x with x | ⟨m', _, z, e2⟩
    · exact x
    · exact ⟨i, m, xs, e, e2⟩
  have hm : ∀ b, Mu σ1 (sets r1 i (.acc m ys)) b → Mu σ1 r1 b := fun b x => by
    rcases mu_sets x with x | ⟨m', _, z, n, e2⟩
    · exact x
    · exact ⟨i, m, xs, e, nl, e2⟩
  have st : Stab H1 (upd H1 a (.lst us)) (fun b => b = a) (fun b => Tw T ws vs b ∨ Acc σ1 r1 b) (fun b => Tw T ws vs b ∨ Acc σ1 (sets r1 i (.acc m ys)) b) :=
    ⟨fun b o e1 n => by rw [upd_ne n]; exact e1, fun b z => by rw [z]; exact p.env.lists a ma, fun b z => by rw [z]; exact .inr ma.acc, fun b z => .inl (z.imp id (ha b))⟩
  have pers : ∀ b, H1 b ≠ none → upd H1 a (.lst us) b ≠ none := fun b n => by
    by_cases z : b = a
    · rw [z, upd_same]; simp
    · rw [upd_ne z]; exact n
  refine ⟨p.t0, fun b o e1 n => ?_, fun b n => pers b (p.pers b n), ⟨p.env.len.trans sets_length.symm, fun j d e2 => ?_, fun j m' zs e2 => ?_, fun j k m1 m2 x1 x2 c e1 e2 e3 e4 => ?_, fun b z => pers b (p.env.tal b z)⟩, ?_, p.fresh, p.nd, fun b x => p.news b (ha b x), fun b x => p.mun b (hm b x), fun j m' zs e2 nf => ?_⟩
  · refine frame b o (p.frame b o e1 n) fun z => ?_
    rcases p.mun b z with z | z
    · exact n z
    · rw [e1] at z; cases z
  · rw [gets_sets] at e2
    split at e2
    · cases e2
    · obtain ⟨v, e3, e4⟩ := p.env.val j d e2
      exact ⟨v, e3, e4.stab st⟩
  · rw [gets_sets] at e2
    split at e2
    · rename_i hj
      cases e2
      obtain ⟨a', vs', e3, e4, e5, e6, e7⟩ := p.env.acc i m xs e
      rw [ea] at e3; cases e3
      exact ⟨a, us, by rw [hj.1]; exact ea, e4, upd_same, h.stab st, hl⟩
    · rename_i hj
      obtain ⟨a', vs', e3, e4, e5, e6, e7⟩ := p.env.acc j m' zs e2
      refine ⟨a', vs', e3, e4, ?_, e6.stab st, e7⟩
      rw [upd_ne fun z => ?_]
      · exact e5
      · subst z
        exact hj ⟨(p.env.inj i j m m' xs zs a' e e2 ea e3).symm, hi⟩
  · rw [gets_sets] at e1 e2
    split at e1
    · rename_i h1
      split at e2
      · rename_i h2
        rw [h1.1, h2.1]
      · rw [h1.1] at e3 ⊢
        exact p.env.inj i k m m2 xs x2 c e e2 e3 e4
    · split at e2
      · rename_i h2
        rw [h2.1] at e4 ⊢
        exact p.env.inj j i m1 m x1 xs c e1 e e3 e4
      · exact p.env.inj j k m1 m2 x1 x2 c e1 e2 e3 e4
  · exact p.res.stab p.env frame (fun b x => .inl (ha b x)) (fun _ z => z) (fun _ z => .inl z) fun _ _ => rfl
  · obtain ⟨⟨zs', e3, e4⟩, e5⟩ := p.keep j m' zs e2 nf
    refine ⟨?_, e5⟩
    rw [gets_sets]
    split
    · rename_i hj
      rw [hj.1, e] at e3
      cases e3
      exact ⟨ys, rfl, fun z => (nl z).elim⟩
    · exact ⟨zs', e3, e4⟩

/-! ### stores -/
theorem put_is {s : Sl} : ∀ {r r' : Env} {i : Nat}, MP.put r i s = some r' → r' = sets r i s ∧ (∀ m xs, gets r i = .acc m xs → m = .free) ∧ i < r.length
  | [], _, _, e => by cases e
  | x :: r, r', 0, e => by
    unfold MP.put at e
    split at e
    · cases e
    · rename_i h
      cases e
      refine ⟨rfl, fun m xs q => ?_, Nat.succ_pos _⟩
      have q : x = .acc m xs := q
      subst q
      cases m with
      | free => rfl
      | fix => exact (h rfl).elim
      | lck => exact (h rfl).elim
  | x :: r, r', i + 1, e => by
    have e : (MP.put r i s).map (x :: ·) = some r' := e
    cases q : MP.put r i s with
    | none => rw [q] at e; cases e
    | some r2 =>
      rw [q] at e
      cases e
      obtain ⟨h1, h2, h3⟩ := put_is q
      exact ⟨by rw [h1]; rfl, h2, Nat.succ_lt_succ h3⟩
theorem set_at {σ : L2.St} {i j : Nat} {v : V} : (σ.set i (some v))[j]? = if j = i ∧ i < σ.length then some (some v) else σ[j]? := by
  by_cases h : j = i
  · subst h
    by_cases hl : j < σ.length
    · rw [if_pos ⟨rfl, hl⟩, List.getElem?_set_self hl]
    · rw [if_neg fun z => hl z.2, List.getElem?_eq_none (by simpa using hl), List.getElem?_eq_none (by omega)]
  · rw [if_neg fun z => h z.1, List.getElem?_set_ne (fun z => h z.symm)]
theorem mem_slots : ∀ {ws : List W} {i : Nat}, W.slot i ∈ ws → i ∈ slotsOf ws
  | [], _, h => by cases h
  | .slot j :: ws, i, h => by
    unfold slotsOf
    rcases List.mem_cons.mp h with e | h
    · cases e; exact List.mem_cons_self
    · exact List.mem_cons_of_mem _ (mem_slots h)
  | .val d :: ws, i, h => by
    unfold slotsOf
    rcases List.mem_cons.mp h with e | h
    · cases e
    · exact mem_slots h
  | .own d :: ws, i, h => by
    unfold slotsOf
    rcases List.mem_cons.mp h with e | h
    · cases e
    · exact mem_slots h
theorem ownA_own {xs : List D} (h : WR K H T σ r (.own xs) v) : ∃ a, v = .ref a ∧ ownA (.own xs) v = [a] := by
  obtain ⟨a, _, e, _⟩ := h
  subst e
  exact ⟨a, rfl, rfl⟩
/-- a value gets a name -/
theorem Po.put {s : Sl} (p : Po K H T σ r σ1 r1 (w :: ws) (v :: vs) H1) (hw : (∃ d, w = .val d ∧ s = .val d) ∨ ∃ xs, w = .own xs ∧ s = .acc .free xs) (e : MP.put r1 i s = some r2) (hs : i ∉ slotsOf ws) :
    Po K H T σ r (σ1.set i (some v)) r2 ws vs H1 := by
  obtain ⟨rfl, free, hi⟩ := put_is e
  have hσ : i < σ1.length := by rw [p.env.len]; exact hi
  have hN0 : ∀ j, j ≠ i → (σ1.set i (some v))[j]? = σ1[j]? := fun j n => by rw [set_at, if_neg fun z => n z.1]
  have hNi : (σ1.set i (some v))[i]? = some (some v) := by rw [set_at, if_pos ⟨rfl, hσ⟩]
  obtain ⟨hw0, ht⟩ : WR K H1 (Tw T (w :: ws) (v :: vs)) σ1 r1 w v ∧ WRs K H1 (Tw T (w :: ws) (v :: vs)) σ1 r1 ws vs := by
    cases p.res with
    | cons h t => exact ⟨h, t⟩
  have nd2 := List.nodup_append.mp p.nd
  -- what is owned now
  have ha : ∀ b, Acc (σ1.set i (some v)) (sets r1 i s) b → (Acc σ1 r1 b ∧ ¬ b ∈ ownA w v) ∨ b ∈ ownA w v := fun b x => by
    obtain ⟨j, m, xs, e1, e2⟩ := x
    rw [gets_sets] at e1
    split at e1
    · rename_i hj
      rw [hj.1, hNi] at e2
      cases e2
      rcases hw with ⟨d, rfl, rfl⟩ | ⟨ys, rfl, rfl⟩
      · cases e1
      · exact .inr (List.mem_singleton.mpr rfl)
    · rename_i hj
      have hj' : j ≠ i := fun z => hj ⟨z, hi⟩
      rw [hN0 j hj'] at e2
      have x : Acc σ1 r1 b := ⟨j, m, xs, e1, e2⟩
      exact .inl ⟨x, fun z => (p.env.accT x).1 (.inr (List.mem_append_left _ z))⟩
  have hm : ∀ b, Mu (σ1.set i (some v)) (sets r1 i s) b → Mu σ1 r1 b ∨ b ∈ ownA w v := fun b x => by
    obtain ⟨j, m, xs, e1, nl, e2⟩ := x
    rw [gets_sets] at e1
    split at e1
    · rename_i hj
      rw [hj.1, hNi] at e2
      cases e2
      rcases hw with ⟨d, rfl, rfl⟩ | ⟨ys, rfl, rfl⟩
      · cases e1
      · exact .inr (List.mem_singleton.mpr rfl)
    · rename_i hj
      have hj' : j ≠ i := fun z => hj ⟨z, hi⟩
      rw [hN0 j hj'] at e2
      exact .inl ⟨j, m, xs, e1, nl, e2⟩
  have hN : ∀ b, (Tw T ws vs b ∨ Acc (σ1.set i (some v)) (sets r1 i s) b) → (Tw T (w :: ws) (v :: vs) b ∨ Acc σ1 r1 b) := fun b z => by
    rcases z with (z | z) | z
    · exact .inl (.inl z)
    · exact .inl (.inr (List.mem_append_right _ z))
    · rcases ha b z with z | z
      · exact .inr z.1
      · exact .inl (.inr (List.mem_append_left _ z))
  have hTs : ∀ b, Tw T ws vs b → Tw T (w :: ws) (v :: vs) b := fun b z => z.imp id fun z => List.mem_append_right _ z
  have hfr : ∀ b ∈ ownA w v, H b = none := fun b z => p.fresh b (List.mem_append_left _ z)
  refine ⟨p.t0, p.frame, p.pers, ⟨?_, fun j d e1 => ?_, fun j m xs e1 => ?_, fun j k m1 m2 x1 x2 c e1 e2 e3 e4 => ?_, fun b z => p.env.tal b (hTs b z)⟩, ?_, fun b hb => p.fresh b (List.mem_append_right _ hb), nd2.2.1, fun b x => ?_, fun b x => ?_, fun j m xs e1 nf => ?_⟩
  · rw [List.length_set, sets_length]; exact p.env.len
  · rw [gets_sets] at e1
    split at e1
    · rename_i hj
      rcases hw with ⟨d', rfl, rfl⟩ | ⟨ys, rfl, rfl⟩
      · cases e1
        exact ⟨v, by rw [hj.1]; exact hNi, Rep.anti hw0 hN⟩
      · cases e1
    · rename_i hj
      obtain ⟨u, e2, e3⟩ := p.env.val j d e1
      exact ⟨u, by rw [hN0 j fun z => hj ⟨z, hi⟩]; exact e2, e3.anti hN⟩
  · rw [gets_sets] at e1
    split at e1
    · rename_i hj
      rcases hw with ⟨d', rfl, rfl⟩ | ⟨ys, rfl, rfl⟩
      · cases e1
      · cases e1
        obtain ⟨a, us, e2, t, e3, e4, e5⟩ := hw0
        subst e2
        refine ⟨a, us, by rw [hj.1]; exact hNi, fun z => ?_, e3, e4.anti hN, e5⟩
        rcases z with z | z
        · exact p.t0 a z (p.fresh a (List.mem_append_left _ (List.mem_singleton.mpr rfl)))
        · exact nd2.2.2 a (List.mem_singleton.mpr rfl) a z rfl
    · rename_i hj
      obtain ⟨a, us, e2, t, e3, e4, e5⟩ := p.env.acc j m xs e1
      exact ⟨a, us, by rw [hN0 j fun z => hj ⟨z, hi⟩]; exact e2, fun z => t (hTs a z), e3, e4.anti hN, e5⟩
  · -- one name a list
    have other : ∀ (j : Nat) (m : Md) (x : List D), gets r1 j = .acc m x → j ≠ i → σ1[j]? = some (some (.ref c)) → ¬ c ∈ ownA w v := fun j m x e1 n e2 z => (p.env.accT ⟨j, m, x, e1, e2⟩).1 (.inr (List.mem_append_left _ z))
    have own : ∀ m x, s = .acc m x → v = .ref c → c ∈ ownA w v := fun m x e1 e2 => by
      subst e2
      rcases hw with ⟨d', rfl, rfl⟩ | ⟨ys, rfl, rfl⟩
      · cases e1
      · exact List.mem_singleton.mpr rfl
    rw [gets_sets] at e1 e2
    split at e1
    · rename_i h1
      rw [h1.1, hNi] at e3
      split at e2
      · rename_i h2
        rw [h1.1, h2.1]
      · rename_i h2
        have hk : k ≠ i := fun z => h2 ⟨z, hi⟩
        rw [hN0 k hk] at e4
        exact (other k m2 x2 e2 hk e4 (own m1 x1 e1 (Option.some.inj (Option.some.inj e3)))).elim
    · rename_i h1
      have hj : j ≠ i := fun z => h1 ⟨z, hi⟩
      rw [hN0 j hj] at e3
      split at e2
      · rename_i h2
        rw [h2.1, hNi] at e4
        exact (other j m1 x1 e1 hj e3 (own m2 x2 e2 (Option.some.inj (Option.some.inj e4)))).elim
      · rename_i h2
        have hk : k ≠ i := fun z => h2 ⟨z, hi⟩
        rw [hN0 k hk] at e4
        exact p.env.inj j k m1 m2 x1 x2 c e1 e2 e3 e4
  · have go : ∀ {us : List W} {zs : List V}, WRs K H1 (Tw T (w :: ws) (v :: vs)) σ1 r1 us zs → (∀ b ∈ owns us zs, b ∈ owns ws vs) → (i ∉ slotsOf us) → WRs K H1 (Tw T ws vs) (σ1.set i (some v)) (sets r1 i s) us zs := fun {us zs} h => by
      induction h with
      | nil => exact fun _ _ => .nil
      | cons g t ih =>
        rename_i w' v' us' zs'
        intro hsub hsl
        refine .cons ?_ (ih (fun b hb => hsub b (List.mem_append_right _ hb)) fun z => hsl ?_)
        · cases w' with
          | val d' => exact Rep.anti g hN
          | own xs =>
            obtain ⟨a, us, e, t, e1, e2, e3⟩ := g
            subst e
            exact ⟨a, us, rfl, .inr (hsub a (List.mem_append_left _ (List.mem_singleton.mpr rfl))), e1, e2.anti hN, e3⟩
          | slot k =>
            have hk : k ≠ i := fun z => hsl (by unfold slotsOf; rw [z]; exact List.mem_cons_self)
            have g' : σ1[k]? = some (some v') := g
            show (σ1.set i (some v))[k]? = some (some v')
            rw [hN0 k hk]; exact g'
        · cases w' <;> (unfold slotsOf; first | exact z | exact List.mem_cons_of_mem _ z)
    exact go ht (fun b hb => hb) hs
  · rcases ha b x with x | x
    · exact p.news b x.1
    · exact .inr (hfr b x)
  · rcases hm b x with x | x
    · exact p.mun b x
    · exact .inr (hfr b x)
  · obtain ⟨⟨zs, e2, e3⟩, e4⟩ := p.keep j m xs e1 nf
    have hj : j ≠ i := fun z => by
      rw [z] at e2
      exact nf (free m zs e2)
    exact ⟨⟨zs, by rw [gets_sets, if_neg fun z => hj z.1]; exact e2, e3⟩, by rw [hN0 j hj]; exact e4⟩
theorem put_len {s : Sl} (e : MP.put r i s = some r') : r'.length = r.length := by
  obtain ⟨rfl, _, _⟩ := put_is e
  exact sets_length
theorem take_len (e : take w r = .ok d r') : r'.length = r.length := by
  cases w with
  | val d => cases e; rfl
  | own xs => cases e; rfl
  | slot j =>
    rcases take_slot e with ⟨_, e⟩ | ⟨_, _, _, e⟩
    · rw [e]
    · rw [e, sets_length]
/-- any result gets a name -/
theorem Po.putW {q : Unit} (p : Po K H T σ r σ1 r1 (w :: ws) (v :: vs) H1) (e : putW r1 i w = .ok q r2) (hs : i ∉ slotsOf ws) : Po K H T σ r (σ1.set i (some v)) r2 ws vs H1 := by
  cases w with
  | val d =>
    unfold MP.putW at e
    dsimp only at e
    obtain ⟨_, _, h, e1⟩ := R.bind_inv e
    obtain ⟨h1, h2⟩ := R.ofO_inv h
    subst h2
    cases e1
    exact p.put (.inl ⟨d, rfl, rfl⟩) h1 hs
  | own xs =>
    unfold MP.putW at e
    dsimp only at e
    obtain ⟨_, _, h, e1⟩ := R.bind_inv e
    obtain ⟨h1, h2⟩ := R.ofO_inv h
    subst h2
    cases e1
    exact p.put (.inr ⟨xs, rfl, rfl⟩) h1 hs
  | slot j =>
    unfold MP.putW at e
    dsimp only at e
    obtain ⟨d, r3, h, e1⟩ := R.bind_inv e
    obtain ⟨_, _, h2, e2⟩ := R.bind_inv e1
    obtain ⟨h3, h4⟩ := R.ofO_inv h2
    subst h4
    cases e2
    exact (p.take h).put (.inl ⟨d, rfl, rfl⟩) h3 hs
theorem putW_len {q : Unit} (e : putW r i w = .ok q r') : r'.length = r.length := by
  cases w with
  | val d =>
    unfold MP.putW at e
    dsimp only at e
    obtain ⟨_, _, h, e1⟩ := R.bind_inv e
    obtain ⟨h1, h2⟩ := R.ofO_inv h
    subst h2
    cases e1
    exact put_len h1
  | own xs =>
    unfold MP.putW at e
    dsimp only at e
    obtain ⟨_, _, h, e1⟩ := R.bind_inv e
    obtain ⟨h1, h2⟩ := R.ofO_inv h
    subst h2
    cases e1
    exact put_len h1
  | slot j =>
    unfold MP.putW at e
    dsimp only at e
    obtain ⟨d, r3, h, e1⟩ := R.bind_inv e
    obtain ⟨_, _, h2, e2⟩ := R.bind_inv e1
    obtain ⟨h3, h4⟩ := R.ofO_inv h2
    subst h4
    cases e2
    exact (put_len h3).trans (take_len h)
end
end MP

-- part Mp3
/-! Calls, lists that are walked, the names of a comprehension. -/
namespace MP
open PySem PySem.Spec PyProof.Rows L2

section
variable {K : PySem.W.Frag} {H H' H1 H2 : Hp} {T T' : Addr → Prop} {σ σ' σ1 σ2 : L2.St} {r r' r1 r2 : Env} {ws us : List W} {vs zs : List V} {w : W} {v : V} {i j : Nat} {d : D} {xs ys : List D} {a b : Addr} {m : Md}

/-- results, by a smaller T -/
theorem WRs.re (h : WRs K H T σ r ws vs) (hN : ∀ b, (T' b ∨ Acc σ r' b) → (T b ∨ Acc σ r b)) (ho : ∀ b ∈ owns ws vs, T' b) : WRs K H T' σ r' ws vs := by
  induction h with
  | nil => exact .nil
  | cons g t ih =>
    rename_i w' v' us' zs'
    refine .cons ?_ (ih fun b hb => ho b (List.mem_append_right _ hb))
    cases w' with
    | val d' => exact Rep.anti g hN
    | own xs =>
      obtain ⟨a, us, e, t, e1, e2, e3⟩ := g
      subst e
      exact ⟨a, us, rfl, ho a (List.mem_append_left _ (List.mem_singleton.mpr rfl)), e1, e2.anti hN, e3⟩
    | slot i => exact g

/-! ### modes -/
def SameM (r r' : Env) : Prop := ∀ j, gets r' j = gets r j ∨ ∃ m m' xs, gets r j = .acc m xs ∧ gets r' j = .acc m' xs
theorem SameM.acc (h : SameM r r') (a : Addr) : Acc σ r' a ↔ Acc σ r a := by
  constructor
  · rintro ⟨j, m, xs, e, e2⟩
    rcases h j with q | ⟨m1, m2, ys, q1, q2⟩
    · exact ⟨j, m, xs, q ▸ e, e2⟩
    · exact ⟨j, m1, ys, q1, e2⟩
  · rintro ⟨j, m, xs, e, e2⟩
    rcases h j with q | ⟨m1, m2, ys, q1, q2⟩
    · exact ⟨j, m, xs, q.trans e, e2⟩
    · exact ⟨j, m2, ys, q2, e2⟩
theorem SameM.er (h : SameM r r') (hl : r'.length = r.length) (E : ER K H T σ r) : ER K H T σ r' := by
  have hN : ∀ b, (T b ∨ Acc σ r' b) → (T b ∨ Acc σ r b) := fun b z => z.imp id (h.acc b).mp
  have back : ∀ j m xs, gets r' j = .acc m xs → ∃ m', gets r j = .acc m' xs := fun j m xs e => by
    rcases h j with q | ⟨m1, m2, ys, q1, q2⟩
    · exact ⟨m, q ▸ e⟩
    · rw [q2] at e; cases e
      exact ⟨m1, q1⟩
  refine ⟨E.len.trans hl.symm, fun j d e => ?_, fun j m xs e => ?_, fun j k m1 m2 x1 x2 c e1 e2 e3 e4 => ?_, E.tal⟩
  · rcases h j with q | ⟨m1, m2, ys, q1, q2⟩
    · obtain ⟨v, e1, e2⟩ := E.val j d (q ▸ e)
      exact ⟨v, e1, e2.anti hN⟩
    · rw [q2] at e; cases e
  · obtain ⟨m', q⟩ := back j m xs e
    obtain ⟨a, vs, e1, e2, e3, e4, e5⟩ := E.acc j m' xs q
    exact ⟨a, vs, e1, e2, e3, e4.anti hN, e5⟩
  · obtain ⟨m1', q1⟩ := back j m1 x1 e1
    obtain ⟨m2', q2⟩ := back k m2 x2 e2
    exact E.inj j k m1' m2' x1 x2 c q1 q2 e3 e4

/-! ### lists that are walked -/
theorem lock1_at : gets (lock1 r (.slot i)) j = if j = i then (match gets r i with | .acc _ xs => .acc .lck xs | s => s) else gets r j := by
  unfold lock1
  dsimp only
  cases q : gets r i with
  | no => split <;> simp_all
  | val d => split <;> simp_all
  | acc m xs =>
    dsimp only
    have hi : i < r.length := gets_lt (by rw [q]; exact Sl.noConfusion)
    rw [gets_sets]
    by_cases h : j = i
    · rw [if_pos ⟨h, hi⟩, if_pos h]
    · rw [if_neg fun z => h z.1, if_neg h]
theorem lock1_len : (lock1 r w).length = r.length := by
  cases w with
  | val d => rfl
  | own xs => rfl
  | slot i =>
    unfold lock1
    dsimp only
    split
    · exact sets_length
    · rfl
theorem locks_len : ∀ {ws : List W} {r : Env}, (locks r ws).length = r.length
  | [], _ => rfl
  | w :: ws, r => by
    show (locks (lock1 r w) ws).length = r.length
    rw [locks_len, lock1_len]
theorem locks_out : ∀ {ws : List W} {r : Env}, j ∉ slotsOf ws → gets (locks r ws) j = gets r j
  | [], _, _ => rfl
  | .val d :: ws, r, h => locks_out (ws := ws) (r := r) h
  | .own xs :: ws, r, h => locks_out (ws := ws) (r := r) h
  | .slot i :: ws, r, h => by
    have h' : j ∉ i :: slotsOf ws := h
    rw [List.mem_cons, not_or] at h'
    show gets (locks (lock1 r (.slot i)) ws) j = _
    rw [locks_out h'.2, lock1_at, if_neg h'.1]
theorem locks_acc : ∀ {ws : List W} {r : Env} {m : Md}, gets r j = .acc m xs → ∃ m', gets (locks r ws) j = .acc m' xs ∧ ((m' = .lck ∧ j ∈ slotsOf ws) ∨ (m' = m ∧ j ∉ slotsOf ws))
  | [], r, m, e => ⟨m, e, .inr ⟨rfl, fun z => by cases z⟩⟩
  | .val d :: ws, r, m, e => locks_acc (ws := ws) (r := r) e
  | .own zs :: ws, r, m, e => locks_acc (ws := ws) (r := r) e
  | .slot i :: ws, r, m, e => by
    show ∃ m', gets (locks (lock1 r (.slot i)) ws) j = .acc m' xs ∧ ((m' = .lck ∧ j ∈ i :: slotsOf ws) ∨ (m' = m ∧ j ∉ i :: slotsOf ws))
    by_cases h : j = i
    · have e1 : gets (lock1 r (.slot i)) j = .acc .lck xs := by rw [lock1_at, if_pos h, ← h, e]
      obtain ⟨m', e2, e3⟩ := locks_acc (ws := ws) e1
      refine ⟨m', e2, .inl ⟨?_, by rw [h]; exact List.mem_cons_self⟩⟩
      rcases e3 with e3 | e3
      · exact e3.1
      · exact e3.1
    · have e1 : gets (lock1 r (.slot i)) j = .acc m xs := by rw [lock1_at, if_neg h, e]
      obtain ⟨m', e2, e3⟩ := locks_acc (ws := ws) e1
      refine ⟨m', e2, ?_⟩
      rcases e3 with e3 | e3
      · exact .inl ⟨e3.1, List.mem_cons_of_mem _ e3.2⟩
      · exact .inr ⟨e3.1, fun z => (List.mem_cons.mp z).elim h e3.2⟩
theorem locks_same : ∀ (ws : List W) (r : Env), SameM r (locks r ws)
  | [], r => fun j => .inl rfl
  | .val d :: ws, r => locks_same ws r
  | .own xs :: ws, r => locks_same ws r
  | .slot i :: ws, r => fun j => by
    have e0 : gets (lock1 r (.slot i)) j = gets r j ∨ ∃ m m' xs, gets r j = .acc m xs ∧ gets (lock1 r (.slot i)) j = .acc m' xs := by
      rw [lock1_at]
      by_cases h : j = i
      · rw [if_pos h, ← h]
        cases q : gets r j with
        | no => exact .inl rfl
        | val d => exact .inl rfl
        | acc m xs => exact .inr ⟨m, .lck, xs, rfl, rfl⟩
      · rw [if_neg h]; exact .inl rfl
    show gets (locks (lock1 r (.slot i)) ws) j = _ ∨ ∃ m m' xs, _ ∧ gets (locks (lock1 r (.slot i)) ws) j = _
    rcases locks_same ws (lock1 r (.slot i)) j with q | ⟨m1, m2, xs, q1, q2⟩
    · rcases e0 with e0 | ⟨m, m', xs, e1, e2⟩
      · exact .inl (q.trans e0)
      · exact .inr ⟨m, m', xs, e1, q.trans e2⟩
    · rcases e0 with e0 | ⟨m, m', xs', e1, e2⟩
      · exact .inr ⟨m1, m2, xs, e0 ▸ q1, q2⟩
      · rw [q1] at e2; cases e2
        exact .inr ⟨m, m2, xs, e1, q2⟩
theorem unlock1_at {r0 : Env} : gets (unlock1 r0 r (.slot i)) j = if j = i then (match gets r0 i, gets r i with | .acc m _, .acc .lck xs => .acc m xs | _, s => s) else gets r j := by
  unfold unlock1
  dsimp only
  by_cases h : j = i
  · subst h
    rw [if_pos rfl]
    cases q0 : gets r0 j with
    | no => rfl
    | val d => rfl
    | acc m ys =>
      cases q : gets r j with
      | no => exact q
      | val d => exact q
      | acc m' xs =>
        cases m' with
        | free => exact q
        | fix => exact q
        | lck =>
          dsimp only
          rw [gets_sets_same (gets_lt (by rw [q]; exact Sl.noConfusion))]
  · rw [if_neg h]
    split
    · rw [gets_sets_ne h]
    · rfl
theorem unlock1_len {r0 : Env} : (unlock1 r0 r w).length = r.length := by
  cases w with
  | val d => rfl
  | own xs => rfl
  | slot i =>
    unfold unlock1
    dsimp only
    split
    · exact sets_length
    · rfl
theorem unlocks_len {r0 : Env} : ∀ {ws : List W} {r : Env}, (unlocks r0 r ws).length = r.length
  | [], _ => rfl
  | w :: ws, r => by
    show (unlock1 r0 (unlocks r0 r ws) w).length = r.length
    rw [unlock1_len, unlocks_len]
theorem unlocks_out {r0 : Env} : ∀ {ws : List W} {r : Env}, j ∉ slotsOf ws → gets (unlocks r0 r ws) j = gets r j
  | [], _, _ => rfl
  | .val d :: ws, r, h => unlocks_out (ws := ws) (r := r) h
  | .own xs :: ws, r, h => unlocks_out (ws := ws) (r := r) h
  | .slot i :: ws, r, h => by
    have h' : j ∉ i :: slotsOf ws := h
    rw [List.mem_cons, not_or] at h'
    show gets (unlock1 r0 (unlocks r0 r ws) (.slot i)) j = _
    rw [unlock1_at, if_neg h'.1, unlocks_out h'.2]
/-- what unlocking leaves -/
theorem unlocks_at {r0 : Env} : ∀ {ws : List W} {r : Env} (j : Nat), gets (unlocks r0 r ws) j = gets r j ∨ ∃ m ys xs, j ∈ slotsOf ws ∧ gets r0 j = .acc m ys ∧ gets r j = .acc .lck xs ∧ gets (unlocks r0 r ws) j = .acc m xs
  | [], _, _ => .inl rfl
  | .val d :: ws, r, j => unlocks_at (ws := ws) (r := r) j
  | .own xs :: ws, r, j => unlocks_at (ws := ws) (r := r) j
  | .slot i :: ws, r, j => by
    show gets (unlock1 r0 (unlocks r0 r ws) (.slot i)) j = _ ∨ ∃ m ys xs, j ∈ i :: slotsOf ws ∧ _ ∧ _ ∧ gets (unlock1 r0 (unlocks r0 r ws) (.slot i)) j = _
    rw [unlock1_at]
    rcases unlocks_at (r0 := r0) (ws := ws) (r := r) j with q | ⟨m, ys, xs, q1, q2, q3, q4⟩
    · by_cases h : j = i
      · rw [if_pos h, ← h]
        cases q0 : gets r0 j with
        | no => exact .inl q
        | val d => exact .inl q
        | acc m ys =>
          cases q5 : gets (unlocks r0 r ws) j with
          | no => rw [q5] at q; exact .inl q
          | val d => rw [q5] at q; exact .inl q
          | acc m' xs =>
            rw [q5] at q
            cases m' with
            | free => exact .inl q
            | fix => exact .inl q
            | lck => exact .inr ⟨m, ys, xs, List.mem_cons_self, rfl, q.symm, rfl⟩
      · rw [if_neg h]; exact .inl q
    · refine .inr ⟨m, ys, xs, List.mem_cons_of_mem _ q1, q2, q3, ?_⟩
      by_cases h : j = i
      · rw [if_pos h, ← h, q2, q4]
        cases m <;> rfl
      · rw [if_neg h]; exact q4
theorem unlocks_same {r0 : Env} {ws : List W} {r : Env} : SameM r (unlocks r0 r ws) := fun j => by
  rcases unlocks_at (r0 := r0) (ws := ws) (r := r) j with q | ⟨m, ys, xs, q1, q2, q3, q4⟩
  · exact .inl q
  · exact .inr ⟨.lck, m, xs, q3, q4⟩
theorem unlocks_in {r0 : Env} : ∀ {ws : List W} {r : Env} {ys : List D}, j ∈ slotsOf ws → gets r0 j = .acc m ys → gets r j = .acc .lck xs → gets (unlocks r0 r ws) j = .acc m xs
  | [], _, _, h, _, _ => by cases h
  | .val d :: ws, r, _, h, e0, e => unlocks_in (ws := ws) (r := r) h e0 e
  | .own zs :: ws, r, _, h, e0, e => unlocks_in (ws := ws) (r := r) h e0 e
  | .slot i :: ws, r, ys, h, e0, e => by
    show gets (unlock1 r0 (unlocks r0 r ws) (.slot i)) j = _
    rw [unlock1_at]
    rcases unlocks_at (r0 := r0) (ws := ws) (r := r) j with q | ⟨m', ys', xs', q1, q2, q3, q4⟩
    · by_cases h2 : j = i
      · rw [if_pos h2, ← h2, e0, q, e]
      · rw [if_neg h2]
        exact unlocks_in (ws := ws) ((List.mem_cons.mp h).resolve_left h2) e0 e
    · rw [e0] at q2; cases q2
      rw [e] at q3; cases q3
      by_cases h2 : j = i
      · rw [if_pos h2, ← h2, e0, q4]
        cases m <;> rfl
      · rw [if_neg h2]; exact q4
/-- what is walked is evaluated, locked, walked, unlocked -/
theorem Po.walk (p : Po K H T σ r σ1 r1 ws vs H1) (q : Po K H1 (Tw T ws vs) σ1 (locks r1 ws) σ2 r2 us zs H2) : Po K H T σ r σ2 (unlocks r1 r2 ws) us zs H2 := by
  have back : ∀ b, H1 b = none → H b = none := fun b e => Classical.byContradiction fun n => p.pers b n e
  have muL : ∀ b, Mu σ1 (locks r1 ws) b → Mu σ1 r1 b := fun b ⟨j, m, xs, e, nl, e2⟩ => by
    rcases locks_same ws r1 j with z | ⟨m1, m2, ys, z1, z2⟩
    · exact ⟨j, m, xs, z ▸ e, nl, e2⟩
    · rw [z2] at e; cases e
      obtain ⟨m', z3, z4⟩ := locks_acc (ws := ws) z1
      rw [z2] at z3; cases z3
      rcases z4 with z4 | z4
      · exact (nl z4.1).elim
      · exact ⟨j, m1, xs, z1, by rw [← z4.1]; exact nl, e2⟩
  have sm := unlocks_same (r0 := r1) (ws := ws) (r := r2)
  have hT : ∀ b, Tw T us zs b → Tw (Tw T ws vs) us zs b := fun b z => z.imp .inl id
  refine ⟨p.t0, fun b o e n => ?_, fun b h => q.pers b (p.pers b h), (sm.er unlocks_len q.env).sub hT, q.res.re (fun b z => z.imp (hT b) (sm.acc b).mp) (fun b hb => .inr hb), fun b hb => back b (q.fresh b hb), q.nd, fun b x => ?_, fun b x => ?_, fun i m xs e nf => ?_⟩
  · refine q.frame b o (p.frame b o e n) fun z => ?_
    rcases p.mun b (muL b z) with z | z
    · exact n z
    · rw [e] at z; cases z
  · rcases q.news b ((sm.acc b).mp x) with x | x
    · exact p.news b (((locks_same ws r1).acc b).mp x)
    · exact .inr (back b x)
  · obtain ⟨j, m, xs, e, nl, e2⟩ := x
    rcases unlocks_at (r0 := r1) (ws := ws) (r := r2) j with z | ⟨m', ys, xs', z1, z2, z3, z4⟩
    · rcases q.mun b ⟨j, m, xs, z ▸ e, nl, e2⟩ with x | x
      · exact p.mun b (muL b x)
      · exact .inr (back b x)
    · rw [z4] at e; cases e
      obtain ⟨m2, e3, e4⟩ := locks_acc (ws := ws) z2
      have hm : m2 = .lck := e4.elim (fun z => z.1) fun z => (z.2 z1).elim
      subst hm
      obtain ⟨_, e5⟩ := q.keep j .lck ys e3 Md.noConfusion
      rw [e2] at e5
      exact p.mun b ⟨j, m, ys, z2, nl, e5.symm⟩
  · obtain ⟨⟨ys, e1, l1⟩, s1⟩ := p.keep i m xs e nf
    obtain ⟨m2, e3, e4⟩ := locks_acc (ws := ws) e1
    rcases e4 with ⟨rfl, hi⟩ | ⟨rfl, hi⟩
    · obtain ⟨⟨zs', e5, l5⟩, s5⟩ := q.keep i .lck ys e3 Md.noConfusion
      have := l5 rfl
      subst this
      exact ⟨⟨zs', unlocks_in hi e1 e5, l1⟩, s5.trans s1⟩
    · obtain ⟨⟨zs', e5, l5⟩, s5⟩ := q.keep i m2 ys e3 nf
      exact ⟨⟨zs', by rw [unlocks_out hi]; exact e5, fun z => (l5 z).trans (l1 z)⟩, s5.trans s1⟩
theorem Po.locked (p : Po K H T σ r σ1 r1 ws vs H1) : ER K H1 (Tw T ws vs) σ1 (locks r1 ws) ∧ WRs K H1 (Tw T ws vs) σ1 (locks r1 ws) ws vs :=
  ⟨(locks_same ws r1).er locks_len p.env, p.res.re (fun b z => z.imp id ((locks_same ws r1).acc b).mp) fun b hb => .inr hb⟩

/-! ### calls -/
theorem argS_cases {s : Sl} (e : argS r w = some s) : (∃ d, w = .val d ∧ s = .val d) ∨ ∃ i m xs, w = .slot i ∧ gets r i = .acc m xs ∧ m ≠ .lck ∧ s = .acc .fix xs := by
  cases w with
  | val d => cases e; exact .inl ⟨d, rfl, rfl⟩
  | own xs => cases e
  | slot i =>
    unfold argS at e
    dsimp only at e
    cases q : gets r i with
    | no => rw [q] at e; cases e
    | val d => rw [q] at e; cases e
    | acc m xs =>
      rw [q] at e
      cases m with
      | free => cases e; exact .inr ⟨i, .free, xs, rfl, q, Md.noConfusion, rfl⟩
      | fix => cases e; exact .inr ⟨i, .fix, xs, rfl, q, Md.noConfusion, rfl⟩
      | lck => cases e
theorem argsS_len : ∀ {ws : List W} {ss : List Sl}, argsS r ws = some ss → ss.length = ws.length
  | [], _, e => by cases e; rfl
  | w :: ws, ss, e => by
    unfold argsS at e
    cases q1 : argS r w with
    | none => rw [q1] at e; cases e
    | some s =>
      cases q2 : argsS r ws with
      | none => rw [q1, q2] at e; cases e
      | some ss' =>
        rw [q1, q2] at e; cases e
        exact congrArg (· + 1) (argsS_len q2)
/-- each argument is a value, or a list that is lent -/
theorem argsS_at : ∀ {ws : List W} {vs : List V} {ss : List Sl} (k : Nat), argsS r ws = some ss → WRs K H T σ r ws vs → gets ss k ≠ .no → ∃ w v, ws[k]? = some w ∧ vs[k]? = some v ∧ WR K H T σ r w v ∧ argS r w = some (gets ss k)
  | [], _, _, _, e, _, n => by cases e; exact (n rfl).elim
  | w :: ws, _, ss, k, e, h, n => by
    unfold argsS at e
    cases q1 : argS r w with
    | none => rw [q1] at e; cases e
    | some s =>
      cases q2 : argsS r ws with
      | none => rw [q1, q2] at e; cases e
      | some ss' =>
        rw [q1, q2] at e; cases e
        cases h with
        | cons g t =>
          cases k with
          | zero => exact ⟨_, _, rfl, rfl, g, q1⟩
          | succ k => exact argsS_at (ws := ws) k q2 t n
theorem argsS_owns : ∀ {ws : List W} {vs : List V} {ss : List Sl}, argsS r ws = some ss → owns ws vs = []
  | [], _, _, _ => by cases ‹List V› <;> rfl
  | _ :: _, [], _, _ => rfl
  | w :: ws, v :: vs, ss, e => by
    unfold argsS at e
    cases q1 : argS r w with
    | none => rw [q1] at e; cases e
    | some s =>
      cases q2 : argsS r ws with
      | none => rw [q1, q2] at e; cases e
      | some ss' =>
        have ih := argsS_owns (vs := vs) q2
        show ownA w v ++ owns ws vs = []
        rw [ih]
        rcases argS_cases q1 with ⟨d, rfl, _⟩ | ⟨i, m, xs, rfl, _⟩
        · rfl
        · rfl
theorem nodupN_iff : ∀ {l : List Nat}, nodupN l = true → l.Nodup
  | [], _ => List.nodup_nil
  | x :: l, h => by
    unfold nodupN at h
    simp only [Bool.and_eq_true, Bool.not_eq_true', List.contains_eq_mem, decide_eq_false_iff_not] at h
    exact List.nodup_cons.mpr ⟨h.1, nodupN_iff h.2⟩
/-- one name, one place -/
theorem slot_place : ∀ {ws : List W} {k l : Nat}, (slotsOf ws).Nodup → ws[k]? = some (W.slot i) → ws[l]? = some (W.slot i) → k = l
  | [], _, _, _, e, _ => by simp at e
  | w :: ws, 0, 0, _, _, _ => rfl
  | w :: ws, 0, l + 1, nd, e1, e2 => by
    simp at e1; subst e1
    have nd' : (i :: slotsOf ws).Nodup := nd
    exact ((List.nodup_cons.mp nd').1 (mem_slots (List.mem_of_getElem? (by simpa using e2)))).elim
  | w :: ws, k + 1, 0, nd, e1, e2 => by
    simp at e2; subst e2
    have nd' : (i :: slotsOf ws).Nodup := nd
    exact ((List.nodup_cons.mp nd').1 (mem_slots (List.mem_of_getElem? (by simpa using e1)))).elim
  | w :: ws, k + 1, l + 1, nd, e1, e2 => by
    have nd' : (slotsOf ws).Nodup := by
      cases w with
      | val d => exact nd
      | own xs => exact nd
      | slot j => exact (List.nodup_cons.mp (show (j :: slotsOf ws).Nodup from nd)).2
    exact congrArg (· + 1) (slot_place nd' (by simpa using e1) (by simpa using e2))
theorem backArgs_len : ∀ {ws : List W} {ss : List Sl} {r : Env}, (backArgs ws ss r).length = r.length
  | [], _, _ => by cases ‹List Sl› <;> rfl
  | w :: ws, [], _ => by cases w <;> rfl
  | .val d :: ws, s :: ss, r => by
    show (backArgs ws ss r).length = _
    exact backArgs_len
  | .own d :: ws, s :: ss, r => by
    show (backArgs ws ss r).length = _
    exact backArgs_len
  | .slot i :: ws, .no :: ss, r => by
    show (backArgs ws ss r).length = _
    exact backArgs_len
  | .slot i :: ws, .val d :: ss, r => by
    show (backArgs ws ss r).length = _
    exact backArgs_len
  | .slot i :: ws, .acc m xs :: ss, r => by
    unfold backArgs
    split
    · rw [backArgs_len, sets_length]
    · exact backArgs_len
theorem backArgs_out : ∀ {ws : List W} {ss : List Sl} {r : Env}, j ∉ slotsOf ws → gets (backArgs ws ss r) j = gets r j
  | [], _, _, _ => by cases ‹List Sl› <;> rfl
  | w :: ws, [], _, _ => by cases w <;> rfl
  | .val d :: ws, s :: ss, r, h => backArgs_out (ws := ws) (ss := ss) h
  | .own d :: ws, s :: ss, r, h => backArgs_out (ws := ws) (ss := ss) h
  | .slot i :: ws, s :: ss, r, h => by
    have h' : j ∉ i :: slotsOf ws := h
    rw [List.mem_cons, not_or] at h'
    cases s with
    | no => exact backArgs_out (ws := ws) (ss := ss) h'.2
    | val d => exact backArgs_out (ws := ws) (ss := ss) h'.2
    | acc m xs =>
      unfold backArgs
      split
      · rw [backArgs_out h'.2, gets_sets_ne h'.1]
      · exact backArgs_out h'.2
theorem backArgs_in : ∀ {ws : List W} {ss : List Sl} {r : Env} {k : Nat} {m' : Md}, (slotsOf ws).Nodup → ws[k]? = some (W.slot j) → gets ss k = .acc m' ys → gets r j = .acc m xs → gets (backArgs ws ss r) j = .acc m ys
  | [], _, _, _, _, _, e, _, _ => by simp at e
  | w :: ws, [], _, _, _, _, _, e, _ => by cases e
  | .val d :: ws, s :: ss, r, 0, _, _, e, _, _ => by simp at e
  | .own d :: ws, s :: ss, r, 0, _, _, e, _, _ => by simp at e
  | .val d :: ws, s :: ss, r, k + 1, _, nd, e, e1, e2 => backArgs_in (ws := ws) (ss := ss) (k := k) nd (by simpa using e) e1 e2
  | .own d :: ws, s :: ss, r, k + 1, _, nd, e, e1, e2 => backArgs_in (ws := ws) (ss := ss) (k := k) nd (by simpa using e) e1 e2
  | .slot i :: ws, s :: ss, r, 0, m', nd, e, e1, e2 => by
    simp at e; subst e
    have e1' : s = .acc m' ys := e1
    subst e1'
    have nd' : (i :: slotsOf ws).Nodup := nd
    unfold backArgs
    rw [e2]
    dsimp only
    rw [backArgs_out (List.nodup_cons.mp nd').1, gets_sets_same (gets_lt (by rw [e2]; exact Sl.noConfusion))]
  | .slot i :: ws, s :: ss, r, k + 1, m', nd, e, e1, e2 => by
    have nd' : (i :: slotsOf ws).Nodup := nd
    have e' : ws[k]? = some (W.slot j) := by simpa using e
    have hji : j ≠ i := fun z => (List.nodup_cons.mp nd').1 (z ▸ mem_slots (List.mem_of_getElem? e'))
    cases s with
    | no => exact backArgs_in (ws := ws) (ss := ss) (k := k) (List.nodup_cons.mp nd').2 e' e1 e2
    | val d => exact backArgs_in (ws := ws) (ss := ss) (k := k) (List.nodup_cons.mp nd').2 e' e1 e2
    | acc m2 xs2 =>
      unfold backArgs
      split
      · exact backArgs_in (k := k) (List.nodup_cons.mp nd').2 e' e1 (by rw [gets_sets_ne hji]; exact e2)
      · exact backArgs_in (k := k) (List.nodup_cons.mp nd').2 e' e1 e2

/-- what the callee must leave alone -/
def Tc (T : Addr → Prop) (σ1 : L2.St) (r1 : Env) (vs : List V) (ss : List Sl) : Addr → Prop := fun b => T b ∨ (Acc σ1 r1 b ∧ ¬ Acc (vs.map some) ss b)
theorem map_at {vs : List V} {k : Nat} {x : V} : (vs.map some)[k]? = some (some x) ↔ vs[k]? = some x := by
  rw [List.getElem?_map]
  cases vs[k]? <;> simp
theorem arg_acc {ss : List Sl} (p : WRs K H T σ1 r1 ws vs) (e : argsS r1 ws = some ss) (x : Acc (vs.map some) ss a) : ∃ k i m xs, ws[k]? = some (W.slot i) ∧ gets r1 i = .acc m xs ∧ m ≠ .lck ∧ σ1[i]? = some (some (.ref a)) ∧ gets ss k = .acc .fix xs ∧ vs[k]? = some (.ref a) := by
  obtain ⟨k, m, xs, e1, e2⟩ := x
  obtain ⟨w, v, h1, h2, h3, h4⟩ := argsS_at k e p (by rw [e1]; exact Sl.noConfusion)
  rw [e1] at h4
  have e2 := map_at.mp e2
  rw [e2] at h2; cases h2
  rcases argS_cases h4 with ⟨d, _, z⟩ | ⟨i, m', xs', rfl, z1, z2, z3⟩
  · cases z
  · cases z3
    exact ⟨k, i, m', xs, h1, z1, z2, h3, e1, e2⟩
theorem Po.args {ss : List Sl} (p : Po K H T σ r σ1 r1 ws vs H1) (e : argsS r1 ws = some ss) (nd : (slotsOf ws).Nodup) : ER K H1 (Tc T σ1 r1 vs ss) (vs.map some) ss := by
  have hT : Tw T ws vs = T := funext fun b => propext ⟨fun z => z.elim id fun z => absurd (show b ∈ ([] : List Addr) from (argsS_owns e (vs := vs)) ▸ z) (by simp), .inl⟩
  have E : ER K H1 T σ1 r1 := hT ▸ p.env
  have P : WRs K H1 T σ1 r1 ws vs := hT ▸ p.res
  have hA : ∀ b, Acc (vs.map some) ss b → Acc σ1 r1 b := fun b x => by
    obtain ⟨k, i, m, xs, _, h1, _, h2, _⟩ := arg_acc P e x
    exact ⟨i, m, xs, h1, h2⟩
  have hN : ∀ b, (Tc T σ1 r1 vs ss b ∨ Acc (vs.map some) ss b) → (T b ∨ Acc σ1 r1 b) := fun b z => by
    rcases z with (z | z) | z
    · exact .inl z
    · exact .inr z.1
    · exact .inr (hA b z)
  refine ⟨?_, fun k d e1 => ?_, fun k m xs e1 => ?_, fun k l m1 m2 x1 x2 c e1 e2 e3 e4 => ?_, fun b z => ?_⟩
  · rw [List.length_map, argsS_len e, ← P.length]
  · obtain ⟨w, v, h1, h2, h3, h4⟩ := argsS_at k e P (by rw [e1]; exact Sl.noConfusion)
    rw [e1] at h4
    rcases argS_cases h4 with ⟨d', rfl, z⟩ | ⟨i, m', xs', _, _, _, z⟩
    · cases z
      exact ⟨v, map_at.mpr h2, Rep.anti h3 hN⟩
    · cases z
  · obtain ⟨w, v, h1, h2, h3, h4⟩ := argsS_at k e P (by rw [e1]; exact Sl.noConfusion)
    rw [e1] at h4
    rcases argS_cases h4 with ⟨d', rfl, z⟩ | ⟨i, m', xs', rfl, z1, z2, z3⟩
    · cases z
    · cases z3
      obtain ⟨a, us, e2, e3, e4, e5, e6⟩ := E.acc i m' xs z1
      have h3 : σ1[i]? = some (some v) := h3
      rw [h3] at e2; cases e2
      refine ⟨a, us, map_at.mpr h2, fun z => ?_, e4, e5.anti hN, e6⟩
      rcases z with z | z
      · exact e3 z
      · exact z.2 ⟨k, .fix, xs, e1, map_at.mpr h2⟩
  · obtain ⟨k', i1, m1', y1, h1, h2, _, h3, h4, h5⟩ := arg_acc P e ⟨k, m1, x1, e1, e3⟩
    obtain ⟨w, v, g1, g2, g3, g4⟩ := argsS_at k e P (by rw [e1]; exact Sl.noConfusion)
    obtain ⟨w', v', f1, f2, f3, f4⟩ := argsS_at l e P (by rw [e2]; exact Sl.noConfusion)
    rw [e1] at g4
    rw [e2] at f4
    have e3 := map_at.mp e3
    have e4 := map_at.mp e4
    rw [e3] at g2; cases g2
    rw [e4] at f2; cases f2
    rcases argS_cases g4 with ⟨d', _, z⟩ | ⟨i, mi, xi, rfl, z1, z2, z3⟩
    · cases z
    · rcases argS_cases f4 with ⟨d', _, z⟩ | ⟨i', mi', xi', rfl, y1, y2, y3⟩
      · cases z
      · have hi := E.inj i i' mi mi' xi xi' c z1 y1 g3 f3
        subst hi
        exact slot_place nd g1 f1
  · rcases z with z | z
    · exact E.tal b z
    · exact (E.accT z.1).2
theorem Po.call {ss out : List Sl} (p : Po K H T σ r σ1 r1 ws vs H1) (e : argsS r1 ws = some ss) (nd : (slotsOf ws).Nodup) (q : Po K H1 (Tc T σ1 r1 vs ss) (vs.map some) ss (vs.map some) out [w] [v] H2) (hw : ∀ k, w ≠ .slot k) :
    Po K H T σ r σ1 (backArgs ws out r1) [w] [v] H2 := by
  have hT : Tw T ws vs = T := funext fun b => propext ⟨fun z => z.elim id fun z => absurd (show b ∈ ([] : List Addr) from (argsS_owns e (vs := vs)) ▸ z) (by simp), .inl⟩
  have E : ER K H1 T σ1 r1 := hT ▸ p.env
  have P : WRs K H1 T σ1 r1 ws vs := hT ▸ p.res
  have EC := p.args e nd
  have back : ∀ b, H1 b = none → H b = none := fun b e => Classical.byContradiction fun n => p.pers b n e
  -- each slot behind the call
  have slot : ∀ j, (j ∉ slotsOf ws ∨ (∀ m xs, gets r1 j ≠ .acc m xs)) ∧ gets (backArgs ws out r1) j = gets r1 j ∨ ∃ k m xs ys a, ws[k]? = some (W.slot j) ∧ gets r1 j = .acc m xs ∧ m ≠ .lck ∧ gets out k = .acc .fix ys ∧ gets (backArgs ws out r1) j = .acc m ys ∧ vs[k]? = some (.ref a) ∧ σ1[j]? = some (some (.ref a)) ∧ Acc (vs.map some) ss a := fun j => by
    by_cases hj : j ∈ slotsOf ws
    · obtain ⟨k, hk⟩ : ∃ k, ws[k]? = some (W.slot j) := by
        have : W.slot j ∈ ws := by
          clear P EC q p e nd hT
          induction ws with
          | nil => cases hj
          | cons w ws ih =>
            cases w with
            | val d => exact List.mem_cons_of_mem _ (ih hj)
            | own d => exact List.mem_cons_of_mem _ (ih hj)
            | slot i =>
              have hj' : j ∈ i :: slotsOf ws := hj
              rcases List.mem_cons.mp hj' with z | z
              · rw [z]; exact List.mem_cons_self
              · exact List.mem_cons_of_mem _ (ih z)
        obtain ⟨k, hk⟩ := List.getElem?_of_mem this
        exact ⟨k, hk⟩
      have hs : ∃ s, argS r1 (.slot j) = some s ∧ gets ss k = s ∧ ∃ v, vs[k]? = some v ∧ σ1[j]? = some (some v) := by
        clear q EC hT p
        induction ws generalizing k vs ss with
        | nil => simp at hk
        | cons w ws ih =>
          unfold argsS at e
          cases q1 : argS r1 w with
          | none => rw [q1] at e; cases e
          | some s =>
            cases q2 : argsS r1 ws with
            | none => rw [q1, q2] at e; cases e
            | some ss' =>
              rw [q1, q2] at e; cases e
              cases P with
              | cons g t =>
                cases k with
                | zero =>
                  simp at hk; subst hk
                  exact ⟨s, q1, rfl, _, rfl, g⟩
                | succ k =>
                  have nd' : (slotsOf ws).Nodup := by
                    cases w with
                    | val d => exact nd
                    | own xs => exact nd
                    | slot i => exact (List.nodup_cons.mp (show (i :: slotsOf ws).Nodup from nd)).2
                  have hk' : ws[k]? = some (W.slot j) := by simpa using hk
                  obtain ⟨s', h1, h2, v', h3, h4⟩ := ih q2 nd' t (mem_slots (List.mem_of_getElem? hk')) k hk'
                  exact ⟨s', h1, h2, v', h3, h4⟩
      obtain ⟨s, h1, h2, v', h3, h4⟩ := hs
      rcases argS_cases h1 with ⟨d, z, _⟩ | ⟨i, m, xs, z, z1, z2, z3⟩
      · cases z
      · cases z
        subst z3
        obtain ⟨⟨ys, e5, _⟩, _⟩ := q.keep k .fix xs h2 Md.noConfusion
        obtain ⟨a, us, e6, _⟩ := E.acc j m xs z1
        rw [h4] at e6; cases e6
        exact .inr ⟨k, m, xs, ys, a, hk, z1, z2, e5, backArgs_in nd hk e5 z1, h3, h4, ⟨k, .fix, xs, h2, map_at.mpr h3⟩⟩
    · exact .inl ⟨.inl hj, backArgs_out hj⟩
  have accB : ∀ j m ys, gets (backArgs ws out r1) j = .acc m ys → ∃ xs, gets r1 j = .acc m xs := fun j m ys h => by
    rcases slot j with ⟨_, z⟩ | ⟨k, m', xs, ys', a, _, z1, _, _, z2, _⟩
    · exact ⟨ys, z ▸ h⟩
    · rw [z2] at h; cases h
      exact ⟨xs, z1⟩
  have ha : ∀ b, Acc σ1 (backArgs ws out r1) b → Acc σ1 r1 b := fun b ⟨j, m, ys, h1, h2⟩ => by
    obtain ⟨xs, h⟩ := accB j m ys h1
    exact ⟨j, m, xs, h, h2⟩
  have hm : ∀ b, Mu σ1 (backArgs ws out r1) b → Mu σ1 r1 b := fun b ⟨j, m, ys, h1, nl, h2⟩ => by
    obtain ⟨xs, h⟩ := accB j m ys h1
    exact ⟨j, m, xs, h, nl, h2⟩
  have muC : ∀ b, Mu (vs.map some) ss b → Mu σ1 r1 b := fun b x => by
    obtain ⟨k, i, m, xs, _, h1, h2, h3, _⟩ := arg_acc P e x.acc
    exact ⟨i, m, xs, h1, h2, h3⟩
  have accO : ∀ b, Acc (vs.map some) ss b → Acc (vs.map some) out b := fun b x => by
    obtain ⟨k, i, m, xs, _, h1, h2, h3, h4, h5⟩ := arg_acc P e x
    obtain ⟨⟨ys, e5, _⟩, _⟩ := q.keep k .fix xs h4 Md.noConfusion
    exact ⟨k, .fix, ys, e5, map_at.mpr h5⟩
  have hN : ∀ b, (Tw T [w] [v] b ∨ Acc σ1 (backArgs ws out r1) b) → (Tw (Tc T σ1 r1 vs ss) [w] [v] b ∨ Acc (vs.map some) out b) := fun b z => by
    rcases z with (z | z) | z
    · exact .inl (.inl (.inl z))
    · exact .inl (.inr z)
    · by_cases x : Acc (vs.map some) ss b
      · exact .inr (accO b x)
      · exact .inl (.inl (.inr ⟨ha b z, x⟩))
  have st : Stab H1 H2 (Mu (vs.map some) ss) (fun b => T b ∨ Acc σ1 r1 b) (fun b => Tw T [w] [v] b ∨ Acc σ1 (backArgs ws out r1) b) :=
    ⟨q.frame, EC.lists, fun b z => .inr (muC b z).acc, fun b z => by
      rcases z with (z | z) | z
      · exact .inl (.inl z)
      · exact .inr (q.fresh b z)
      · exact .inl (.inr (ha b z))⟩
  refine ⟨p.t0, fun b o h n => ?_, fun b h => q.pers b (p.pers b h), ⟨E.len.trans backArgs_len.symm, fun j d h => ?_, fun j m xs h => ?_, fun j l m1 m2 x1 x2 c e1 e2 e3 e4 => ?_, fun b z => ?_⟩, ?_, fun b hb => back b (q.fresh b hb), q.nd, fun b x => p.news b (ha b x), fun b x => p.mun b (hm b x), fun j m xs h nf => ?_⟩
  · refine q.frame b o (p.frame b o h n) fun z => ?_
    rcases p.mun b (muC b z) with z | z
    · exact n z
    · rw [h] at z; cases z
  · rcases slot j with ⟨_, z⟩ | ⟨k, m', xs, ys', a, _, z1, _, _, z2, _⟩
    · obtain ⟨u, e1, e2⟩ := E.val j d (z ▸ h)
      exact ⟨u, e1, e2.stab st⟩
    · rw [z2] at h; cases h
  · rcases slot j with ⟨z0, z⟩ | ⟨k, m', xs', ys', a, z1, z2, z3, z4, z5, z6, z7, z8⟩
    · rw [z] at h
      obtain ⟨a, us, e1, e2, e3, e4, e5⟩ := E.acc j m xs h
      have hnot : ¬ Acc (vs.map some) ss a := fun x => by
        obtain ⟨k, i, m', xs', h1, h2, _, h3, _⟩ := arg_acc P e x
        have := E.inj j i m m' xs xs' a h h2 e1 h3
        subst this
        rcases z0 with z0 | z0
        · exact z0 (mem_slots (List.mem_of_getElem? h1))
        · exact z0 _ _ h2
      refine ⟨a, us, e1, fun z => ?_, q.frame a _ e3 fun z => hnot z.acc, e4.stab st, e5⟩
      rcases z with z | z
      · exact e2 z
      · have := q.fresh a z
        rw [e3] at this; cases this
    · rw [z5] at h; cases h
      obtain ⟨a', us, e1, e2, e3, e4, e5⟩ := q.env.acc k .fix xs z4
      have e1 := map_at.mp e1
      rw [z6] at e1; cases e1
      refine ⟨a, us, z7, fun z => e2 (z.imp .inl id), e3, e4.anti hN, e5⟩
  · obtain ⟨y1, h1⟩ := accB j m1 x1 e1
    obtain ⟨y2, h2⟩ := accB l m2 x2 e2
    exact E.inj j l m1 m2 y1 y2 c h1 h2 e3 e4
  · exact q.env.tal b (z.imp .inl id)
  · cases q.res with
    | cons h t =>
      cases t
      refine .cons ?_ .nil
      cases w with
      | val d => exact Rep.anti h hN
      | own xs =>
        obtain ⟨a, us, e1, t, e3, e4, e5⟩ := h
        subst e1
        exact ⟨a, us, rfl, .inr (List.mem_singleton.mpr rfl), e3, e4.anti hN, e5⟩
      | slot k => exact (hw k rfl).elim
  · obtain ⟨⟨ys, e1, l1⟩, s1⟩ := p.keep j m xs h nf
    refine ⟨?_, s1⟩
    rcases slot j with ⟨_, z⟩ | ⟨k, m', xs', ys', a, _, z2, z3, _, z5, _⟩
    · exact ⟨ys, z.trans e1, l1⟩
    · rw [e1] at z2; cases z2
      exact ⟨ys', z5, fun z => (z3 z).elim⟩
end
end MP

-- part Mp4
set_option maxHeartbeats 1000000
/-! Operations on values. -/
namespace MP
open PySem PySem.Spec PyProof.Rows L2

theorem LIM_le : LIM ≤ sizeLine := by rw [sizeLine_eq]; decide
/-! ### data -/
mutual
def py : D → PyData
  | .non => .none
  | .bl b => .bool b
  | .int i => .int i
  | .str s => .str ⟨s.toArray⟩
  | .tup xs => .tuple (pys xs)
  | .lst xs => .list (pys xs)
  | .scr _ => .none
  | .dct _ => .none
def pys : List D → List PyData
  | [] => []
  | x :: xs => py x :: pys xs
end
mutual
theorem py_plain : ∀ d : D, pln d = true → (py d).plain = true
  | .non, _ => rfl
  | .bl _, _ => rfl
  | .int _, _ => rfl
  | .str _, _ => rfl
  | .tup xs, h => by rw [py, PyData.plain]; exact pys_plain xs (by rwa [pln] at h)
  | .lst xs, h => by rw [py, PyData.plain]; exact pys_plain xs (by rwa [pln] at h)
  | .scr _, h => by cases h
  | .dct _, h => by cases h
theorem pys_plain : ∀ xs : List D, plns xs = true → PyData.plainAll (pys xs) = true
  | [], _ => rfl
  | x :: xs, h => by
    rw [plns, Bool.and_eq_true] at h
    rw [pys, PyData.plainAll, py_plain x h.1, pys_plain xs h.2]; rfl
end
mutual
theorem py_dep : ∀ d : D, (py d).depth = dep d
  | .non => rfl
  | .bl _ => rfl
  | .int _ => rfl
  | .str _ => rfl
  | .tup xs => by rw [py, PyData.depth, pys_dep xs, dep]
  | .lst xs => by rw [py, PyData.depth, pys_dep xs, dep]
  | .scr _ => rfl
  | .dct _ => rfl
theorem pys_dep : ∀ xs : List D, PyData.depthAll (pys xs) = deps xs
  | [] => rfl
  | x :: xs => by rw [pys, PyData.depthAll, py_dep x, pys_dep xs, deps]
end
mutual
theorem eqD_py : ∀ d e : D, pln d = true → pln e = true → eqD d e = PyData.eqv (py d) (py e)
  | .non, e, _, he => by cases e <;> first | rfl | cases he
  | .bl a, e, _, he => by
    cases e with
    | bl b => simp [eqD, py, PyData.eqv]
    | int j => simp [eqD, py, PyData.eqv, b2i]
    | scr _ => cases he
    | dct _ => cases he
    | _ => rfl
  | .int i, e, _, he => by
    cases e with
    | bl b => simp [eqD, py, PyData.eqv, b2i]
    | int j => simp [eqD, py, PyData.eqv]
    | scr _ => cases he
    | dct _ => cases he
    | _ => rfl
  | .str x, e, _, he => by
    cases e with
    | str y =>
      rw [eqD, py, py, PyData.eqv, Bool.eq_iff_iff]
      simp
    | scr _ => cases he
    | dct _ => cases he
    | _ => rfl
  | .tup xs, e, hd, he => by
    cases e with
    | tup ys => rw [eqD, py, py, PyData.eqv]; exact eqDs_py xs ys (by rwa [pln] at hd) (by rwa [pln] at he)
    | scr _ => cases he
    | dct _ => cases he
    | _ => simp [eqD, py, PyData.eqv]
  | .lst xs, e, hd, he => by
    cases e with
    | lst ys => rw [eqD, py, py, PyData.eqv]; exact eqDs_py xs ys (by rwa [pln] at hd) (by rwa [pln] at he)
    | scr _ => cases he
    | dct _ => cases he
    | _ => simp [eqD, py, PyData.eqv]
  | .scr _, _, hd, _ => by cases hd
  | .dct _, _, hd, _ => by cases hd
theorem eqDs_py : ∀ xs ys : List D, plns xs = true → plns ys = true → eqDs xs ys = PyData.eqvAll (pys xs) (pys ys)
  | [], [], _, _ => rfl
  | [], _ :: _, _, _ => by simp [eqDs, pys, PyData.eqvAll]
  | _ :: _, [], _, _ => by simp [eqDs, pys, PyData.eqvAll]
  | x :: xs, y :: ys, h1, h2 => by
    rw [plns, Bool.and_eq_true] at h1 h2
    rw [eqDs, pys, pys, PyData.eqvAll, eqD_py x y h1.1 h2.1, eqDs_py xs ys h1.2 h2.2]
end
/-! ### the order of data -/
mutual
theorem alD_py : ∀ d e : D, alD d e = true → PySem.W.alike (py d) (py e) = true
  | .bl _, e, h => by cases e <;> first | (cases h; done) | rfl
  | .int _, e, h => by cases e <;> first | (cases h; done) | rfl
  | .str _, e, h => by cases e <;> first | (cases h; done) | rfl
  | .tup xs, e, h => by
    cases e <;> first | (simp [alD] at h; done) | skip
    rw [alD] at h
    rw [py, py, PySem.W.alike]
    exact alDs_py xs _ h
  | .lst xs, e, h => by
    cases e <;> first | (simp [alD] at h; done) | skip
    rw [alD] at h
    rw [py, py, PySem.W.alike]
    exact alDs_py xs _ h
  | .non, e, h => by simp [alD] at h
  | .scr _, e, h => by simp [alD] at h
  | .dct _, e, h => by simp [alD] at h
theorem alDs_py : ∀ xs ys : List D, alDs xs ys = true → PySem.W.alikeAll (pys xs) (pys ys) = true
  | [], ys, _ => by cases ys <;> simp [pys, PySem.W.alikeAll]
  | x :: xs, [], _ => by simp [pys, PySem.W.alikeAll]
  | x :: xs, y :: ys, h => by
    rw [alDs, Bool.and_eq_true] at h
    rw [pys, pys, PySem.W.alikeAll, alD_py x y h.1, alDs_py xs ys h.2]
    rfl
end
theorem al_non {d e : D} (h : alD d e = true) : py d ≠ .none ∧ py e ≠ .none := by
  cases d <;> cases e <;> first | (simp [alD] at h; done) | (constructor <;> simp [py])
mutual
theorem alD_symm : ∀ d e : D, alD d e = true → alD e d = true
  | .bl _, e, h => by cases e <;> first | (cases h; done) | rfl
  | .int _, e, h => by cases e <;> first | (cases h; done) | rfl
  | .str _, e, h => by cases e <;> first | (cases h; done) | rfl
  | .tup xs, e, h => by
    cases e <;> first | (simp [alD] at h; done) | skip
    rw [alD] at h ⊢
    exact alDs_symm xs _ h
  | .lst xs, e, h => by
    cases e <;> first | (simp [alD] at h; done) | skip
    rw [alD] at h ⊢
    exact alDs_symm xs _ h
  | .non, e, h => by simp [alD] at h
  | .scr _, e, h => by simp [alD] at h
  | .dct _, e, h => by simp [alD] at h
theorem alDs_symm : ∀ xs ys : List D, alDs xs ys = true → alDs ys xs = true
  | [], ys, _ => by cases ys <;> simp [alDs]
  | x :: xs, [], _ => by simp [alDs]
  | x :: xs, y :: ys, h => by
    rw [alDs, Bool.and_eq_true] at h
    rw [alDs, alD_symm x y h.1, alDs_symm xs ys h.2]
    rfl
end
theorem ltStr (x y : List Nat) : PySem.W.dataLt (.str ⟨x.toArray⟩) (.str ⟨y.toArray⟩) = decide (x < y) := by
  rw [PySem.W.dataLt_str]
theorem lt_bb (a b : Bool) : (!a && b) = decide (PyProof.Rows.b2i a < PyProof.Rows.b2i b) := match a, b with
  | false, false => rfl
  | false, true => rfl
  | true, false => rfl
  | true, true => rfl
mutual
theorem ltD_py : ∀ d e : D, alD d e = true → pln d = true → pln e = true → ltD d e = PySem.W.dataLt (py d) (py e)
  | .bl a, e, h, _, _ => by
    cases e <;> first | (simp [alD] at h; done) | skip
    rw [py, py, PySem.W.dataLt_bool, ltD]
    exact lt_bb _ _
  | .int a, e, h, _, _ => by
    cases e <;> first | (simp [alD] at h; done) | skip
    rw [py, py, PySem.W.dataLt_int]; rfl
  | .str a, e, h, _, _ => by
    cases e <;> first | (simp [alD] at h; done) | skip
    rw [py, py, ltStr]; rfl
  | .tup xs, e, h, p1, p2 => by
    cases e <;> first | (simp [alD] at h; done) | skip
    rw [alD] at h
    rw [py, py, PySem.W.dataLt_tuple, ltD]
    exact ltDs_py xs _ h (by rwa [pln] at p1) (by rwa [pln] at p2)
  | .lst xs, e, h, p1, p2 => by
    cases e <;> first | (simp [alD] at h; done) | skip
    rw [alD] at h
    rw [py, py, PySem.W.dataLt_list, ltD]
    exact ltDs_py xs _ h (by rwa [pln] at p1) (by rwa [pln] at p2)
  | .non, e, h, _, _ => by simp [alD] at h
  | .scr _, e, h, _, _ => by simp [alD] at h
  | .dct _, e, h, _, _ => by simp [alD] at h
theorem ltDs_py : ∀ xs ys : List D, alDs xs ys = true → plns xs = true → plns ys = true → ltDs xs ys = PySem.W.rowLt (pys xs) (pys ys)
  | [], [], _, _, _ => by rw [pys, ltDs]; exact (PyProof.Rows.lex_irrefl _).symm
  | [], y :: ys, _, _, _ => by
    rw [pys, pys, ltDs]
    rfl
  | x :: xs, [], _, _, _ => by
    rw [pys, pys, ltDs]
    rfl
  | x :: xs, y :: ys, h, p1, p2 => by
    rw [alDs, Bool.and_eq_true] at h
    rw [plns, Bool.and_eq_true] at p1 p2
    rw [pys, pys, ltDs]
    unfold PySem.W.rowLt
    rw [PySem.W.dataLt_cons (alD_py x y h.1), eqD_py x y p1.1 p2.1, ltD_py x y h.1 p1.1 p2.1, ltDs_py xs ys h.2 p1.2 p2.2]
    rfl
end
theorem any_py (x : D) (hx : pln x = true) : ∀ xs : List D, plns xs = true → (pys xs).any (fun y => PyData.eqv y (py x)) = memD x xs
  | [], _ => rfl
  | y :: ys, h => by
    rw [plns, Bool.and_eq_true] at h
    show ((py y).eqv (py x) || (pys ys).any _) = (eqD y x || memD x ys)
    rw [any_py x hx ys h.2, eqD_py y x h.1 hx]
section
variable {K : PySem.W.Frag} {H H' : Hp} {N : Addr → Prop} {v : V} {d : D}
mutual
theorem Rep.dp : ∀ {v : V} {d : D}, pln d = true → Rep K H N v d → Dp K H v (py d)
  | _, .non, _, h => by cases h; exact .non
  | _, .bl b, _, h => by cases h; exact .bl b
  | _, .int i, _, h => by cases h; exact .int i
  | _, .str s, _, h => by cases h; exact .str _
  | _, .tup ds, p, h => by
    cases h with
    | tup h1 h2 h3 => exact .tup h1 (Reps.dp (by rwa [pln] at p) h2)
  | _, .lst ds, p, h => by
    cases h with
    | lst h0 h1 h2 h3 => exact .lst (.of h1) (Reps.dp (by rwa [pln] at p) h2)
  | _, .scr _, p, _ => by cases p
  | _, .dct _, p, _ => by cases p
theorem Reps.dp : ∀ {vs : List V} {ds : List D}, plns ds = true → Reps K H N vs ds → DpAll K H vs (pys ds)
  | _, [], _, h => by cases h; exact .nil
  | _, d :: ds, p, h => by
    rw [plns, Bool.and_eq_true] at p
    cases h with
    | cons h1 h2 => exact .cons (Rep.dp p.1 h1) (Reps.dp p.2 h2)
end
theorem VR.dp (h : VR K H N v d) (p : pln d = true) : Dp K H v (py d) := by
  cases d with
  | lst ds =>
    obtain ⟨a, vs, e, e1, e2, _⟩ := h
    subst e
    exact .lst (.of e1) (Reps.dp (by rwa [pln] at p) e2)
  | _ => exact Rep.dp p h

/-! ### the result forms -/
theorem Op1.same {d : D} (h : Rep K H N v d) : Op1 K H N (.val d) v H := ⟨fun _ _ e => e, h⟩
theorem upd_grow {p : Addr} {o : HO} (hp : H p = none) : ∀ b u, H b = some u → upd H p o b = some u := fun b u e => by
  rw [upd_ne (ne_of_none e hp)]; exact e
theorem Op1.list {p : Addr} {vs : List V} {xs : List D} (hp : H p = none) (h : Reps K H N vs xs) (hl : xs.length ≤ sizeLine) : Op1 K H N (.own xs) (.ref p) (upd H p (.lst vs)) :=
  ⟨upd_grow hp, p, vs, rfl, hp, upd_same, h, hl⟩
theorem Op1.tup {p : Addr} {vs : List V} {xs : List D} (hp : H p = none) (h : Reps K H N vs xs) (hl : xs.length ≤ sizeLine) : Op1 K H N (.val (.tup xs)) (.ref p) (upd H p (.tup vs)) :=
  ⟨upd_grow hp, .tup (.of upd_same) (Reps.stab (.grow (upd_grow hp) fun b z => .inl z) h) hl⟩
end

/-! ### binary operators -/
def opS : Op → Operator
  | .add => .Add | .sub => .Sub | .mul => .Mult | .fdiv => .FloorDiv | .mod => .Mod | .pow => .Pow | .shl => .LShift | .shr => .RShift | .band => .BitAnd | .bor => .BitOr
def rBin (K : PySem.W.Frag) (op : Op) : R2 := fun x y H Q => ∃ N d e w, VR K H N x d ∧ VR K H N y e ∧ binOp op d e = some w ∧ ∀ v H', Op1 K H N w v H' → Q v H'
section
variable {X : Cx}
theorem vr_int {K : PySem.W.Frag} {H : Hp} {N : Addr → Prop} {v : V} {i : Int} (h : VR K H N v (.int i)) : v = .int i := by cases (show Rep K H N v (.int i) from h); rfl
theorem vr_bl {K : PySem.W.Frag} {H : Hp} {N : Addr → Prop} {v : V} {i : Bool} (h : VR K H N v (.bl i)) : v = .bl i := by cases (show Rep K H N v (.bl i) from h); rfl
theorem vr_non {K : PySem.W.Frag} {H : Hp} {N : Addr → Prop} {v : V} (h : VR K H N v .non) : v = .non := by cases (show Rep K H N v .non from h); rfl
theorem vr_str {K : PySem.W.Frag} {H : Hp} {N : Addr → Prop} {v : V} {s : List Nat} (h : VR K H N v (.str s)) : v = .str ⟨s.toArray⟩ ∧ s.length ≤ LIM := by
  cases (show Rep K H N v (.str s) from h) with
  | str _ l => exact ⟨rfl, l⟩
theorem vr_tup {K : PySem.W.Frag} {H : Hp} {N : Addr → Prop} {v : V} {xs : List D} (h : VR K H N v (.tup xs)) : ∃ a vs, v = .ref a ∧ SqT K H a vs ∧ Reps K H N vs xs ∧ xs.length ≤ sizeLine := by
  cases (show Rep K H N v (.tup xs) from h) with
  | tup h1 h2 h3 => exact ⟨_, _, rfl, h1, h2, h3⟩
theorem Reps.nil_iff {K : PySem.W.Frag} {H : Hp} {N : Addr → Prop} {vs : List V} {xs : List D} (h : Reps K H N vs xs) : vs = [] ↔ xs = [] := by
  cases h <;> simp
theorem str_app (x y : List Nat) : (⟨x.toArray⟩ : Str) ++ ⟨y.toArray⟩ = ⟨(x ++ y).toArray⟩ := by
  show (⟨x.toArray ++ y.toArray⟩ : Str) = _
  rw [List.append_toArray]
theorem or_bin (op : Op) : OpR X (binaryOp (opS op)) (rBin X.K op) := by
  intro pins s σ H x y v u Q I rx ry h
  obtain ⟨N, d, e, w, hd, he, ho, q⟩ := h
  unfold binOp at ho
  split at ho
  · -- ints
    have hx := vr_int hd; have hy := vr_int he
    subst hx hy
    cases ho
    exact op_add pins s σ H _ _ v u Q I rx ry ⟨_, _, rfl, rfl, q _ _ (.same (.int _))⟩
  · rename_i xs ys
    split at ho
    · rename_i hl
      cases ho
      obtain ⟨a, vs, rfl, h1, h2, h3⟩ := hd
      obtain ⟨b, us, rfl, g1, g2, g3⟩ := he
      have hz : vs.length + us.length ≤ sizeLine := by
        rw [h2.length, g2.length]; exact Nat.le_trans hl LIM_le
      exact op_cat pins s σ H _ _ v u Q I rx ry ⟨a, b, vs, us, rfl, rfl, h1, g1, hz, fun p hp => q _ _ (.list hp (h2.append g2) (by rw [List.length_append]; exact Nat.le_trans hl LIM_le))⟩
    · cases ho
  · rename_i xs ys
    split at ho
    · rename_i hl
      cases ho
      obtain ⟨a, vs, rfl, h1, h2, h3⟩ := vr_tup hd
      obtain ⟨b, us, rfl, g1, g2, g3⟩ := vr_tup he
      have hz : vs.length + us.length ≤ sizeLine := by
        rw [h2.length, g2.length]; exact Nat.le_trans hl LIM_le
      refine op_catA pins s σ H _ _ v u Q I rx ry ⟨a, b, vs, us, rfl, rfl, h1, g1, hz, fun e => ?_, fun n e => ?_, fun n n2 p hp => q _ _ (.tup hp (h2.append g2) (by rw [List.length_append]; exact Nat.le_trans hl LIM_le))⟩
      · have e' := h2.nil_iff.mp e
        subst e'
        exact q _ _ (.same he)
      · have e' := g2.nil_iff.mp e
        subst e'
        refine q _ _ (.same ?_)
        rw [List.append_nil]
        exact hd
    · cases ho
  · rename_i a b
    split at ho
    · rename_i hl
      cases ho
      obtain ⟨rfl, h2⟩ := vr_str hd
      obtain ⟨rfl, g2⟩ := vr_str he
      refine op_add_str pins s σ H _ _ v u Q I rx ry ⟨_, _, rfl, rfl, ?_, ?_⟩
      · show a.toArray.size + b.toArray.size ≤ _
        simp only [List.size_toArray]
        exact Nat.le_trans hl LIM_le
      · rw [str_app]
        exact q _ _ (.same (.str _ (by rw [List.length_append]; exact hl)))
    · cases ho
  · have hx := vr_int hd; have hy := vr_int he
    subst hx hy
    cases ho
    exact op_sub pins s σ H _ _ v u Q I rx ry ⟨_, _, rfl, rfl, q _ _ (.same (.int _))⟩
  · rename_i i j
    split at ho
    · rename_i hm
      have hx := vr_int hd; have hy := vr_int he
      subst hx hy
      cases ho
      refine op_mul pins s σ H _ _ v u Q I rx ry ⟨i, j, rfl, rfl, ?_, q _ _ (.same (.int _))⟩
      unfold mulOk at hm
      simp only [Bool.or_eq_true, Bool.and_eq_true, decide_eq_true_eq] at hm
      show (-(2 ^ 64) < i ∧ i < 2 ^ 64) ∨ (-(2 ^ 64) < j ∧ j < 2 ^ 64)
      omega
    · cases ho
  · rename_i i j
    split at ho
    · rename_i hm
      have hx := vr_int hd; have hy := vr_int he
      subst hx hy
      cases ho
      exact op_fdiv pins s σ H _ _ v u Q I rx ry ⟨i, j, rfl, rfl, hm, q _ _ (.same (.int _))⟩
    · cases ho
  · rename_i i j
    split at ho
    · rename_i hm
      have hx := vr_int hd; have hy := vr_int he
      subst hx hy
      cases ho
      exact op_mod pins s σ H _ _ v u Q I rx ry ⟨i, j, rfl, rfl, hm, q _ _ (.same (.int _))⟩
    · cases ho
  · rename_i i j
    split at ho
    · rename_i hm
      have hx := vr_int hd; have hy := vr_int he
      subst hx hy
      cases ho
      exact op_pow pins s σ H _ _ v u Q I rx ry ⟨i, j, rfl, rfl, ⟨hm.1, by omega, by have := hm.2.2; omega⟩, q _ _ (.same (.int _))⟩
    · cases ho
  · rename_i i j
    split at ho
    · rename_i hm
      have hx := vr_int hd; have hy := vr_int he
      subst hx hy
      cases ho
      exact op_shl pins s σ H _ _ v u Q I rx ry ⟨i, j, rfl, rfl, ⟨hm.1, by omega, by have := hm.2.2; omega⟩, q _ _ (.same (.int _))⟩
    · cases ho
  · rename_i i j
    split at ho
    · rename_i hm
      have hx := vr_int hd; have hy := vr_int he
      subst hx hy
      cases ho
      exact op_shr pins s σ H _ _ v u Q I rx ry ⟨i, j, rfl, rfl, hm, q _ _ (.same (.int _))⟩
    · cases ho
  · cases ho

/-! ### comparisons -/
def cmS : Cm → CmpOp
  | .eq => .Eq | .ne => .NotEq | .lt => .Lt | .le => .LtE | .gt => .Gt | .ge => .GtE | .is_ => .Is | .isnot => .IsNot | .mem => .In | .nomem => .NotIn
def rCmp (K : PySem.W.Frag) (op : Cm) : R2 := fun x y H Q => ∃ N d e b, VR K H N x d ∧ VR K H N y e ∧ cmpOp op d e = some b ∧ Q (.bl b) H
theorem eqOk_at {d e : D} (h : eqOk d e = true) : pln d = true ∧ pln e = true ∧ min (dep d) (dep e) ≤ 64 := by
  unfold eqOk at h
  simp only [Bool.and_eq_true, decide_eq_true_eq] at h
  exact ⟨h.1.1, h.1.2, h.2⟩
theorem eqOk_mem {x : D} {ds : List D} (h : eqOk (.lst ds) (.lst [x]) = true) : plns ds = true ∧ pln x = true ∧ min (deps ds) (dep x) ≤ 63 := by
  obtain ⟨h1, h2, h3⟩ := eqOk_at h
  rw [pln] at h1 h2
  rw [plns, plns, Bool.and_true] at h2
  refine ⟨h1, h2, ?_⟩
  rw [dep, dep, deps, deps] at h3
  omega
theorem eqOk_memT {x : D} {ds : List D} (h : eqOk (.tup ds) (.tup [x]) = true) : plns ds = true ∧ pln x = true ∧ min (deps ds) (dep x) ≤ 63 := by
  obtain ⟨h1, h2, h3⟩ := eqOk_at h
  rw [pln] at h1 h2
  rw [plns, plns, Bool.and_true] at h2
  refine ⟨h1, h2, ?_⟩
  rw [dep, dep, deps, deps] at h3
  omega
theorem vr_isN {K : PySem.W.Frag} {H : Hp} {N : Addr → Prop} {x : V} {d : D} (hd : VR K H N x d) : decide (x = V.non) = isNon d := by
  cases d with
  | non => cases vr_non hd; rfl
  | bl b => cases vr_bl hd; rfl
  | int i => cases vr_int hd; rfl
  | str z => cases (vr_str hd).1; rfl
  | tup xs => obtain ⟨a, vs, rfl, _⟩ := vr_tup hd; rfl
  | lst xs => obtain ⟨a, vs, rfl, _⟩ := hd; rfl
  | scr xs => cases (show Rep K H N x (.scr xs) from hd); rfl
  | dct xs => cases (show Rep K H N x (.dct xs) from hd)
theorem or_cmp (hu : X.A.units + 200 < cLine) (op : Cm) : OpR X (compareOp (cmS op)) (rCmp X.K op) := by
  intro pins s σ H x y v u Q I rx ry h
  obtain ⟨N, d, e, b, hd, he, ho, q⟩ := h
  have rd : ∀ {v : V} {d : D} {u : Value}, VR X.K H N v d → pln d = true → RelV v u → ∃ as, Reads s.heap u (py d) as := fun h p r => Dp.reads I _ _ _ (h.dp p) r
  unfold cmpOp at ho
  split at ho
  · split at ho
    · rename_i hk
      cases ho
      obtain ⟨p1, p2, p3⟩ := eqOk_at hk
      obtain ⟨as, r1⟩ := rd hd p1 rx
      obtain ⟨bs, r2⟩ := rd he p2 ry
      refine SeqAt.eq_plain r1 r2 (py_plain _ p1) (py_plain _ p2) (by rw [py_dep, py_dep]; omega) ?_
      rw [← eqD_py _ _ p1 p2]
      exact ⟨.bl _, H, I, rfl, q⟩
    · cases ho
  · split at ho
    · rename_i hk
      cases ho
      obtain ⟨p1, p2, p3⟩ := eqOk_at hk
      obtain ⟨as, r1⟩ := rd hd p1 rx
      obtain ⟨bs, r2⟩ := rd he p2 ry
      refine SeqAt.ne_plain r1 r2 (py_plain _ p1) (py_plain _ p2) (by rw [py_dep, py_dep]; omega) ?_
      rw [← eqD_py _ _ p1 p2]
      exact ⟨.bl _, H, I, rfl, q⟩
    · cases ho
  · have hx := vr_int hd; have hy := vr_int he
    subst hx hy
    cases ho
    exact op_lt pins s σ H _ _ v u Q I rx ry ⟨_, _, rfl, rfl, q⟩
  · have hx := vr_int hd; have hy := vr_int he
    subst hx hy
    cases ho
    exact op_le pins s σ H _ _ v u Q I rx ry ⟨_, _, rfl, rfl, q⟩
  · have hx := vr_int hd; have hy := vr_int he
    subst hx hy
    cases ho
    exact op_gt pins s σ H _ _ v u Q I rx ry ⟨_, _, rfl, rfl, q⟩
  · have hx := vr_int hd; have hy := vr_int he
    subst hx hy
    cases ho
    exact op_ge pins s σ H _ _ v u Q I rx ry ⟨_, _, rfl, rfl, q⟩
  · rename_i xs ys
    split at ho
    · rename_i hk
      cases ho
      unfold ltOk at hk
      simp only [Bool.and_eq_true, decide_eq_true_eq] at hk
      obtain ⟨⟨⟨k1, k2⟩, k3⟩, k4⟩ := hk
      obtain ⟨as, r1⟩ := rd hd k2 rx
      obtain ⟨bs, r2⟩ := rd he k3 ry
      refine PySem.W.lt_data r1 r2 (alD_py _ _ k1) (al_non k1).1 (by rw [py_dep, py_dep]; omega) ?_
      rw [← ltD_py _ _ k1 k2 k3, ltD]
      exact ⟨.bl _, H, I, rfl, q⟩
    · cases ho
  · rename_i xs ys
    split at ho
    · rename_i hk
      cases ho
      unfold ltOk at hk
      simp only [Bool.and_eq_true, decide_eq_true_eq] at hk
      obtain ⟨⟨⟨k1, k2⟩, k3⟩, k4⟩ := hk
      obtain ⟨as, r1⟩ := rd hd k3 rx
      obtain ⟨bs, r2⟩ := rd he k2 ry
      have sym : ∀ d e : D, alD d e = true → alD e d = true := alD_symm
      refine PySem.W.gt_data r1 r2 (alD_py _ _ (sym _ _ k1)) (al_non k1).2 (by rw [py_dep, py_dep]; omega) ?_
      rw [← ltD_py _ _ k1 k2 k3, ltD]
      exact ⟨.bl _, H, I, rfl, q⟩
    · cases ho
  · have hy := vr_non he
    subst hy
    cases ho
    have hb := vr_isN hd
    exact op_isN pins s σ H _ _ v u Q I rx ry ⟨rfl, by rw [hb]; exact q⟩
  · have hy := vr_non he
    subst hy
    cases ho
    have hb := vr_isN hd
    exact op_notN pins s σ H _ _ v u Q I rx ry ⟨rfl, by rw [hb]; exact q⟩
  · rename_i x' ds
    split at ho
    · rename_i hk
      cases ho
      obtain ⟨p1, p2, p3⟩ := eqOk_mem hk
      obtain ⟨as, r1⟩ := rd he (by rw [pln]; exact p1) ry
      obtain ⟨bs, r2⟩ := rd hd p2 rx
      rw [py] at r1
      refine SeqAt.in_list_data r1 r2 (pys_plain _ p1) (py_plain _ p2) (by rw [py_dep, pys_dep]; omega) ?_
      rw [any_py _ p2 _ p1]
      exact ⟨.bl _, H, I, rfl, q⟩
    · cases ho
  · rename_i x' ds
    split at ho
    · rename_i hk
      cases ho
      obtain ⟨p1, p2, p3⟩ := eqOk_memT hk
      obtain ⟨as, r1⟩ := rd he (by rw [pln]; exact p1) ry
      obtain ⟨bs, r2⟩ := rd hd p2 rx
      rw [py] at r1
      refine SeqAt.in_tuple_data r1 r2 (pys_plain _ p1) (py_plain _ p2) (by rw [py_dep, pys_dep]; omega) ?_
      rw [any_py _ p2 _ p1]
      exact ⟨.bl _, H, I, rfl, q⟩
    · cases ho
  · rename_i x' ds
    split at ho
    · rename_i hk
      cases ho
      obtain ⟨p1, p2, p3⟩ := eqOk_mem hk
      obtain ⟨as, r1⟩ := rd he (by rw [pln]; exact p1) ry
      obtain ⟨bs, r2⟩ := rd hd p2 rx
      rw [py] at r1
      refine SeqAt.notIn_list_data r1 r2 (pys_plain _ p1) (py_plain _ p2) (by rw [py_dep, pys_dep]; omega) ?_
      rw [any_py _ p2 _ p1]
      exact ⟨.bl _, H, I, rfl, q⟩
    · cases ho
  · rename_i x' ds
    split at ho
    · rename_i hk
      cases ho
      obtain ⟨p1, p2, p3⟩ := eqOk_memT hk
      obtain ⟨as, r1⟩ := rd he (by rw [pln]; exact p1) ry
      obtain ⟨bs, r2⟩ := rd hd p2 rx
      rw [py] at r1
      refine SeqAt.notIn_tuple_data r1 r2 (pys_plain _ p1) (py_plain _ p2) (by rw [py_dep, pys_dep]; omega) ?_
      rw [any_py _ p2 _ p1]
      exact ⟨.bl _, H, I, rfl, q⟩
    · cases ho
  · cases ho

/-! ### subscripts, slices -/
def rSub (K : PySem.W.Frag) : R2 := fun x y H Q => ∃ N d e g, VR K H N x d ∧ VR K H N y e ∧ subOp d e = some g ∧ ∀ v, Rep K H N v g → Q v H
theorem sub_at {K : PySem.W.Frag} {H : Hp} {N : Addr → Prop} {vs : List V} {xs : List D} {i : Int} {g : D} (h : Reps K H N vs xs) (e : ((MP.ixN xs.length i).bind fun k => xs[k]?) = some g) : ∃ v, L2.atI vs i = some v ∧ Rep K H N v g := by
  cases q : MP.ixN xs.length i with
  | none => rw [q] at e; cases e
  | some k =>
    rw [q] at e
    obtain ⟨v, e1, e2⟩ := h.get (k := k) e
    refine ⟨v, ?_, e2⟩
    have q' : L2.ixN vs.length i = some k := by rw [h.length]; exact q
    unfold L2.atI
    rw [q']
    exact e1
theorem ix_sub : IxR X (rSub X.K) := by
  intro va sl pins s σ H x y v u Q I rx ry h hsub
  obtain ⟨N, d, e, g, hd, he, ho, q⟩ := h
  unfold subOp at ho
  split at ho
  · have hy := vr_int he
    subst hy
    obtain ⟨a, vs, rfl, h1, h2, h3⟩ := hd
    obtain ⟨z, e1, e2⟩ := sub_at h2 ho
    exact ix_list va sl pins s σ H _ _ v u Q I rx ry ⟨a, vs, _, z, rfl, rfl, .of h1, e1, q _ e2⟩ hsub
  · have hy := vr_int he
    subst hy
    obtain ⟨a, vs, rfl, h1, h2, h3⟩ := vr_tup hd
    obtain ⟨z, e1, e2⟩ := sub_at h2 ho
    exact ix_tup va sl pins s σ H _ _ v u Q I rx ry ⟨a, vs, _, z, rfl, rfl, h1, e1, q _ e2⟩ hsub
  · cases ho
theorem cut_eq {vs : List V} (lo hi : Option Int) : cutV vs lo hi = MP.cut vs lo hi := by
  unfold cutV MP.cut
  have h : ∀ n d o, HT.sIx n d o = MP.sIx n d o := fun n d o => by cases o <;> rfl
  rw [h, h]
theorem Reps.cut {K : PySem.W.Frag} {H : Hp} {N : Addr → Prop} {vs : List V} {xs : List D} (h : Reps K H N vs xs) (lo hi : Option Int) : Reps K H N (MP.cut vs lo hi) (MP.cut xs lo hi) := by
  unfold MP.cut
  rw [h.length]
  exact (h.drop _).take _
theorem cut_len {α : Type} (xs : List α) (lo hi : Option Int) : (MP.cut xs lo hi).length ≤ xs.length := by
  unfold MP.cut
  rw [List.length_take, List.length_drop]
  omega
theorem cut_map {α β : Type} (f : α → β) (xs : List α) (lo hi : Option Int) : MP.cut (xs.map f) lo hi = (MP.cut xs lo hi).map f := by
  unfold MP.cut
  rw [List.length_map, List.map_take, List.map_drop]
theorem cut_whole {α : Type} {xs : List α} {lo hi : Option Int} (h : HT.sIx xs.length 0 lo = 0 ∧ HT.sIx xs.length xs.length hi = xs.length) : MP.cut xs lo hi = xs := by
  unfold MP.cut
  have e : ∀ n d o, HT.sIx n d o = MP.sIx n d o := fun n d o => by cases o <;> rfl
  rw [← e, ← e, h.1, h.2, List.drop_zero, Nat.sub_zero, List.take_length]
def rCut (K : PySem.W.Frag) : V → Option Int → Option Int → Hp → VK → Prop := fun x lo hi H Q => ∃ N d w, VR K H N x d ∧ cutOp lo hi d = some w ∧ ∀ v H', Op1 K H N w v H' → Q v H'
theorem sl_cut : SlR X (rCut X.K) := by
  intro pins s σ H x v vl vu lo hi sl Q I rx hs pl pu h
  obtain ⟨N, d, w, hd, ho, q⟩ := h
  unfold cutOp at ho
  split at ho
  · cases ho
    obtain ⟨a, vs, rfl, h1, h2, h3⟩ := hd
    refine sl_list pins s σ H _ v vl vu lo hi sl Q I rx hs pl pu ⟨a, vs, rfl, .of h1, fun p hp => ?_⟩
    rw [cut_eq]
    exact q _ _ (.list hp (h2.cut lo hi) (Nat.le_trans (cut_len _ _ _) h3))
  · cases ho
    obtain ⟨a, vs, rfl, h1, h2, h3⟩ := vr_tup hd
    refine sl_tupA pins s σ H _ v vl vu lo hi sl Q I rx hs pl pu ⟨a, vs, rfl, h1, fun e => ?_, fun _ p hp => ?_⟩
    · refine q _ _ (.same ?_)
      rw [h2.length] at e
      rw [cut_whole e]
      exact hd
    · rw [cut_eq]
      exact q _ _ (.tup hp (h2.cut lo hi) (Nat.le_trans (cut_len _ _ _) h3))
  · rename_i ns
    cases ho
    cases (show Rep X.K H N x (.scr ns) from hd) with
    | scr h1 h2 =>
      refine sl_list pins s σ H _ v vl vu lo hi sl Q I rx hs pl pu ⟨_, _, rfl, h1.sq, fun p hp => ?_⟩
      rw [cut_eq, cut_map]
      refine q _ _ (.list hp Reps.ints ?_)
      rw [List.length_map]
      exact Nat.le_trans (cut_len _ _ _) h2
  · cases ho
end
end MP

-- part Mp5
set_option maxHeartbeats 1000000
/-! Built-in functions on values. -/
namespace MP
open PySem PySem.Spec PyProof.Rows L2

/-! ### sorted ints -/
theorem insI_perm (x : Int) : ∀ l : List Int, (insI x l).Perm (x :: l)
  | [] => List.Perm.refl _
  | y :: r => by
    unfold insI
    split
    · exact List.Perm.refl _
    · exact ((insI_perm x r).cons y).trans (List.Perm.swap x y r)
theorem sortI_perm : ∀ l : List Int, (sortI l).Perm l
  | [] => List.Perm.refl _
  | x :: r => (insI_perm x _).trans ((sortI_perm r).cons x)
theorem insI_sorted (x : Int) : ∀ l : List Int, l.Pairwise (· ≤ ·) → (insI x l).Pairwise (· ≤ ·)
  | [], _ => List.pairwise_singleton _ _
  | y :: r, h => by
    unfold insI
    split
    · rename_i hxy
      refine List.pairwise_cons.mpr ⟨fun z hz => ?_, h⟩
      rcases List.mem_cons.mp hz with e | hz
      · rw [e]; exact hxy
      · exact Int.le_trans hxy ((List.pairwise_cons.mp h).1 z hz)
    · rename_i hxy
      refine List.pairwise_cons.mpr ⟨fun z hz => ?_, insI_sorted x r (List.pairwise_cons.mp h).2⟩
      rcases List.mem_cons.mp ((insI_perm x r).mem_iff.mp hz) with e | hz
      · rw [e]; omega
      · exact (List.pairwise_cons.mp h).1 z hz
theorem sortI_sorted : ∀ l : List Int, (sortI l).Pairwise (· ≤ ·)
  | [] => List.Pairwise.nil
  | x :: r => insI_sorted x _ (sortI_sorted r)
theorem sortI_is {l m : List Int} (hp : m.Perm l) (hs : m.Pairwise (· ≤ ·)) : m = sortI l :=
  (hp.trans (sortI_perm l).symm).eq_of_pairwise (fun x y _ _ h1 h2 => Int.le_antisymm h1 h2) hs (sortI_sorted l)
theorem minI_spec : ∀ (l : List Int) (n : Int), minI n l ∈ n :: l ∧ ∀ y ∈ n :: l, minI n l ≤ y
  | [], n => ⟨List.mem_cons_self, fun y hy => by
    rcases List.mem_cons.mp hy with e | hy
    · rw [e]; exact Int.le_refl _
    · cases hy⟩
  | x :: r, n => by
    obtain ⟨h1, h2⟩ := minI_spec r (if x < n then x else n)
    unfold minI
    refine ⟨?_, fun y hy => ?_⟩
    · rcases List.mem_cons.mp h1 with e | h1
      · rw [e]
        split
        · exact List.mem_cons_of_mem _ List.mem_cons_self
        · exact List.mem_cons_self
      · exact List.mem_cons_of_mem _ (List.mem_cons_of_mem _ h1)
    · have h0 := h2 _ List.mem_cons_self
      rcases List.mem_cons.mp hy with e | hy
      · rw [e]; split at h0 <;> rename_i h <;> (first | rw [if_pos h] | rw [if_neg h]) <;> omega
      · rcases List.mem_cons.mp hy with e | hy
        · rw [e]; split at h0 <;> rename_i h <;> (first | rw [if_pos h] | rw [if_neg h]) <;> omega
        · exact h2 y (List.mem_cons_of_mem _ hy)
theorem maxI_spec : ∀ (l : List Int) (n : Int), maxI n l ∈ n :: l ∧ ∀ y ∈ n :: l, y ≤ maxI n l
  | [], n => ⟨List.mem_cons_self, fun y hy => by
    rcases List.mem_cons.mp hy with e | hy
    · rw [e]; exact Int.le_refl _
    · cases hy⟩
  | x :: r, n => by
    obtain ⟨h1, h2⟩ := maxI_spec r (if x > n then x else n)
    unfold maxI
    refine ⟨?_, fun y hy => ?_⟩
    · rcases List.mem_cons.mp h1 with e | h1
      · rw [e]
        split
        · exact List.mem_cons_of_mem _ List.mem_cons_self
        · exact List.mem_cons_self
      · exact List.mem_cons_of_mem _ (List.mem_cons_of_mem _ h1)
    · have h0 := h2 _ List.mem_cons_self
      rcases List.mem_cons.mp hy with e | hy
      · rw [e]; split at h0 <;> rename_i h <;> (first | rw [if_pos h] | rw [if_neg h]) <;> omega
      · rcases List.mem_cons.mp hy with e | hy
        · rw [e]; split at h0 <;> rename_i h <;> (first | rw [if_pos h] | rw [if_neg h]) <;> omega
        · exact h2 y (List.mem_cons_of_mem _ hy)
theorem nodupI_iff : ∀ {l : List Int}, nodupI l = true → l.Nodup
  | [], _ => List.nodup_nil
  | x :: l, h => by
    unfold nodupI at h
    simp only [Bool.and_eq_true, Bool.not_eq_true', List.contains_eq_mem, decide_eq_false_iff_not] at h
    exact List.nodup_cons.mpr ⟨h.1, nodupI_iff h.2⟩

/-! ### lists of ints, of truth values -/
theorem getsI_is : ∀ {xs : List D} {ns : List Int}, getsI xs = some ns → xs = ns.map D.int
  | [], _, e => by cases e; rfl
  | .int i :: r, ns, e => by
    have e' : (getsI r).map (i :: ·) = some ns := e
    cases q : getsI r with
    | none => rw [q] at e'; cases e'
    | some ms => rw [q] at e'; cases e'; rw [getsI_is q]; rfl
  | .non :: _, _, e => by cases e
  | .bl _ :: _, _, e => by cases e
  | .str _ :: _, _, e => by cases e
  | .tup _ :: _, _, e => by cases e
  | .lst _ :: _, _, e => by cases e
  | .scr _ :: _, _, e => by cases e
  | .dct _ :: _, _, e => by cases e
theorem getsB_is : ∀ {xs : List D} {bs : List Bool}, getsB xs = some bs → xs = bs.map D.bl
  | [], _, e => by cases e; rfl
  | .bl i :: r, ns, e => by
    have e' : (getsB r).map (i :: ·) = some ns := e
    cases q : getsB r with
    | none => rw [q] at e'; cases e'
    | some ms => rw [q] at e'; cases e'; rw [getsB_is q]; rfl
  | .non :: _, _, e => by cases e
  | .int _ :: _, _, e => by cases e
  | .str _ :: _, _, e => by cases e
  | .tup _ :: _, _, e => by cases e
  | .lst _ :: _, _, e => by cases e
  | .scr _ :: _, _, e => by cases e
  | .dct _ :: _, _, e => by cases e
section
variable {K : PySem.W.Frag} {H : Hp} {N : Addr → Prop}
theorem reps_ints : ∀ {vs : List V} {ns : List Int}, Reps K H N vs (ns.map D.int) → vs = ns.map V.int
  | _, [], h => by cases h; rfl
  | _, n :: ns, h => by
    cases h with
    | cons h1 h2 => cases h1; rw [reps_ints h2]; rfl
theorem reps_bls : ∀ {vs : List V} {bs : List Bool}, Reps K H N vs (bs.map D.bl) → vs = bs.map V.bl
  | _, [], h => by cases h; rfl
  | _, n :: ns, h => by
    cases h with
    | cons h1 h2 => cases h1; rw [reps_bls h2]; rfl
theorem VRs.one {vs : List V} {d : D} (h : VRs K H N vs [d]) : ∃ v, vs = [v] ∧ VR K H N v d := by
  cases h with
  | cons h t => cases t; exact ⟨_, rfl, h⟩
theorem VRs.two {vs : List V} {d e : D} (h : VRs K H N vs [d, e]) : ∃ v u, vs = [v, u] ∧ VR K H N v d ∧ VR K H N u e := by
  cases h with
  | cons h t =>
    cases t with
    | cons h2 t => cases t; exact ⟨_, _, rfl, h, h2⟩
end

def rBi (K : PySem.W.Frag) (b : Bi) : List V → Hp → VK → Prop := fun xs H Q => ∃ N ds w, VRs K H N xs ds ∧ biOp b ds = some w ∧ ∀ v H', Op1 K H N w v H' → Q v H'
section
variable {X : Cx}
theorem str_len (z : List Nat) : (⟨z.toArray⟩ : Str).length = z.length := by
  show z.toArray.size = _
  rw [List.size_toArray]
theorem cr_len' : CallR X (.builtin "len") (rBi X.K .len) := by
  intro pins s σ H xs us Q I r h
  obtain ⟨N, ds, w, hd, ho, q⟩ := h
  replace ho : biLen ds = some w := ho
  unfold biLen at ho
  split at ho
  · cases ho
    obtain ⟨v, rfl, a, vs, rfl, h1, h2, h3⟩ := hd.one
    refine call_len_seq pins s σ H _ us Q I r ⟨a, vs, rfl, .inl (.of h1), ?_⟩
    rw [h2.length]
    exact q _ _ (.same (.int _))
  · cases ho
    obtain ⟨v, rfl, hv⟩ := hd.one
    obtain ⟨a, vs, rfl, h1, h2, h3⟩ := vr_tup hv
    refine call_len_seq pins s σ H _ us Q I r ⟨a, vs, rfl, .inr h1, ?_⟩
    rw [h2.length]
    exact q _ _ (.same (.int _))
  · rename_i z
    cases ho
    obtain ⟨v, rfl, hv⟩ := hd.one
    obtain ⟨rfl, h2⟩ := vr_str hv
    refine call_len_str pins s σ H _ us Q I r ⟨_, rfl, ?_, ?_⟩
    · rw [str_len]; exact Nat.le_trans h2 LIM_le
    · rw [str_len]
      exact q _ _ (.same (.int _))
  · cases ho
theorem cr_sum' (hc : X.calm = true) : CallR X (.builtin "sum") (rBi X.K .sum) := by
  intro pins s σ H xs us Q I r h
  obtain ⟨N, ds, w, hd, ho, q⟩ := h
  replace ho : biSum ds = some w := ho
  unfold biSum at ho
  split at ho
  · rename_i ys
    cases e : getsI ys with
    | none => rw [e] at ho; cases ho
    | some ns =>
      rw [e] at ho
      cases ho
      have := getsI_is e
      subst this
      obtain ⟨v, rfl, a, vs, rfl, h1, h2, h3⟩ := hd.one
      have := reps_ints h2
      subst this
      exact cr_sum hc pins s σ H _ us Q I r ⟨a, ns, rfl, .of h1, q _ _ (.same (.int _))⟩
  · cases ho
theorem cr_all' (hc : X.calm = true) : CallR X (.builtin "all") (rBi X.K .all) := by
  intro pins s σ H xs us Q I r h
  obtain ⟨N, ds, w, hd, ho, q⟩ := h
  replace ho : biAll ds = some w := ho
  unfold biAll at ho
  split at ho
  · rename_i ys
    cases e : getsB ys with
    | none => rw [e] at ho; cases ho
    | some ns =>
      rw [e] at ho
      cases ho
      have := getsB_is e
      subst this
      obtain ⟨v, rfl, a, vs, rfl, h1, h2, h3⟩ := hd.one
      have := reps_bls h2
      subst this
      exact cr_all hc pins s σ H _ us Q I r ⟨a, ns, rfl, .of h1, q _ _ (.same (.bl _))⟩
  · cases ho
theorem cr_any' (hc : X.calm = true) : CallR X (.builtin "any") (rBi X.K .any) := by
  intro pins s σ H xs us Q I r h
  obtain ⟨N, ds, w, hd, ho, q⟩ := h
  replace ho : biAny ds = some w := ho
  unfold biAny at ho
  split at ho
  · rename_i ys
    cases e : getsB ys with
    | none => rw [e] at ho; cases ho
    | some ns =>
      rw [e] at ho
      cases ho
      have := getsB_is e
      subst this
      obtain ⟨v, rfl, a, vs, rfl, h1, h2, h3⟩ := hd.one
      have := reps_bls h2
      subst this
      exact cr_any hc pins s σ H _ us Q I r ⟨a, ns, rfl, .of h1, q _ _ (.same (.bl _))⟩
  · cases ho
theorem cr_list' : CallR X (.type "list") (rBi X.K .list) := by
  intro pins s σ H xs us Q I r h
  obtain ⟨N, ds, w, hd, ho, q⟩ := h
  replace ho : biList ds = some w := ho
  unfold biList at ho
  split at ho
  · rename_i d
    obtain ⟨v, rfl, hv⟩ := hd.one
    unfold items at ho
    split at ho
    · cases ho
      obtain ⟨a, vs, rfl, h1, h2, h3⟩ := hv
      exact call_list_of pins s σ H _ us Q I r ⟨a, vs, rfl, .inl (.of h1), fun l hl => q _ _ (.list hl h2 h3)⟩
    · cases ho
      obtain ⟨a, vs, rfl, h1, h2, h3⟩ := vr_tup hv
      exact call_list_of pins s σ H _ us Q I r ⟨a, vs, rfl, .inr h1, fun l hl => q _ _ (.list hl h2 h3)⟩
    · cases ho
  · cases ho
theorem cr_tuple' : CallR X (.type "tuple") (rBi X.K .tuple) := by
  intro pins s σ H xs us Q I r h
  obtain ⟨N, ds, w, hd, ho, q⟩ := h
  replace ho : biTuple ds = some w := ho
  unfold biTuple at ho
  split at ho
  · cases ho
    obtain ⟨v, rfl, a, vs, rfl, h1, h2, h3⟩ := hd.one
    exact call_tuple_of pins s σ H _ us Q I r ⟨a, vs, rfl, .inl ⟨.of h1, fun l hl => q _ _ (.tup hl h2 h3)⟩⟩
  · cases ho
    obtain ⟨v, rfl, hv⟩ := hd.one
    obtain ⟨a, vs, rfl, h1, h2, h3⟩ := vr_tup hv
    exact call_tuple_of pins s σ H _ us Q I r ⟨a, vs, rfl, .inr ⟨h1, q _ _ (.same hv)⟩⟩
  · cases ho
theorem Reps.pairs {K : PySem.W.Frag} {H : Hp} {N : Addr → Prop} : ∀ {vs : List V} {ds : List D}, Reps K H N vs ds → ∃ ps : List (V × D), ps.map (·.1) = vs ∧ ps.map (·.2) = ds ∧ ∀ p ∈ ps, Rep K H N p.1 p.2
  | _, [], h => by cases h; exact ⟨[], rfl, rfl, fun _ z => nomatch z⟩
  | _, d :: ds, h => by
    cases h with
    | cons h1 h2 =>
      obtain ⟨ps, e1, e2, e3⟩ := Reps.pairs h2
      refine ⟨(_, d) :: ps, by rw [List.map_cons, e1], by rw [List.map_cons, e2], fun p hp => ?_⟩
      rcases List.mem_cons.mp hp with e | hp
      · subst e; exact h1
      · exact e3 p hp
theorem Reps.ofPairs {K : PySem.W.Frag} {H : Hp} {N : Addr → Prop} : ∀ {ps : List (V × D)}, (∀ p ∈ ps, Rep K H N p.1 p.2) → Reps K H N (ps.map (·.1)) (ps.map (·.2))
  | [], _ => .nil
  | p :: ps, h => .cons (h p List.mem_cons_self) (Reps.ofPairs fun q hq => h q (List.mem_cons_of_mem _ hq))
theorem plns_mem : ∀ {ds : List D}, plns ds = true → ∀ d ∈ ds, pln d = true
  | [], _, _, h => nomatch h
  | x :: xs, h, d, hd => by
    rw [plns, Bool.and_eq_true] at h
    rcases List.mem_cons.mp hd with e | hd
    · subst e; exact h.1
    · exact plns_mem h.2 d hd
theorem deps_mem : ∀ {ds : List D} {d : D}, d ∈ ds → dep d ≤ deps ds
  | x :: xs, d, hd => by
    rw [deps]
    rcases List.mem_cons.mp hd with e | hd
    · subst e; exact Nat.le_max_left _ _
    · exact Nat.le_trans (deps_mem hd) (Nat.le_max_right _ _)
/-- machine values with their pairs -/
theorem each_pairs {X : Cx} {pins : List (Addr × Obj)} {σ : L2.St} {H : Hp} {s : Shared} {N : Addr → Prop} (I : Inv X pins σ H s) : ∀ {ps : List (V × D)} {us : List Value}, Vals (ps.map (·.1)) us → (∀ p ∈ ps, Rep X.K H N p.1 p.2) → (∀ p ∈ ps, pln p.2 = true) →
    PySem.W.EachIs (fun (v : Value) (p : V × D) => RelV p.1 v) us ps ∧ PySem.W.EachIs (fun (v : Value) (p : V × D) => ∃ as, Reads s.heap v (py p.2) as) us ps
  | [], _, r, _, _ => by cases r; exact ⟨.nil, .nil⟩
  | p :: ps, _, r, h, pl => by
    cases r with
    | cons r1 r2 =>
      obtain ⟨g1, g2⟩ := each_pairs I r2 (fun q hq => h q (List.mem_cons_of_mem _ hq)) fun q hq => pl q (List.mem_cons_of_mem _ hq)
      exact ⟨.cons r1 g1, .cons (Dp.reads I _ _ _ ((h p List.mem_cons_self).dp (pl p List.mem_cons_self)) r1) g2⟩
theorem each_vals : ∀ {ps : List (V × D)} {us : List Value}, PySem.W.EachIs (fun (v : Value) (p : V × D) => RelV p.1 v) us ps → Vals (ps.map (·.1)) us
  | [], _, h => by cases h; exact .nil
  | p :: ps, _, h => by
    cases h with
    | cons h1 h2 => exact .cons h1 (each_vals h2)
theorem srt_data {ds : List D} (h : srtOk ds = true) : plns ds = true ∧ deps ds ≤ 60 ∧ (∀ d ∈ ds, ∀ e ∈ ds, alD d e = true) ∧ PySem.W.AllAlike (ds.map py) ∧ PySem.W.Sortable (ds.map py) := by
  unfold srtOk at h
  simp only [Bool.and_eq_true, Bool.or_eq_true, decide_eq_true_eq] at h
  obtain ⟨⟨⟨h1, h2⟩, h3⟩, h4⟩ := h
  have al : ∀ d ∈ ds, ∀ e ∈ ds, alD d e = true := fun d hd e he => List.all_eq_true.mp (List.all_eq_true.mp h1 d hd) e he
  refine ⟨h2, h3, al, fun x hx y hy => ?_, ?_⟩
  · obtain ⟨d, hd, rfl⟩ := List.mem_map.mp hx
    obtain ⟨e, he, rfl⟩ := List.mem_map.mp hy
    exact alD_py _ _ (al d hd e he)
  · rcases h4 with h4 | h4
    · refine .inl fun x hx => ?_
      obtain ⟨d, hd, rfl⟩ := List.mem_map.mp hx
      have := List.all_eq_true.mp h4 d hd
      cases d <;> first | (cases this; done) | skip
      rename_i xs
      cases xs with
      | nil => cases this
      | cons x r => exact ⟨py x, pys r, by rw [py, pys]⟩
    · refine .inr fun x hx => ?_
      obtain ⟨d, hd, rfl⟩ := List.mem_map.mp hx
      have := List.all_eq_true.mp h4 d hd
      cases d <;> first | (cases this; done) | (constructor <;> simp [py])
/-- sorted(xs), data -/
theorem cr_sortedD {N : Addr → Prop} : CallR X (.builtin "sorted") fun xs H Q => ∃ (a : Addr) (vs : List V) (ds : List D), xs = [V.ref a] ∧ SqL X.K H a vs ∧ Reps X.K H N vs ds ∧ srtOk ds = true ∧ ds.length ≤ sizeLine ∧ X.A.units + 200 < cLine ∧
    ∀ p us, H p = none → Reps X.K H N us (sortD ds) → Q (.ref p) (upd H p (.lst us)) := by
  intro pins s σ H xs us Q I r h
  obtain ⟨a, vs, ds, rfl, hs, hr, hk, hz, hu, q⟩ := h
  obtain ⟨k1, k2, k3, k4, k5⟩ := srt_data hk
  obtain ⟨ps, rfl, rfl, hp⟩ := hr.pairs
  obtain ⟨its, rv, hl, _⟩ := I.list hs
  rw [Vals.ref1 r]
  obtain ⟨e1, e2⟩ := each_pairs I rv hp fun p z => plns_mem k1 _ (List.mem_map.mpr ⟨p, z, rfl⟩)
  have em : (ps.map fun p => py p.2) = (ps.map (·.2)).map py := by rw [List.map_map]; rfl
  refine PySem.W.sorted_data (enc := fun p : V × D => py p.2) hl.isList e1 e2 (by rw [em]; exact k4) (by rw [em]; exact k5) (by rw [List.length_map] at hz; exact hz) (fun b hb => ?_) fun out ho eo => ?_
  · rw [py_dep]
    have := deps_mem (List.mem_map.mpr ⟨b, hb, rfl⟩ : b.2 ∈ ps.map (·.2))
    omega
  · have hmem : ∀ x ∈ ps, ∀ y ∈ ps, PySem.W.dataLe false (fun p : V × D => py p.2) x y = !ltD y.2 x.2 := fun x hx y hy => by
      have m1 : x.2 ∈ ps.map (·.2) := List.mem_map.mpr ⟨x, hx, rfl⟩
      have m2 : y.2 ∈ ps.map (·.2) := List.mem_map.mpr ⟨y, hy, rfl⟩
      rw [PySem.W.dataLe_eq, ltD_py _ _ (k3 _ m2 _ m1) (plns_mem k1 _ m2) (plns_mem k1 _ m1)]
      try rfl
    have es : (ps.mergeSort (PySem.W.dataLe false fun p : V × D => py p.2)).map (·.2) = sortD (ps.map (·.2)) := List.map_mergeSort hmem
    have pm := List.mergeSort_perm ps (PySem.W.dataLe false fun p : V × D => py p.2)
    have rs := Reps.ofPairs (ps := ps.mergeSort (PySem.W.dataLe false fun p : V × D => py p.2)) fun p z => hp p (pm.mem_iff.mp z)
    rw [es] at rs
    obtain ⟨ep, he⟩ := PyProof.Rows.sortedAll_at s.heap its out.toArray
    have vo := each_vals eo
    have hlen : ((ps.mergeSort (PySem.W.dataLe false fun p : V × D => py p.2)).map (·.1)).length ≤ sizeLine := by
      rw [List.length_map, pm.length_eq]
      rwa [List.length_map] at hz
    exact ⟨.ref _, upd H (s.heap.objs.size + 1) (.lst ((ps.mergeSort (PySem.W.dataLe false fun p : V × D => py p.2)).map (·.1))), I.laid (t' := s.toks) (fun _ _ => PyProof.Rows.sortedAll_old) (Nat.le_succ _) ⟨hlen, out, ep, vo, he⟩, rfl, q _ _ (I.hok.fresh (Nat.le_succ _)) rs⟩
mutual
theorem reads_in {h : Heap} : ∀ (d : D) (v : Value) (as : List Addr), pln d = true → Reads h v (py d) as → ∀ a ∈ as, ∃ o, h.get? a = some o
  | .non, _, _, _, r => by rw [py] at r; cases r; exact fun _ z => nomatch z
  | .bl _, _, _, _, r => by rw [py] at r; cases r; exact fun _ z => nomatch z
  | .int _, _, _, _, r => by rw [py] at r; cases r; exact fun _ z => nomatch z
  | .str _, _, _, _, r => by rw [py] at r; cases r; exact fun _ z => nomatch z
  | .tup xs, _, _, p, r => by
    rw [py] at r
    cases r with
    | tuple h1 h2 h3 h4 => exact reads_ins xs _ _ (by rwa [pln] at p) h4
  | .lst xs, _, _, p, r => by
    rw [py] at r
    cases r with
    | list h1 h2 h3 h4 =>
      intro a ha
      rcases List.mem_cons.mp ha with e | ha
      · rw [e]; exact ⟨_, h1⟩
      · exact reads_ins xs _ _ (by rwa [pln] at p) h4 a ha
  | .scr _, _, _, p, _ => by cases p
  | .dct _, _, _, p, _ => by cases p
theorem reads_ins {h : Heap} : ∀ (ds : List D) (vs : List Value) (as : List Addr), plns ds = true → ReadsAll h vs (pys ds) as → ∀ a ∈ as, ∃ o, h.get? a = some o
  | [], _, _, _, r => by rw [pys] at r; cases r; exact fun _ z => nomatch z
  | d :: ds, _, _, p, r => by
    rw [plns, Bool.and_eq_true] at p
    rw [pys] at r
    cases r with
    | cons h1 h2 =>
      intro a ha
      rcases List.mem_append.mp ha with ha | ha
      · exact reads_in d _ _ p.1 h1 a ha
      · exact reads_ins ds _ _ p.2 h2 a ha
end
set_option maxHeartbeats 4000000 in
theorem cr_sortedTup (hu : X.A.units + 200 < cLine) {N : Addr → Prop} : CallR X (.builtin "sorted") fun xs H Q => ∃ (a : Addr) (vs : List V) (ds : List D), xs = [V.ref a] ∧ SqT X.K H a vs ∧ Reps X.K H N vs ds ∧ srtOk ds = true ∧ ds.length ≤ sizeLine ∧
    ∀ p us, H p = none → Reps X.K H N us (sortD ds) → Q (.ref p) (upd H p (.lst us)) := by
  intro pins s σ H xs us Q I r h
  obtain ⟨a, vs, ds, rfl, hs, hr, hk, hz, q⟩ := h
  obtain ⟨k1, k2, k3, k4, k5⟩ := srt_data hk
  obtain ⟨ps, rfl, rfl, hp⟩ := hr.pairs
  obtain ⟨its, rv, ⟨o, ho, hc, n, hd⟩, _⟩ := I.tuple hs
  rw [Vals.ref1 r]
  have em : (ps.map fun p => py p.2) = (ps.map (·.2)).map py := by rw [List.map_map]; rfl
  have hz' : ps.length ≤ sizeLine := by rwa [List.length_map] at hz
  have hlen : its.length = ps.length := by have := rv.length; rw [List.length_map] at this; exact this.symm
  refine Calls.call_function_entry kind_sorted plain_sorted entry_sorted (args_sorted1 _) ?_
  unfold Builtin.«sorted»
  refine wpAny_bind (m := checkCount "sorted" 1 1 _) (wpAny_pure ?_)
  refine wpAny_bind (wpAny_collect_seq a (.inr rfl) ho hc hd (fun h' kp => ?_) (by rw [List.size_toArray]; omega))
  rw [List.toList_toArray]
  have I1 : Inv X pins σ H { s with heap := h', toks := s.toks } := I.kept kp
  obtain ⟨e1, e2⟩ := each_pairs I1 rv hp fun p z => plns_mem k1 _ (List.mem_map.mpr ⟨p, z, rfl⟩)
  refine wpAny_bind (wpAny_newList ?_ (by rw [sizeLine_eq] at *; omega))
  have hoL : (h'.push (seqObj "list" its.toArray 0)).get? h'.objs.size = some (seqObj "list" its.toArray 0) := Heap.get?_push_size _ rfl
  have e3 : PySem.W.EachIs (fun (v : Value) (p : V × D) => ∃ as, Reads (h'.push (seqObj "list" its.toArray 0)) v (py p.2) as ∧ h'.objs.size ∉ as) its ps := by
    have all : ∀ (us : List Value) (qs : List (V × D)), (∀ p ∈ qs, pln p.2 = true) → PySem.W.EachIs (fun (v : Value) (p : V × D) => ∃ as, Reads h' v (py p.2) as) us qs → PySem.W.EachIs (fun (v : Value) (p : V × D) => ∃ as, Reads (h'.push (seqObj "list" its.toArray 0)) v (py p.2) as ∧ h'.objs.size ∉ as) us qs := fun us qs hq h => by
      induction h with
      | nil => exact .nil
      | cons h1 _ ih =>
        obtain ⟨as, ra⟩ := h1
        refine .cons ⟨as, PyProof.Rows.Reads.keeps (fun b u e => Heap.get?_push_of_some _ e) ra, fun z => ?_⟩ (ih fun p hp => hq p (List.mem_cons_of_mem _ hp))
        obtain ⟨u, hu⟩ := reads_in _ _ _ (hq _ List.mem_cons_self) ra _ z
        exact absurd (Heap.lt_size hu) (Nat.lt_irrefl _)
    exact all its ps (fun p z => plns_mem k1 _ (List.mem_map.mpr ⟨p, z, rfl⟩)) e2
  refine wpAny_bind (wpAny_holding (PySem.W.list_sort_data (s := { s with heap := h'.push (seqObj "list" its.toArray 0) }) (enc := fun p : V × D => py p.2) hoL e1 e3 (by rw [em]; exact k4) (by rw [em]; exact k5) hz' (fun b hb => ?_) fun out hol eo => ?_))
  · rw [py_dep]
    have := deps_mem (List.mem_map.mpr ⟨b, hb, rfl⟩ : b.2 ∈ ps.map (·.2))
    show X.A.units + 1 + 1 + dep b.2 < cLine
    omega
  · have hmem : ∀ x ∈ ps, ∀ y ∈ ps, PySem.W.dataLe false (fun p : V × D => py p.2) x y = !ltD y.2 x.2 := fun x hx y hy => by
      have m1 : x.2 ∈ ps.map (·.2) := List.mem_map.mpr ⟨x, hx, rfl⟩
      have m2 : y.2 ∈ ps.map (·.2) := List.mem_map.mpr ⟨y, hy, rfl⟩
      rw [PySem.W.dataLe_eq, ltD_py _ _ (k3 _ m2 _ m1) (plns_mem k1 _ m2) (plns_mem k1 _ m1)]
      try rfl
    have es : (ps.mergeSort (PySem.W.dataLe false fun p : V × D => py p.2)).map (·.2) = sortD (ps.map (·.2)) := List.map_mergeSort hmem
    have pm := List.mergeSort_perm ps (PySem.W.dataLe false fun p : V × D => py p.2)
    have rs := Reps.ofPairs (ps := ps.mergeSort (PySem.W.dataLe false fun p : V × D => py p.2)) fun p z => hp p (pm.mem_iff.mp z)
    rw [es] at rs
    obtain ⟨ep, he⟩ := sortedHeap_at (vs := its) (out := out.toArray) hoL
    have vo := each_vals eo
    have hlen' : ((ps.mergeSort (PySem.W.dataLe false fun p : V × D => py p.2)).map (·.1)).length ≤ sizeLine := by
      rw [List.length_map, pm.length_eq]; exact hz'
    refine wpAny_pure ⟨_, rfl, .ref h'.objs.size, upd H h'.objs.size (.lst ((ps.mergeSort (PySem.W.dataLe false fun p : V × D => py p.2)).map (·.1))), I1.laid (t' := s.toks) (fun b u e => ?_) (Nat.le_refl _) ⟨hlen', out, ep, vo, he⟩, rfl, q _ _ (I1.hok.fresh (Nat.le_refl _)) rs⟩
    rw [sortedHeap_old (Nat.ne_of_lt (Heap.lt_size e)) (by rw [size_push']; exact Nat.lt_succ_of_lt (Heap.lt_size e))]
    exact Heap.get?_push_of_some _ e
theorem sortD_len (ds : List D) : (sortD ds).length = ds.length := (List.mergeSort_perm ds _).length_eq
theorem cr_sorted' (hu : X.A.units + 200 < cLine) : CallR X (.builtin "sorted") (rBi X.K .sorted) := by
  intro pins s σ H xs us Q I r h
  obtain ⟨N, ds, w, hd, ho, q⟩ := h
  replace ho : biSorted ds = some w := ho
  unfold biSorted at ho
  split at ho
  · rename_i ys
    obtain ⟨v, rfl, a, vs, rfl, h1, h2, h3⟩ := hd.one
    cases e : getsI ys with
    | none =>
      rw [e] at ho
      replace ho : (if srtOk ys then some (W.own (sortD ys)) else none) = some w := ho
      split at ho
      · rename_i hk
        cases ho
        exact cr_sortedD (N := N) pins s σ H _ us Q I r ⟨a, vs, ys, rfl, .of h1, h2, hk, h3, hu, fun p zs hn hz => q _ _ (.list hn hz (by rw [sortD_len]; exact h3))⟩
      · cases ho
    | some ns =>
      rw [e] at ho
      cases ho
      have := getsI_is e
      subst this
      have := reps_ints h2
      subst this
      refine cr_sortedI pins s σ H _ us Q I r ⟨a, ns, rfl, .of h1, fun ns' p hp hs hn => ?_⟩
      have := sortI_is hp hs
      subst this
      refine q _ _ (.list hn Reps.ints ?_)
      rw [List.length_map, hp.length_eq]
      rwa [List.length_map] at h3
  · rename_i ys
    split at ho
    · rename_i hk
      cases ho
      obtain ⟨v, rfl, hv⟩ := hd.one
      obtain ⟨a, vs, rfl, h1, h2, h3⟩ := vr_tup hv
      exact cr_sortedTup hu (N := N) pins s σ H _ us Q I r ⟨a, vs, ys, rfl, h1, h2, hk, h3, fun p zs hn hz => q _ _ (.list hn hz (by rw [sortD_len]; exact h3))⟩
    · cases ho
  · cases ho
theorem cr_abs' : CallR X (.builtin "abs") (rBi X.K .abs) := by
  intro pins s σ H xs us Q I r h
  obtain ⟨N, ds, w, hd, ho, q⟩ := h
  replace ho : biAbs ds = some w := ho
  unfold biAbs at ho
  split at ho
  · cases ho
    obtain ⟨v, rfl, hv⟩ := hd.one
    cases vr_int hv
    exact call_abs pins s σ H _ us Q I r ⟨_, rfl, q _ _ (.same (.int _))⟩
  · cases ho
theorem cr_int' : CallR X (.type "int") (rBi X.K .int) := by
  intro pins s σ H xs us Q I r h
  obtain ⟨N, ds, w, hd, ho, q⟩ := h
  replace ho : biInt ds = some w := ho
  unfold biInt at ho
  split at ho
  · cases ho
    obtain ⟨v, rfl, hv⟩ := hd.one
    cases vr_int hv
    exact call_int1 pins s σ H _ us Q I r (.inl ⟨_, rfl, q _ _ (.same (.int _))⟩)
  · cases ho
    obtain ⟨v, rfl, hv⟩ := hd.one
    cases vr_bl hv
    exact call_int1 pins s σ H _ us Q I r (.inr ⟨_, rfl, q _ _ (.same (.int _))⟩)
  · cases ho
mutual
theorem py_inj : ∀ d e : D, pln d = true → pln e = true → py d = py e → d = e
  | .non, e, _, h2, h => by cases e <;> first | rfl | (cases h2; done) | (simp [py] at h; done)
  | .bl _, e, _, h2, h => by cases e <;> first | (cases h2; done) | (simp [py] at h; done) | (simp [py] at h; rw [h])
  | .int _, e, _, h2, h => by cases e <;> first | (cases h2; done) | (simp [py] at h; done) | (simp [py] at h; rw [h])
  | .str s, e, _, h2, h => by
    cases e <;> first | (cases h2; done) | (simp [py] at h; done) | skip
    rename_i z
    have h' : s.toArray = z.toArray := by
      have := congrArg (fun p : PyData => match p with | .str x => x.cps | _ => #[]) h
      simpa [py] using this
    have := congrArg Array.toList h'
    simp at this
    rw [this]
  | .tup xs, e, h1, h2, h => by
    cases e <;> first | (cases h2; done) | (simp [py] at h; done) | skip
    rw [py, py] at h
    rw [py_injs xs _ (by rwa [pln] at h1) (by rwa [pln] at h2) (PyData.tuple.inj h)]
  | .lst xs, e, h1, h2, h => by
    cases e <;> first | (cases h2; done) | (simp [py] at h; done) | skip
    rw [py, py] at h
    rw [py_injs xs _ (by rwa [pln] at h1) (by rwa [pln] at h2) (PyData.list.inj h)]
  | .scr _, _, h1, _, _ => by cases h1
  | .dct _, _, h1, _, _ => by cases h1
theorem py_injs : ∀ xs ys : List D, plns xs = true → plns ys = true → pys xs = pys ys → xs = ys
  | [], [], _, _, _ => rfl
  | [], _ :: _, _, _, h => by simp [pys] at h
  | _ :: _, [], _, _, h => by simp [pys] at h
  | x :: xs, y :: ys, h1, h2, h => by
    rw [plns, Bool.and_eq_true] at h1 h2
    rw [pys, pys] at h
    rw [py_inj x y h1.1 h2.1 (List.cons.inj h).1, py_injs xs ys h1.2 h2.2 (List.cons.inj h).2]
end
theorem pys_map : ∀ ds : List D, pys ds = ds.map py
  | [] => rfl
  | d :: ds => by rw [pys, List.map_cons, pys_map ds]
theorem minD_py : ∀ (r : List D) (x : D), (∀ d ∈ x :: r, ∀ e ∈ x :: r, alD d e = true) → (∀ d ∈ x :: r, pln d = true) → py (minD x r) = PySem.W.minD (py x) (pys r) ∧ minD x r ∈ x :: r
  | [], x, _, _ => ⟨rfl, List.mem_cons_self⟩
  | y :: r, x, ha, hp => by
    have hx := hp x List.mem_cons_self
    have hy := hp y (List.mem_cons_of_mem _ List.mem_cons_self)
    have e := ltD_py y x (ha y (List.mem_cons_of_mem _ List.mem_cons_self) x List.mem_cons_self) hy hx
    have sub : ∀ d ∈ (if ltD y x then y else x) :: r, d ∈ x :: y :: r := fun d hd => by
      rcases List.mem_cons.mp hd with z | z
      · rw [z]
        split
        · exact List.mem_cons_of_mem _ List.mem_cons_self
        · exact List.mem_cons_self
      · exact List.mem_cons_of_mem _ (List.mem_cons_of_mem _ z)
    obtain ⟨g1, g2⟩ := minD_py r (if ltD y x then y else x) (fun d hd f hf => ha d (sub d hd) f (sub f hf)) fun d hd => hp d (sub d hd)
    rw [minD]
    refine ⟨g1.trans ?_, sub _ g2⟩
    unfold PySem.W.minD
    rw [pys, List.foldl_cons, ← e]
    split <;> rfl
mutual
theorem ns_lay : ∀ d : D, nsD d = true → (py d).canLay0 = true
  | .non, _ => rfl
  | .bl _, _ => rfl
  | .int _, _ => rfl
  | .str _, h => by simp [nsD] at h
  | .tup xs, h => by rw [nsD] at h; rw [py, PyData.canLay0]; exact ns_lays xs h
  | .lst xs, h => by rw [nsD] at h; rw [py, PyData.canLay0]; exact ns_lays xs h
  | .scr _, h => by simp [nsD] at h
  | .dct _, h => by simp [nsD] at h
theorem ns_lays : ∀ xs : List D, nsDs xs = true → PyData.canLayAll0 (pys xs) = true
  | [], _ => rfl
  | x :: xs, h => by
    rw [nsDs, Bool.and_eq_true] at h
    rw [pys, PyData.canLayAll0, ns_lay x h.1, ns_lays xs h.2]; rfl
end
theorem nsDs_mem : ∀ {ds : List D}, nsDs ds = true → ∀ d ∈ ds, nsD d = true
  | [], _, _, h => nomatch h
  | x :: xs, h, d, hd => by
    rw [nsDs, Bool.and_eq_true] at h
    rcases List.mem_cons.mp hd with e | hd
    · subst e; exact h.1
    · exact nsDs_mem h.2 d hd
theorem al_all {ds : List D} (h : alAll ds = true) : plns ds = true ∧ deps ds ≤ 60 ∧ (∀ d ∈ ds, ∀ e ∈ ds, alD d e = true) ∧ nsDs ds = true := by
  unfold alAll at h
  simp only [Bool.and_eq_true, decide_eq_true_eq] at h
  exact ⟨h.1.1.2, h.1.2, fun d hd e he => List.all_eq_true.mp (List.all_eq_true.mp h.1.1.1 d hd) e he, h.2⟩
theorem each_at : ∀ {ps : List (V × D)} {us : List Value} {i : Nat} {p : V × D} {u : Value}, Vals (ps.map (·.1)) us → ps[i]? = some p → us[i]? = some u → RelV p.1 u
  | [], _, _, _, _, _, h, _ => by simp at h
  | q :: ps, _, 0, p, u, r, h, g => by
    cases r with
    | cons r1 _ => simp at h g; subst h; subst g; exact r1
  | q :: ps, _, i + 1, p, u, r, h, g => by
    cases r with
    | cons _ r2 => exact each_at r2 (by simpa using h) (by simpa using g)
theorem cr_min1 (hc : X.calm = true) (hu : X.A.units + 200 < cLine) : CallR X (.builtin "min") (rBi X.K .min1) := by
  intro pins s σ H xs us Q I r h
  obtain ⟨N, ds, w, hd, ho, q⟩ := h
  replace ho : biMin1 ds = some w := ho
  unfold biMin1 at ho
  split at ho
  · rename_i ys
    obtain ⟨v, rfl, a, vs, rfl, h1, h2, h3⟩ := hd.one
    unfold min1 at ho
    cases e : getsI ys with
    | none =>
      rw [e] at ho
      dsimp only at ho
      cases ys with
      | nil => cases ho
      | cons x r' =>
        dsimp only at ho
        split at ho
        · rename_i hk
          cases ho
          obtain ⟨k1, k2, k3, k4⟩ := al_all hk
          obtain ⟨its, rv, hl, _⟩ := I.list (.of h1)
          rw [Vals.ref1 r]
          have al : PySem.W.AlikeAll (py x :: pys r') := by
            rw [← pys.eq_2, pys_map]
            refine ⟨fun d hd' e' he' => ?_, fun d hd' => ?_⟩
            · obtain ⟨d0, hd0, rfl⟩ := List.mem_map.mp hd'
              obtain ⟨e0, he0, rfl⟩ := List.mem_map.mp he'
              exact alD_py _ _ (k3 _ hd0 _ he0)
            · obtain ⟨d0, hd0, rfl⟩ := List.mem_map.mp hd'
              exact (al_non (k3 _ hd0 _ hd0)).1
          obtain ⟨as, hr⟩ := Dp.readsAll I _ _ _ (h2.dp k1) rv
          obtain ⟨m1, m2⟩ := minD_py r' x k3 (plns_mem k1)
          have hr' : ReadsAll s.heap its.toArray.toList (py x :: pys r') as := by simpa [pys] using hr
          have dp := pys_dep (x :: r')
          rw [pys] at dp
          refine PySem.W.min_list_data (x := py x) (xs := pys r') (as := as) (I.ok.hd hc) hl.isList hr' al (by rw [dp]; omega) fun i mv h' tk bs hi hrd hkp => ?_
          obtain ⟨ps, e1, e2, e3⟩ := h2.pairs
          have hi' : its[i]? = some mv := by simpa using hi
          have hlen := rv.length
          have hip : i < ps.length := by
            have := (List.getElem?_eq_some_iff.mp hi').1
            rw [← e1, List.length_map] at hlen
            omega
          have rel : RelV ps[i].1 mv := by
            have := each_at (e1 ▸ rv) (List.getElem?_eq_getElem hip) hi'
            exact this
          have hm : ps[i] ∈ ps := List.getElem_mem hip
          have hd2 : ps[i].2 ∈ x :: r' := by rw [← e2]; exact List.mem_map.mpr ⟨_, hm, rfl⟩
          have rp := e3 _ hm
          obtain ⟨bs2, rr⟩ := Dp.reads I _ _ _ (rp.dp (plns_mem k1 _ hd2)) rel
          have uq := (Reads.unique (PyProof.Rows.Reads.keeps hkp rr) _ _ hrd).1
          rw [← m1] at uq
          have ed := py_inj _ _ (plns_mem k1 _ hd2) (plns_mem k1 _ m2) uq
          exact ⟨ps[i].1, H, I.kept (t' := tk) hkp, rel, q _ _ (.same (by rw [← ed]; exact rp))⟩
        · cases ho
    | some ns =>
      rw [e] at ho
      cases ns with
      | nil => cases ho
      | cons n ns =>
        cases ho
        have := getsI_is e
        subst this
        have := reps_ints h2
        subst this
        refine cr_min hc pins s σ H _ us Q I r ⟨a, n :: ns, rfl, .of h1, Nat.succ_pos _, fun m hm hle => ?_⟩
        obtain ⟨g1, g2⟩ := minI_spec ns n
        have : m = minI n ns := Int.le_antisymm (hle _ g1) (g2 _ hm)
        subst this
        exact q _ _ (.same (.int _))
  · cases ho
theorem cr_max1 (hc : X.calm = true) : CallR X (.builtin "max") (rBi X.K .max1) := by
  intro pins s σ H xs us Q I r h
  obtain ⟨N, ds, w, hd, ho, q⟩ := h
  replace ho : biMax1 ds = some w := ho
  unfold biMax1 at ho
  split at ho
  · rename_i ys
    unfold max1 at ho
    cases e : getsI ys with
    | none => rw [e] at ho; cases ho
    | some ns =>
      rw [e] at ho
      cases ns with
      | nil => cases ho
      | cons n ns =>
        cases ho
        have := getsI_is e
        subst this
        obtain ⟨v, rfl, a, vs, rfl, h1, h2, h3⟩ := hd.one
        have := reps_ints h2
        subst this
        refine cr_max hc pins s σ H _ us Q I r ⟨a, n :: ns, rfl, .of h1, Nat.succ_pos _, fun m hm hle => ?_⟩
        obtain ⟨g1, g2⟩ := maxI_spec ns n
        have : m = maxI n ns := Int.le_antisymm (g2 _ hm) (hle _ g1)
        subst this
        exact q _ _ (.same (.int _))
  · cases ho
theorem cr_min2 (hc : X.calm = true) : CallR X (.builtin "min") (rBi X.K .min2) := by
  intro pins s σ H xs us Q I r h
  obtain ⟨N, ds, w, hd, ho, q⟩ := h
  replace ho : biMin2 ds = some w := ho
  unfold biMin2 at ho
  split at ho
  · cases ho
    obtain ⟨v, u, rfl, hv, hu⟩ := hd.two
    cases vr_int hv
    cases vr_int hu
    exact call_min2 hc pins s σ H _ us Q I r ⟨_, _, rfl, q _ _ (.same (.int _))⟩
  · cases ho
theorem cr_max2 (hc : X.calm = true) : CallR X (.builtin "max") (rBi X.K .max2) := by
  intro pins s σ H xs us Q I r h
  obtain ⟨N, ds, w, hd, ho, q⟩ := h
  replace ho : biMax2 ds = some w := ho
  unfold biMax2 at ho
  split at ho
  · cases ho
    obtain ⟨v, u, rfl, hv, hu⟩ := hd.two
    cases vr_int hv
    cases vr_int hu
    exact call_max2 hc pins s σ H _ us Q I r ⟨_, _, rfl, q _ _ (.same (.int _))⟩
  · cases ho
/-! ### isinstance -/
def tyS : Ty → String
  | .int => "int" | .bool => "bool" | .str => "str" | .tuple => "tuple" | .list => "list" | .dict => "dict"
def rIs (K : PySem.W.Frag) (t : Ty) : List V → Hp → VK → Prop := fun xs H Q => ∃ N d b x, xs = [x, .ty (tyS t)] ∧ VR K H N x d ∧ isTy t d = some b ∧ Q (.bl b) H
theorem tupX {K : PySem.W.Frag} {H : Hp} {a : Addr} {vs : List V} (h : SqT K H a vs) : TyX K H (.ref a) (.type "tuple") := by
  rcases h with (h | ⟨o, h⟩) | ⟨o, its, n, h1, h2, _⟩
  · exact .base (.tup h)
  · exact .fTuple h
  · exact .kTuple h1 h2
theorem cr_isi (t : Ty) : CallR X (.builtin "isinstance") (rIs X.K t) := by
  intro pins s σ H xs us Q I r h
  obtain ⟨N, d, b, x, rfl, hd, ho, q⟩ := h
  have go : ∀ {a : String} (hx : TyX X.K H x (.type a)) (hk : kitB a (tyS t) = some b), wpAny (model X.prog X.w) X.A (call (.builtin "isinstance") us) (EP X pins σ Q) X.xe s := fun {a} hx hk =>
    call_isi pins s σ H _ us Q I r ⟨x, .ty (tyS t), .type a, .type (tyS t), b, rfl, .ty _, hx, kit_ty hk, q⟩
  cases d with
  | non =>
    cases vr_non hd
    cases t <;> (cases ho; exact go (.base .non) (by decide +kernel))
  | bl i =>
    cases vr_bl hd
    cases t <;> (cases ho; exact go (.base (.bl _)) (by decide +kernel))
  | int i =>
    cases vr_int hd
    cases t <;> (cases ho; exact go (.base (.int _)) (by decide +kernel))
  | str z =>
    cases (vr_str hd).1
    cases t <;> (cases ho; exact go (.base (.str _)) (by decide +kernel))
  | tup ys =>
    obtain ⟨a, vs, rfl, h1, h2, h3⟩ := vr_tup hd
    cases t <;> (cases ho; exact go (tupX h1) (by decide +kernel))
  | lst ys =>
    obtain ⟨a, vs, rfl, h1, h2, h3⟩ := hd
    cases t <;> (cases ho; exact go (.base (.lst h1)) (by decide +kernel))
  | scr ns => cases t <;> cases ho
  | dct ys => cases (show Rep X.K H N x (.dct ys) from hd)
end
end MP

-- part Ms1
/-! set(xs) of a list or tuple: what the loop leaves, by any invariant; sets of ints, of tuples of ints (few unlike ones). -/
namespace MP
open PySem PySem.Spec PyProof.Rows L2
/-- a set as it is made -/
abbrev set0 (w : World) : Obj := { cls := .type "set", dict := none, data := .set #[] 0 (.fresh 0 0 (!w.params.followText "set-order")) }
section
variable {P : Program} {w : World} {A : Around} {E : Value → Shared → Prop} {s : Shared}
/-- what the loop is asked: from a new set at D to Post -/
def LoopOk (P : Program) (w : World) (A : Around) (s : Shared) (its : Array Value) (Post : Heap → Prop) : Prop := ∀ (D : Addr) (s1 : Shared) (fp wr : List Addr) (G : Array GenState → Array GenState → Prop) (St : Nat → Shared → Prop) (I : Addr) (R : Result → Shared → Prop),
  D = s.heap.objs.size → WalksS P w A.in1.in1.in1 I fp wr G its.size (fun i v => its[i]? = some v) St → D ∉ fp → (∀ b ∈ wr, D < b) → St 0 s1 → s1.heap.get? D = some (set0 w) → (∀ b o, s.heap.get? b = some o → s1.heap.get? b = some o) →
  (∀ s2, Moved (D :: wr) G s1 s2 → Post s2.heap → R (.ok (.ret .none)) s2) → codeAny (model P w) A.in1.in1 (.builtin "set.update.loop" ⟨[.ref D, .ref I], []⟩) R s1
set_option maxHeartbeats 3200000 in
theorem set_call {l : Addr} {its : Array Value} {Q : Value → Shared → Prop} (Post : Heap → Prop) (hh : A.handled = none) (hl : s.heap.IsList l its ∨ s.heap.IsTuple l its) (hloop : LoopOk P w A s its Post)
    (h : ∀ h2 tk, Post h2 → (∀ b o, s.heap.get? b = some o → h2.get? b = some o) → Q (.ref s.heap.objs.size) { s with heap := h2, toks := tk }) : wpAny (model P w) A (call (.type "set") [.ref l]) Q E s := by
  obtain ⟨mc, ml, hm1⟩ := F.called_set.mro
  have hm2 := F.called_set.made
  have hm3 := F.called_set.sub
  refine wpAny_call (codeAny_of_tree (show wpAny _ _ (callAny (.type "set") _) _ _ _ from wpAny_pure ⟨Code.quiet_builtin _ (by decide +kernel), codeAny_builtin F.entry_type_call ?_⟩))
  rw [Around.under_plain (weight_type_call_type "set" [.ref l] []) rfl]
  have hm4 := F.called_set.notType
  have hm5 := F.called_set.canCreate
  have hm6 := F.typeCall_set_1 (.ref l)
  repeat (any_goals (first | assumption | wp_step))
  generalize hD : s.heap.objs.size = D at h ⊢
  have hpush : (s.heap.push (set0 w)).get? D = some (set0 w) := hD ▸ Heap.get?_push_size _ rfl
  refine codeAny_mono (code_set_led1 (.ref l) (E := E) (Q₁ := fun v t => v = .ref D ∧ t = { s with heap := s.heap.push (set0 w) }) ⟨by rw [hD], rfl⟩) fun u t hu => ?_
  cases u with
  | error e => exact hu
  | ok fl =>
    cases fl with
    | ret v =>
      obtain ⟨rfl, rfl⟩ := hu
      have hty : Shared.TypeIs { s with heap := s.heap.push (set0 w) } (.ref D) "set" := ⟨_, hpush, rfl⟩
      have hi1 := F.called_set.init.lookup
      have hi2 := F.called_set.init.bind (.ref D)
      repeat (any_goals (first | assumption | wp_step))
      refine codeAny_mono (codeAny_call_builtin (R := wants (fun v t => v = .none ∧ ∃ h2 tk, t = { s with heap := h2, toks := tk } ∧ Post h2 ∧ ∀ b o, s.heap.get? b = some o → h2.get? b = some o) E) F.called_set.init.plain F.entry_set_init (check_set_init_1 hty ?_)) fun u2 t2 hu2 => ?_
      · have hDl : l < D := by
          rw [← hD]
          rcases hl with ⟨o, e, _⟩ | ⟨o, e, _⟩ <;> exact Heap.lt_size e
        have hsz : (s.heap.push (set0 w)).objs.size = D + 1 := by rw [Heap.size_push, hD]
        have hh3 : A.in1.in1.in1.handled = none := by simp [hh]
        have endIt : ∀ (it : Obj) (fp wr : List Addr) (St : Nat → Shared → Prop), fp = [D + 1, l] → wr = [D + 1] → WalksS P w A.in1.in1.in1 (D + 1) fp wr (fun a b => b = a) its.size (fun i v => its[i]? = some v) St → St 0 { s with heap := (s.heap.push (set0 w)).push it } → ∀ (Rz : Result → Shared → Prop),
            (∀ s2 : Shared, (∃ h2 tk, s2 = { s with heap := h2, toks := tk } ∧ Post h2 ∧ ∀ b o, s.heap.get? b = some o → h2.get? b = some o) → Rz (.ok (.ret .none)) s2) → codeAny (model P w) A.in1.in1 (.builtin "set.update.loop" ⟨[.ref D, .ref (D + 1)], []⟩) Rz { s with heap := (s.heap.push (set0 w)).push it } := fun it fp wr St e1 e2 W st0 Rz hR => by
          subst e1 e2
          refine hloop D _ _ _ _ St (D + 1) Rz hD.symm W ?_ ?_ st0 (Heap.get?_push_of_some _ hpush) (fun b o e => Heap.get?_push_of_some _ (Heap.get?_push_of_some _ e)) fun s2 hm hp => hR s2 ?_
          · intro z
            rcases List.mem_cons.mp z with z | z
            · exact Nat.ne_of_lt (Nat.lt_succ_self D) z
            · exact Nat.ne_of_gt hDl (List.mem_singleton.mp z)
          · intro b hb
            rw [List.mem_singleton.mp hb]
            exact Nat.lt_succ_self D
          · obtain ⟨h2, g2, d2, tk2, os2⟩ := s2
            have eg : g2 = s.gens := hm.gens
            have ed : d2 = s.drawn := hm.drawn
            have eo : os2 = s.os := hm.os
            subst eg; subst ed; subst eo
            refine ⟨h2, tk2, rfl, hp, fun b o e => ?_⟩
            have hb : b < D := hD ▸ Heap.lt_size e
            exact hm.heap b o (fun z => by
              rcases List.mem_cons.mp z with z | z
              · exact Nat.ne_of_lt hb z
              · exact Nat.ne_of_lt (Nat.lt_succ_of_lt hb) (List.mem_singleton.mp z)) (Heap.get?_push_of_some _ (Heap.get?_push_of_some _ e))
        rcases hl with ⟨o, ho, hc, n, hd⟩ | ⟨o, ho, hc, n, hd⟩
        · obtain ⟨c1, c2, c3, c4⟩ := o
          simp only at hc hd
          subst hc
          subst hd
          have ho2 : (s.heap.push (set0 w)).get? l = some { cls := .type "list", dict := c2, data := .seq its n, slots := c4 } := Heap.get?_push_of_some _ ho
          have hn1 := F.sub_list_set
          have hn2 := F.sub_list_frozenset
          have hn3 : (Value.type "list" == Value.type "dict") = false := by decide
          have hl2 : (s.heap.push (set0 w)).IsList l its := ⟨_, ho2, rfl, n, rfl⟩
          unfold Builtin.«set.__init__» noKeywords Builtin.Frozenset.updateFrom
          generalize hpy : pyIter = py
          wp_walk
          subst hpy
          refine wpAny_pyIter_list hl2 (wpAny_bind (wpAny_runValue ?_))
          rw [hsz]
          refine endIt _ _ _ _ rfl rfl (Walks.list hh3 (D + 1) l (Nat.ne_of_lt (Nat.lt_succ_of_lt hDl)) its).toS ⟨⟨_, by rw [← hsz]; exact Heap.get?_push_size _ rfl, rfl, rfl⟩, hl2.push _⟩ _ fun s2 hs2 => ?_
          obtain ⟨h2, tk, rfl, k1, k2⟩ := hs2
          show wpAny _ _ _ _ _ _
          exact wpAny_pure (wpAny_pure ⟨rfl, h2, tk, rfl, k1, k2⟩)
        · obtain ⟨c1, c2, c3, c4⟩ := o
          simp only at hc hd
          subst hc
          subst hd
          have ho2 : (s.heap.push (set0 w)).get? l = some { cls := .type "tuple", dict := c2, data := .seq its n, slots := c4 } := Heap.get?_push_of_some _ ho
          have hn1 := F.sub_tuple_set
          have hn2 := F.sub_tuple_frozenset
          have hn3 : (Value.type "tuple" == Value.type "dict") = false := by decide
          have hl2 : (s.heap.push (set0 w)).IsTuple l its := ⟨_, ho2, rfl, n, rfl⟩
          unfold Builtin.«set.__init__» noKeywords Builtin.Frozenset.updateFrom
          generalize hpy : pyIter = py
          wp_walk
          subst hpy
          refine wpAny_pyIter_tuple hl2 (wpAny_bind (wpAny_runValue ?_))
          rw [hsz]
          refine endIt _ _ _ _ rfl rfl (Walks.tuple hh3 (D + 1) l (Nat.ne_of_lt (Nat.lt_succ_of_lt hDl)) its).toS ⟨⟨_, by rw [← hsz]; exact Heap.get?_push_size _ rfl, rfl, rfl⟩, hl2.push _⟩ _ fun s2 hs2 => ?_
          obtain ⟨h2, tk, rfl, k1, k2⟩ := hs2
          show wpAny _ _ _ _ _ _
          exact wpAny_pure (wpAny_pure ⟨rfl, h2, tk, rfl, k1, k2⟩)
      · cases u2 with
        | error e => exact hu2
        | ok fl2 =>
          cases fl2 with
          | ret v2 =>
            obtain ⟨rfl, h2, tk, rfl, k1, k2⟩ := hu2
            repeat (any_goals (first | assumption | wp_step))
            exact h _ _ k1 k2
          | _ => exact hu2.elim
    | _ => exact hu.elim
/-! ints -/
theorem loop_ints {its : Array Value} {ns : List Int} (hit : IntsAre its.toList ns) (hb : ns.length + 1 < scanBound) : LoopOk P w A s its fun h2 => ∃ c, c ≤ ns.length ∧ SetR w h2 s.heap.objs.size (fun j => decide (j ∈ ns)) c := fun D s1 fp wr G St I R hD W hf _ st0 e0 _ hR => by
  subst hD
  have hz : its.size = ns.length := by have := IntsAre.length hit; rwa [Array.length_toList] at this
  refine set_update_ints W _ hf ns hz hb (fun i v hv => ?_) (its.size - 0) 0 s1 rfl (Nat.zero_le _) st0 ⟨0, Nat.le_refl _, setR_new_at e0⟩ fun s2 c hm hc hs => hR s2 hm ⟨c, by omega, hs⟩
  have hi : i < ns.length := by rw [← hz]; exact (Array.getElem?_eq_some_iff.mp hv).1
  obtain ⟨t, e⟩ := PyProof.Rows.IntsAre.int_at hit i v (by rw [Array.getElem?_toList]; exact hv)
  exact ⟨ns[i], t, List.getElem?_eq_getElem hi, by rw [e, List.getD_eq_getElem?_getD, List.getElem?_eq_getElem hi]; rfl⟩
/-! tuples of ints: as many as one likes, few unlike ones -/
/-- held after i items -/
structure HasT (ks : List (Addr × List Int)) (i : Nat) (L : List (Addr × List Int)) : Prop where
  inn : ∀ p ∈ L, p ∈ ks
  all : ∀ j p, j < i → ks[j]? = some p → p.2 ∈ L.map (·.2)
theorem HasT.step {ks L M : List (Addr × List Int)} {i : Nat} {x : Addr × List Int} (g : HasT ks i L) (h : ks[i]? = some x) (c1 : x.2 ∈ L.map (·.2) → M = L) (c2 : x.2 ∉ L.map (·.2) → M.Perm ((x.1, x.2) :: L)) : HasT ks (i + 1) M := by
  have hx : x ∈ ks := List.mem_of_getElem? h
  have up : ∀ y ∈ L.map (·.2), y ∈ M.map (·.2) := fun y hy => by
    by_cases c : x.2 ∈ L.map (·.2)
    · rw [c1 c]; exact hy
    · rw [((c2 c).map (·.2)).mem_iff]
      exact List.mem_cons_of_mem _ hy
  have own : x.2 ∈ M.map (·.2) := by
    by_cases c : x.2 ∈ L.map (·.2)
    · exact up _ c
    · rw [((c2 c).map (·.2)).mem_iff]
      exact List.mem_cons_self
  refine ⟨fun p hp => ?_, fun j p hj e => ?_⟩
  · by_cases c : x.2 ∈ L.map (·.2)
    · rw [c1 c] at hp; exact g.inn p hp
    · rcases List.mem_cons.mp ((c2 c).mem_iff.mp hp) with e | e
      · rw [e]; exact hx
      · exact g.inn p e
  · rcases Nat.lt_succ_iff_lt_or_eq.mp hj with hj | hj
    · exact up _ (g.all j p hj e)
    · rw [hj, h] at e
      cases e
      exact own
theorem loop_tups {its : Array Value} {ks : List (Addr × List Int)} (hit : its.toList = ks.map fun p => Value.ref p.1) (hk : ∀ p ∈ ks, IsT P w s.heap p.2 p.1) (hu : A.units + 3 < cLine)
    (few : ∀ L : List (Addr × List Int), (L.map (·.2)).Nodup → (∀ p ∈ L, p ∈ ks) → L.length < 63) : LoopOk P w A s its fun h2 => ∃ L es ep t, SetTR P w h2 s.heap.objs.size L es ep t ∧ HasT ks ks.length L := fun D s1 fp wr G St I R hD W hf hwr st0 e0 k0 hR => by
  have hz : its.size = ks.length := by have := congrArg List.length hit; rwa [Array.length_toList, List.length_map] at this
  have hval : ∀ (i : Nat) (v : Value), its[i]? = some v → ∃ p, ks[i]? = some p ∧ v = .ref p.1 := fun i v hv => by
    rw [← Array.getElem?_toList, hit, List.getElem?_map] at hv
    obtain ⟨p, e1, e2⟩ := Option.map_eq_some_iff.mp hv
    exact ⟨p, e1, e2.symm⟩
  have hDw : D ∉ wr := fun z => Nat.lt_irrefl _ (hwr D z)
  have hsub : ∀ b ∈ wr, b ∈ D :: wr := fun b z => List.mem_cons_of_mem _ z
  have old : ∀ {b : Addr} {o : Obj}, s.heap.get? b = some o → b < D := fun e => hD ▸ Heap.lt_size e
  have keepM : ∀ {x y : Shared}, Moved wr G x y → (∀ b o, s.heap.get? b = some o → x.heap.get? b = some o) → ∀ b o, s.heap.get? b = some o → y.heap.get? b = some o := fun hm kx b o e => hm.heap b o (fun z => Nat.lt_asymm (old e) (hwr b z)) (kx b o e)
  suffices go : ∀ (m i : Nat) (x : Shared), its.size - i = m → i ≤ its.size → St i x → (∀ b o, s.heap.get? b = some o → x.heap.get? b = some o) → (∃ L es ep t, SetTR P w x.heap D L es ep t ∧ HasT ks i L) → ∀ R' : Result → Shared → Prop,
      (∀ y, Moved (D :: wr) G x y → (∃ L es ep t, SetTR P w y.heap D L es ep t ∧ HasT ks ks.length L) → R' (.ok (.ret .none)) y) → codeAny (model P w) A.in1.in1 (.builtin "set.update.loop" ⟨[.ref D, .ref I], []⟩) R' x from
    go _ 0 s1 rfl (Nat.zero_le _) st0 k0 ⟨[], #[], 0, _, setTR_fresh e0, ⟨fun p z => (by cases z), fun j p z => absurd z (Nat.not_lt_zero _)⟩⟩ R fun y hm hp => hR y hm (by rw [← hD]; exact hp)
  intro m
  induction m with
  | zero =>
    intro i x hm hi st kx ⟨L, es, ep, t, hS, g⟩ R' hR'
    have hin : i = its.size := by omega
    subst hin
    refine codeAny_builtin F.entry_set_update_loop ?_
    rw [Around.under_plainId F.plain_set_update_loop _]
    refine (show wpAny _ A.in1.in1.in1 (pyNext (.ref I) >>= _) _ _ x from wpAny_bind (W.done x _ _ st fun y hy => ?_))
    refine (show wpAny _ A.in1.in1.in1 (ret Value.none) _ _ y from wpAny_pure (hR' y (hy.mono hsub) ⟨L, es, ep, t, hS.keep (fun o e => hy.heap D o hDw e) fun p hp => isT_keep (hk p (g.inn p hp)) (keepM hy kx), by rw [← hz]; exact g⟩))
  | succ m ih =>
    intro i x hm hi st kx ⟨L, es, ep, t, hS, g⟩ R' hR'
    have hlt : i < its.size := by omega
    refine codeAny_builtin F.entry_set_update_loop ?_
    rw [Around.under_plainId F.plain_set_update_loop _]
    refine (show wpAny _ A.in1.in1.in1 (pyNext (.ref I) >>= _) _ _ x from wpAny_bind (W.item i x _ _ hlt st fun v y hv sty hy => ?_))
    obtain ⟨p, hp, rfl⟩ := hval i v hv
    have ky := keepM hy kx
    have hS1 : SetTR P w y.heap D L es ep t := hS.keep (fun o e => hy.heap D o hDw e) fun q hq => isT_keep (hk q (g.inn q hq)) ky
    have hT : IsT P w y.heap p.2 p.1 := isT_keep (hk p (List.mem_of_getElem? hp)) ky
    refine (show wpAny _ A.in1.in1.in1 (holding [Value.ref p.1] (setAdd D (.ref p.1)) >>= _) _ _ y from wpAny_bind (wpAny_holding ?_))
    unfold setAdd
    refine wpAny_holding (wpAny_bind (wpAny_pyHash_tuple hu hT ?_))
    refine add_at (s := { y with toks := y.toks + (p.2.length + 1) }) hS1 hT hu (by have := few L hS1.nd g.inn; omega) fun b h2 L2 es2 ep2 t2 sb hS2 c1 c2 => ?_
    have g2 := g.step hp c1 c2
    have k2 : ∀ b o, s.heap.get? b = some o → h2.get? b = some o := fun b o e => (sb.2 b (Nat.ne_of_lt (old e))).trans (ky b o e)
    refine wpAny_pure ⟨plainId_quiet F.plain_set_update_loop _, ih (i + 1) _ (by omega) hlt (W.frame _ y _ _ sty (Nat.le_add_right _ _) fun b hb o e => ?_) k2 ⟨L2, es2, ep2, t2, hS2, g2⟩ _ fun z hz2 hpz => ?_⟩
    · rw [sb.2 b fun e2 => hf (by rw [← e2]; exact hb)]; exact e
    · refine hR' z (Moved.trans W.gtrans ((hy.mono hsub).then_heap (Nat.le_add_right _ _) fun b o hb e => ?_) hz2) hpz
      rw [sb.2 b fun e2 => hb (by rw [e2]; exact List.mem_cons_self)]; exact e
end
end MP

-- part MpSet
/-! sorted(set(xs)): ints; tuples of ints with an item at least. -/
namespace MP
open PySem PySem.Spec PyProof.Rows L2
/-! ### the plain result -/
theorem insU_mem (x : Int) : ∀ (l : List Int) (y : Int), y ∈ insU x l ↔ y = x ∨ y ∈ l
  | [], y => by simp [insU]
  | z :: r, y => by
    rw [insU]
    split
    · simp
    · split
      · rename_i h; subst h; simp
      · rw [List.mem_cons, insU_mem x r, List.mem_cons]
        constructor
        · rintro (h | h | h)
          · exact .inr (.inl h)
          · exact .inl h
          · exact .inr (.inr h)
        · rintro (h | h | h)
          · exact .inr (.inl h)
          · exact .inl h
          · exact .inr (.inr h)
theorem insU_asc (x : Int) : ∀ l : List Int, l.Pairwise (· < ·) → (insU x l).Pairwise (· < ·)
  | [], _ => by simp [insU]
  | z :: r, h => by
    rw [insU]
    split
    · rename_i hx
      refine List.pairwise_cons.mpr ⟨fun y hy => ?_, h⟩
      rcases List.mem_cons.mp hy with e | hy
      · omega
      · have := List.rel_of_pairwise_cons h hy; omega
    · split
      · exact h
      · refine List.pairwise_cons.mpr ⟨fun y hy => ?_, insU_asc x r (List.pairwise_cons.mp h).2⟩
        rcases (insU_mem x r y).mp hy with e | hy
        · omega
        · exact List.rel_of_pairwise_cons h hy
theorem sortU_mem : ∀ (l : List Int) (y : Int), y ∈ sortU l ↔ y ∈ l
  | [], y => by simp [sortU]
  | x :: r, y => by rw [sortU, insU_mem, sortU_mem r, List.mem_cons]
theorem sortU_asc : ∀ l : List Int, (sortU l).Pairwise (· < ·)
  | [] => .nil
  | x :: r => insU_asc x _ (sortU_asc r)
theorem asc_one {l m : List Int} (h1 : l.Pairwise (· < ·)) (h2 : m.Pairwise (· < ·)) (h : ∀ y, y ∈ l ↔ y ∈ m) : l = m := by
  have n1 : l.Nodup := h1.imp fun h => by omega
  have n2 : m.Nodup := h2.imp fun h => by omega
  exact ((List.perm_ext_iff_of_nodup n1 n2).mpr h).eq_of_pairwise (fun x y _ _ a b => by omega) h1 h2
theorem insUL_mem (x : List Int) : ∀ (l : List (List Int)) (y : List Int), y ∈ insUL x l ↔ y = x ∨ y ∈ l
  | [], y => by simp [insUL]
  | z :: r, y => by
    rw [insUL]
    split
    · simp
    · split
      · rename_i h; subst h; simp
      · rw [List.mem_cons, insUL_mem x r, List.mem_cons]
        constructor
        · rintro (h | h | h)
          · exact .inr (.inl h)
          · exact .inl h
          · exact .inr (.inr h)
        · rintro (h | h | h)
          · exact .inr (.inl h)
          · exact .inl h
          · exact .inr (.inr h)
theorem ltL_of {x z : List Int} (h : ¬ x < z) (n : ¬ x = z) : z < x := by
  have h1 : z ≤ x := List.not_lt.mp h
  by_cases h2 : z < x
  · exact h2
  · exact (n (List.le_antisymm (List.not_lt.mp h2) h1)).elim
theorem insUL_asc (x : List Int) : ∀ l : List (List Int), l.Pairwise (· < ·) → (insUL x l).Pairwise (· < ·)
  | [], _ => by simp [insUL]
  | z :: r, h => by
    rw [insUL]
    split
    · rename_i hx
      refine List.pairwise_cons.mpr ⟨fun y hy => ?_, h⟩
      rcases List.mem_cons.mp hy with e | hy
      · rw [e]; exact hx
      · exact List.lt_trans hx (List.rel_of_pairwise_cons h hy)
    · split
      · exact h
      · rename_i h1 h2
        refine List.pairwise_cons.mpr ⟨fun y hy => ?_, insUL_asc x r (List.pairwise_cons.mp h).2⟩
        rcases (insUL_mem x r y).mp hy with e | hy
        · rw [e]; exact ltL_of h1 h2
        · exact List.rel_of_pairwise_cons h hy
theorem sortUL_mem : ∀ (l : List (List Int)) (y : List Int), y ∈ sortUL l ↔ y ∈ l
  | [], y => by simp [sortUL]
  | x :: r, y => by rw [sortUL, insUL_mem, sortUL_mem r, List.mem_cons]
theorem sortUL_asc : ∀ l : List (List Int), (sortUL l).Pairwise (· < ·)
  | [] => .nil
  | x :: r => insUL_asc x _ (sortUL_asc r)
theorem ascL_nd {l : List (List Int)} (h : l.Pairwise (· < ·)) : l.Nodup := by
  refine List.Pairwise.imp (S := fun a b => a ≠ b) (fun {a b} h e => ?_) h
  subst e
  exact List.lt_irrefl a h
theorem ascL_one {l m : List (List Int)} (h1 : l.Pairwise (· < ·)) (h2 : m.Pairwise (· < ·)) (h : ∀ y, y ∈ l ↔ y ∈ m) : l = m :=
  ((List.perm_ext_iff_of_nodup (ascL_nd h1) (ascL_nd h2)).mpr h).eq_of_pairwise (fun x y _ _ a b => (List.lt_irrefl x (List.lt_trans a b)).elim) h1 h2
/-! ### in the machine -/
section
variable {P : Program} {w : World} {A : Around} {E : Value → Shared → Prop} {s : Shared}
abbrev encT (q : Addr × List Int) : PyData := .tuple (q.2.map .int)
theorem reads_ints {h : Heap} : ∀ {vs : List Value} {ns : List Int}, IntsAre vs ns → ReadsAll h vs (ns.map .int) []
  | _, _, .nil => .nil
  | _, _, .cons n t r => ReadsAll.cons (as := []) (bs := []) (.int n t) (reads_ints r)
theorem reads_isT {h : Heap} {k : List Int} {b : Addr} (x : IsT P w h k b) : Reads h (.ref b) (.tuple (k.map .int)) [] := by
  obtain ⟨o, items, n, ho, hc, hd, hi⟩ := x
  exact .tuple ho hc hd (reads_ints (ints_of_items hi))
theorem leL_encT (x y : Addr × List Int) : PySem.W.dataLe false encT x y = !decide (y.2 < x.2) := by
  rw [PySem.W.dataLe_eq]
  show (!PySem.W.dataLt (.tuple _) (.tuple _)) = _
  rw [PySem.W.dataLt_tuple]
  exact congrArg (! ·) (PySem.W.dataLt_ints y.2 x.2)
set_option maxHeartbeats 4000000 in
theorem sorted_setN {a : Addr} {L : List (Addr × List Int)} {es : Array (Int × Value)} {ep : Nat} {t : SetTable} {Q : Value → Shared → Prop} (R : SetTR P w s.heap a L es ep t) (hh : A.handled = none) (hu : A.units + 200 < cLine) (hne : ∀ p ∈ L, p.2 ≠ [])
    (hQ : ∀ s2 p (out : Array Value) (c : Nat) (M : List (Addr × List Int)), (∀ b o, s.heap.get? b = some o → s2.heap.get? b = some o) → s2.gens = s.gens → s2.os = s.os → s.heap.objs.size ≤ p → s2.heap.get? p = some (seqObj "list" out c) →
      out.toList = M.map (fun q => Value.ref q.1) → (∀ q, q ∈ M ↔ q ∈ L) → (M.map (·.2)).Pairwise (· < ·) → Q (.ref p) s2) : wpAny (model P w) A (call (.builtin "sorted") [.ref a]) Q E s := by
  obtain ⟨o, ho, hex, hd⟩ := R.ob
  have few := R.few
  have size := R.size
  refine Calls.call_function_entry kind_sorted plain_sorted entry_sorted (args_sorted1 _) ?_
  unfold Builtin.«sorted»
  refine wpAny_bind (m := checkCount "sorted" 1 1 _) (wpAny_pure (wpAny_bind (collect_set (A := A.in1) hh ⟨o, ho, hex.1, hd⟩ R.fits (by unfold scanBound; omega) R.tab.ris R.led fun s1 vs k1 hz g1 o1 pm => ?_)))
  have rows : es.toList.map (·.2) = L.map fun q => Value.ref q.1 := by
    rw [R.rows]
    unfold rowsOf
    rw [List.map_map]; rfl
  rw [rows] at pm
  have uniq : ∀ p ∈ L, ∀ q ∈ L, p.1 = q.1 → p = q := fun p hp q hq e => by
    have t1 := R.tup p hp
    have t2 := R.tup q hq
    rw [e] at t1
    exact Prod.ext e (t1.inj t2)
  -- the values as rows
  have pick : ∀ us : List Value, (∀ v ∈ us, v ∈ L.map fun q => Value.ref q.1) → ∃ M : List (Addr × List Int), us = M.map (fun q => Value.ref q.1) ∧ ∀ q ∈ M, q ∈ L := fun us => by
    induction us with
    | nil => exact fun _ => ⟨[], rfl, fun q z => (by cases z)⟩
    | cons v us ih =>
      intro hv
      obtain ⟨q, hq, e⟩ := List.mem_map.mp (hv v List.mem_cons_self)
      obtain ⟨M, e1, e2⟩ := ih fun z hz => hv z (List.mem_cons_of_mem _ hz)
      refine ⟨q :: M, by rw [List.map_cons, e, e1], fun r hr => ?_⟩
      rcases List.mem_cons.mp hr with z | z
      · rw [z]; exact hq
      · exact e2 r z
  obtain ⟨M, rfl, hM⟩ := pick vs fun v hv => pm.mem_iff.mp hv
  have hML : ∀ q, q ∈ M ↔ q ∈ L := fun q => ⟨hM q, fun hq => by
    obtain ⟨r, hr, e⟩ := List.mem_map.mp (pm.mem_iff.mpr (List.mem_map.mpr ⟨q, hq, rfl⟩))
    injection e with e
    rw [← uniq r (hM r hr) q hq e]; exact hr⟩
  have lenM : M.length = L.length := by have := pm.length_eq; rwa [List.length_map, List.length_map] at this
  have ndM : (M.map (·.2)).Nodup := by
    have ndL : L.Nodup := nodup_of_map R.nd
    have nref : (M.map fun q => Value.ref q.1).Nodup := pm.nodup_iff.mpr (List.pairwise_map.mpr (List.Pairwise.imp_of_mem (fun {p q} hp hq ne e => by injection e with e; exact ne (uniq p hp q hq e)) ndL))
    have pML : M.Perm L := (List.perm_ext_iff_of_nodup (nodup_of_map nref) ndL).mpr hML
    exact ((pML.map (·.2)).nodup_iff).mpr R.nd
  refine wpAny_bind (wpAny_newList ?_ (by rw [sizeLine_eq, List.length_map]; omega))
  have hoL : (s1.heap.push (seqObj "list" (M.map fun q => Value.ref q.1).toArray 0)).get? s1.heap.objs.size = some (seqObj "list" (M.map fun q => Value.ref q.1).toArray 0) := Heap.get?_push_size _ rfl
  have each : ∀ N : List (Addr × List Int), (∀ q ∈ N, q ∈ L) → PySem.W.EachIs (fun (v : Value) (q : Addr × List Int) => v = .ref q.1) (N.map fun q => Value.ref q.1) N ∧
      PySem.W.EachIs (fun (v : Value) (q : Addr × List Int) => ∃ as, Reads (s1.heap.push (seqObj "list" (M.map fun q => Value.ref q.1).toArray 0)) v (encT q) as ∧ s1.heap.objs.size ∉ as) (N.map fun q => Value.ref q.1) N := fun N => by
    induction N with
    | nil => exact fun _ => ⟨.nil, .nil⟩
    | cons q N ih =>
      intro h
      obtain ⟨i1, i2⟩ := ih fun r hr => h r (List.mem_cons_of_mem _ hr)
      refine ⟨.cons rfl i1, .cons ⟨[], ?_, fun z => (by cases z)⟩ i2⟩
      exact reads_isT (isT_keep (R.tup q (h q List.mem_cons_self)) fun b u e => Heap.get?_push_of_some _ (k1 b u e))
  obtain ⟨c1, c2⟩ := each M hM
  have al : PySem.W.AllAlike (M.map encT) := PySem.W.AllAlike.of fun x y => by
    show PySem.W.alike (.tuple _) (.tuple _) = true
    rw [PySem.W.alike]; exact PySem.W.alike_ints _ _
  have so : PySem.W.Sortable (M.map encT) := .inl fun d hd' => by
    obtain ⟨q, hq, rfl⟩ := List.mem_map.mp hd'
    have := hne q (hM q hq)
    show ∃ x r, PyData.tuple (q.2.map .int) = .tuple (x :: r)
    cases h : q.2 with
    | nil => exact (this h).elim
    | cons n ns => exact ⟨_, _, rfl⟩
  refine wpAny_bind (wpAny_holding (PySem.W.list_sort_data (s := { s1 with heap := s1.heap.push (seqObj "list" (M.map fun q => Value.ref q.1).toArray 0) }) (enc := encT) (vs := M.map fun q => Value.ref q.1) hoL c1 c2 al so (by rw [sizeLine_eq]; omega) (fun b hb => ?_) fun out hol eo => ?_))
  · show A.in1.units + 1 + (PyData.depthAll (b.2.map .int) + 1) < cLine
    rw [PySem.W.depth_ints]
    show A.units + 1 + 1 + (0 + 1) < cLine
    omega
  · obtain ⟨c, hc⟩ := sortedHeap_at (vs := M.map fun q => Value.ref q.1) (out := out.toArray) hoL
    have pS := List.mergeSort_perm M (PySem.W.dataLe false encT)
    have eout : out = (M.mergeSort (PySem.W.dataLe false encT)).map fun q => Value.ref q.1 := by
      generalize M.mergeSort (PySem.W.dataLe false encT) = Z at eo
      clear hol hc
      induction eo with
      | nil => rfl
      | cons h1 _ ih => rw [h1, ih]; rfl
    have srt := List.pairwise_mergeSort (le := PySem.W.dataLe false encT) (fun x y z h1 h2 => by
      rw [leL_encT] at h1 h2 ⊢
      simp only [Bool.not_eq_true', decide_eq_false_iff_not] at h1 h2 ⊢
      exact List.not_lt.mpr (List.le_trans (List.not_lt.mp h1) (List.not_lt.mp h2))) (fun x y => by
      rw [leL_encT, leL_encT]
      rcases List.le_total x.2 y.2 with h | h
      · rw [decide_eq_false (List.not_lt.mpr h)]; rfl
      · rw [decide_eq_false (List.not_lt.mpr h)]; simp) M
    refine wpAny_pure ⟨_, rfl, hQ _ s1.heap.objs.size out.toArray c (M.mergeSort (PySem.W.dataLe false encT)) (fun b u e => ?_) g1 o1 hz hc (by rw [List.toList_toArray, eout]) (fun q => (pS.mem_iff).trans (hML q)) ?_⟩
    · have h1 := k1 b u e
      show (sortedHeap _ s1.heap.objs.size _ out.toArray).get? b = some u
      rw [sortedHeap_old (Nat.ne_of_lt (Heap.lt_size h1)) (by rw [size_push']; exact Nat.lt_succ_of_lt (Heap.lt_size h1))]
      exact Heap.get?_push_of_some _ h1
    · have nd2 := ((pS.map (·.2)).nodup_iff).mpr ndM
      have s2 : ((M.mergeSort (PySem.W.dataLe false encT)).map (·.2)).Pairwise (· ≤ ·) := List.pairwise_map.mpr (srt.imp fun {x y} h => by
        rw [leL_encT] at h
        exact List.not_lt.mp (by simpa using h))
      exact (List.Pairwise.and s2 nd2).imp fun {x y} h => by
        by_cases z : x < y
        · exact z
        · exact (h.2 (List.le_antisymm h.1 (List.not_lt.mp z))).elim
end
end MP
namespace MP
open PySem PySem.Spec PyProof.Rows L2
section
variable {X : Cx}
theorem setR_count {w : World} {h : Heap} {a : Addr} {ns : List Int} {c : Nat} (R : SetR w h a (fun j => decide (j ∈ ns)) c) : c = (sortU ns).length := by
  obtain ⟨o, es, ep, t, ho, hex, hd, g, nd, hm, hb, hf, hn, hr, hl⟩ := R
  have p : (es.toList.map keyOf).Perm (sortU ns) := (List.perm_ext_iff_of_nodup nd ((sortU_asc ns).imp fun h => by omega)).mpr fun k => by
    rw [← hm k, sortU_mem, decide_eq_true_eq]
  have := p.length_eq
  rw [List.length_map, Array.length_toList] at this
  omega
/-- set(xs), ints -/
def rSetI (K : PySem.W.Frag) (w : World) : List V → Hp → VK → Prop := fun xs H Q => ∃ (l : Addr) (ns : List Int), xs = [V.ref l] ∧ (SqL K H l (ns.map V.int) ∨ SqT K H l (ns.map V.int)) ∧ ns.length ≤ 4000 ∧
  ∀ a, H a = none → Q (.ref a) (upd H a (SetO w a (fun j => decide (j ∈ ns)) (sortU ns).length))
theorem cr_setI (hc : X.calm = true) : CallR X (.type "set") (rSetI X.K X.w) := by
  intro pins s σ H xs us Q I r h
  obtain ⟨l, ns, rfl, hq, hz, q⟩ := h
  rw [Vals.ref1 r]
  have src : ∃ its : List Value, Vals (ns.map V.int) its ∧ (s.heap.IsList l its.toArray ∨ s.heap.IsTuple l its.toArray) := by
    rcases hq with hq | hq
    · obtain ⟨its, rv, pl, _⟩ := I.list hq
      exact ⟨its, rv, .inl pl.isList⟩
    · obtain ⟨its, rv, pl, _⟩ := I.tuple hq
      exact ⟨its, rv, .inr pl⟩
  obtain ⟨its, rv, hl⟩ := src
  have hi : IntsAre its.toArray.toList ns := by simpa using rv.ints
  refine set_call _ (I.ok.hd hc) hl (loop_ints hi (by unfold scanBound; omega)) fun h2 tk hp k => ?_
  obtain ⟨c, _, R⟩ := hp
  rw [setR_count R] at R
  exact ⟨.ref s.heap.objs.size, _, I.laid (t' := tk) k (Nat.le_refl _) (setO_new R), rfl, q _ (I.hok.fresh (Nat.le_refl _))⟩
/-- set(xs), tuples of ints -/
def rSetT (K : PySem.W.Frag) (P : Program) (w : World) : List V → Hp → VK → Prop := fun xs H Q => ∃ (l : Addr) (ks : List (Addr × List Int)), xs = [V.ref l] ∧ (SqL K H l (ks.map fun p => V.ref p.1) ∨ SqT K H l (ks.map fun p => V.ref p.1)) ∧ (∀ p ∈ ks, SqT K H p.1 (p.2.map V.int)) ∧
  (∀ L : List (Addr × List Int), (L.map (·.2)).Nodup → (∀ p ∈ L, p ∈ ks) → L.length < 63) ∧ ∀ a L, H a = none → HasT ks ks.length L → Q (.ref a) (upd H a (SetTO P w a L))
theorem cr_setT (hc : X.calm = true) (hu : X.A.units + 200 < cLine) : CallR X (.type "set") (rSetT X.K X.prog X.w) := by
  intro pins s σ H xs us Q I r h
  obtain ⟨l, ks, rfl, hq, hk, hf, q⟩ := h
  rw [Vals.ref1 r]
  have src : ∃ its : List Value, Vals (ks.map fun p => V.ref p.1) its ∧ (s.heap.IsList l its.toArray ∨ s.heap.IsTuple l its.toArray) := by
    rcases hq with hq | hq
    · obtain ⟨its, rv, pl, _⟩ := I.list hq
      exact ⟨its, rv, .inl pl.isList⟩
    · obtain ⟨its, rv, pl, _⟩ := I.tuple hq
      exact ⟨its, rv, .inr pl⟩
  obtain ⟨its, rv, hl⟩ := src
  refine set_call _ (I.ok.hd hc) hl (loop_tups (by simpa using refs_of_vals rv) (fun p hp => I.isT (hk p hp)) (by omega) hf) fun h2 tk hp k => ?_
  obtain ⟨L, es, ep, t, R, g⟩ := hp
  exact ⟨.ref s.heap.objs.size, _, I.laid (t' := tk) k (Nat.le_refl _) (setTO_new R.t0), rfl, q _ L (I.hok.fresh (Nat.le_refl _)) g⟩
/-- sorted(set), tuples of ints with an item at least -/
def rSortedN (K : PySem.W.Frag) (P : Program) (w : World) : List V → Hp → VK → Prop := fun vs H Q => ∃ (a : Addr) (L : List (Addr × List Int)), vs = [V.ref a] ∧ H a = some (SetTO P w a L) ∧ (∀ p ∈ L, SqT K H p.1 (p.2.map V.int)) ∧ (∀ p ∈ L, p.2 ≠ []) ∧
  ∀ (M : List (Addr × List Int)) (p : Addr), (∀ q, q ∈ M ↔ q ∈ L) → (M.map (·.2)).Pairwise (· < ·) → M.length < 64 → H p = none → Q (.ref p) (upd H p (.lst (M.map fun q => V.ref q.1)))
theorem cr_sortedN (hc : X.calm = true) (hu : X.A.units + 200 < cLine) : CallR X (.builtin "sorted") (rSortedN X.K X.prog X.w) := by
  intro pins s σ H vs us Q I r h
  obtain ⟨a, L, rfl, ha, hk, hne, q⟩ := h
  have R0 : SetT0 X.prog X.w s.heap a L := (I.hok a _ ha).1
  obtain ⟨es, ep, t, R⟩ := R0.full fun p hp => I.isT (hk p hp)
  rw [Vals.ref1 r]
  refine sorted_setN R (I.ok.hd hc) hu hne fun s2 p out c M k g o hp hg hout hm pw => ?_
  have nM : M.Nodup := nodup_of_map (ascL_nd pw)
  have hfew : M.length < 64 := by
    have := ((List.perm_ext_iff_of_nodup nM (nodup_of_map R.nd)).mpr hm).length_eq
    have := R.few
    omega
  have hlen : (M.map fun q => V.ref q.1).length ≤ sizeLine := by rw [List.length_map, sizeLine_eq]; omega
  have hn : H p = none := I.hok.fresh hp
  have hv : Vals (M.map fun q => V.ref q.1) out.toList := hout ▸ vals_of_refs M
  have J : Inv X pins σ (upd H p (.lst (M.map fun q => V.ref q.1))) { s with heap := s2.heap, gens := s2.gens, drawn := s2.drawn, toks := s2.toks } := I.call (ch := []) (Un.laid k hp hn) (I.hok.laid k hp ⟨hlen, out.toList, c, hv, hg⟩) (by rw [g]; exact I.bare) (fun _ z => nomatch z)
  have e : s2 = { s with heap := s2.heap, gens := s2.gens, drawn := s2.drawn, toks := s2.toks } := by cases s2; cases s; cases o; rfl
  exact e ▸ ⟨.ref p, _, J, rfl, q M p hm pw hfew hn⟩
end
end MP

-- part Ms2
namespace MP
open PySem PySem.Spec PyProof.Rows L2
theorem nodup_len {α : Type} [DecidableEq α] : ∀ {l m : List α}, l.Nodup → (∀ x ∈ l, x ∈ m) → l.length ≤ m.length
  | [], _, _, _ => Nat.zero_le _
  | x :: l, m, nd, h => by
    obtain ⟨h1, h2⟩ := List.nodup_cons.mp nd
    have hx := h x List.mem_cons_self
    have := nodup_len (l := l) (m := m.erase x) h2 fun y hy => (List.mem_erase_of_ne (fun (e : y = x) => h1 (by rw [← e]; exact hy))).mpr (h y (List.mem_cons_of_mem _ hy))
    rw [List.length_erase_of_mem hx] at this
    have := List.length_pos_of_mem hx
    rw [List.length_cons]
    omega
theorem sqt_upd {K : PySem.W.Frag} {H : Hp} {p a : Addr} {o : HO} {vs : List V} (hp : H p = none) (h : SqT K H a vs) : SqT K (upd H p o) a vs := by
  have ne : ∀ u, H a = some u → upd H p o a = some u := fun u e => by rw [upd_ne (fun z => by rw [z, hp] at e; cases e)]; exact e
  rcases h with (h | ⟨o2, h⟩) | h
  · exact .inl (.inl (ne _ h))
  · exact .inl (.inr ⟨o2, ne _ h⟩)
  · exact .inr h
theorem getsT_is : ∀ {xs : List D} {ks : List (List Int)}, getsT xs = some ks → xs = ks.map tupI
  | [], ks, h => by cases h; rfl
  | x :: xs, ks, h => by
    unfold getsT at h
    split at h
    · rename_i e; cases e
    · rename_i ys r e
      cases e
      split at h
      · rename_i ns kk e1 e2
        cases h
        rw [getsT_is e2, getsI_is e1]; rfl
      · cases h
    · cases h
theorem reps_tups {K : PySem.W.Frag} {H : Hp} {N : Addr → Prop} : ∀ {vs : List V} {ks : List (List Int)}, Reps K H N vs (ks.map tupI) → ∃ qs : List (Addr × List Int), vs = qs.map (fun q => V.ref q.1) ∧ qs.map (·.2) = ks ∧ ∀ q ∈ qs, SqT K H q.1 (q.2.map V.int) ∧ q.2.length ≤ sizeLine
  | _, [], h => by cases h; exact ⟨[], rfl, rfl, fun _ z => nomatch z⟩
  | _, k :: ks, h => by
    cases h with
    | cons h1 h2 =>
      obtain ⟨qs, e1, e2, e3⟩ := reps_tups h2
      cases h1 with
      | tup a1 a2 a3 =>
        rename_i a vs
        cases reps_ints a2
        refine ⟨(a, k) :: qs, by rw [List.map_cons, e1], by rw [List.map_cons, e2], fun q hq => ?_⟩
        rcases List.mem_cons.mp hq with e | hq
        · subst e; exact ⟨a1, by rwa [List.length_map] at a3⟩
        · exact e3 q hq
theorem Reps.tups {K : PySem.W.Frag} {H : Hp} {N : Addr → Prop} : ∀ {qs : List (Addr × List Int)}, (∀ q ∈ qs, SqT K H q.1 (q.2.map V.int) ∧ q.2.length ≤ sizeLine) → Reps K H N (qs.map fun q => V.ref q.1) ((qs.map (·.2)).map tupI)
  | [], _ => .nil
  | q :: qs, h => .cons (.tup (h q List.mem_cons_self).1 Reps.ints (by rw [List.length_map]; exact (h q List.mem_cons_self).2)) (Reps.tups fun p hp => h p (List.mem_cons_of_mem _ hp))
section
variable {X : Cx}
theorem cr_setIT (hc : X.calm = true) (hu : X.A.units + 200 < cLine) : CallR X (.type "set") fun xs H Q => rSetI X.K X.w xs H Q ∨ rSetT X.K X.prog X.w xs H Q := by
  intro pins s σ H xs us Q I r h
  rcases h with h | h
  · exact cr_setI hc pins s σ H xs us Q I r h
  · exact cr_setT hc hu pins s σ H xs us Q I r h
theorem cr_sortedIT (hc : X.calm = true) (hu : X.A.units + 200 < cLine) : CallR X (.builtin "sorted") fun xs H Q => rSortedSet X.w xs H Q ∨ rSortedN X.K X.prog X.w xs H Q := by
  intro pins s σ H xs us Q I r h
  rcases h with h | h
  · exact cr_sortedSet hc pins s σ H xs us Q I r h
  · exact cr_sortedN hc hu pins s σ H xs us Q I r h
/-- what comes of sorted(set(v)) -/
theorem sortset_q {N : Addr → Prop} {v : V} {d : D} {H : Hp} {w : W} {Q : VK} (hd : VR X.K H N v d) (ho : biSortset [d] = some w) (q : ∀ v H', Op1 X.K H N w v H' → Q v H') :
    (fun xs H Q => rSetI X.K X.w xs H Q ∨ rSetT X.K X.prog X.w xs H Q) [v] H fun u H2 => (fun xs H Q => rSortedSet X.w xs H Q ∨ rSortedN X.K X.prog X.w xs H Q) [u] H2 Q := by
  have src : ∃ (a : Addr) (vs : List V) (xs : List D), v = .ref a ∧ (SqL X.K H a vs ∨ SqT X.K H a vs) ∧ Reps X.K H N vs xs ∧ sortset1 xs (getsI xs) = some w := by
    unfold biSortset at ho
    split at ho
    · rename_i xs e
      cases e
      obtain ⟨a, vs, rfl, h1, h2, _⟩ := hd
      exact ⟨a, vs, xs, rfl, .inl (.of h1), h2, ho⟩
    · rename_i xs e
      cases e
      obtain ⟨a, vs, rfl, h1, h2, _⟩ := vr_tup hd
      exact ⟨a, vs, xs, rfl, .inr h1, h2, ho⟩
    · cases ho
  obtain ⟨a, vs, xs, rfl, hs, hr, ho⟩ := src
  cases e : getsI xs with
  | some ns =>
    rw [e] at ho
    replace ho : (if ns.length ≤ 4000 ∧ (sortU ns).length < 64 then some (W.own ((sortU ns).map .int)) else none) = some w := ho
    split at ho
    · rename_i hk
      cases ho
      have := getsI_is e
      subst this
      cases reps_ints hr
      refine .inl ⟨a, ns, rfl, hs, hk.1, fun p hp => .inl ⟨p, _, _, rfl, upd_same, hk.2, fun ms p2 h1 h2 h3 h4 => q _ _ ?_⟩⟩
      have := asc_one h1 (sortU_asc ns) fun y => by rw [h2, sortU_mem, decide_eq_true_eq]
      subst this
      have hn : H p2 = none := by
        cases z : H p2 with
        | none => rfl
        | some o => rw [upd_ne (fun e => by rw [e, hp] at z; cases z), z] at h4; cases h4
      refine ⟨fun b o hb => ?_, p2, (sortU ns).map V.int, rfl, hn, upd_same, Reps.ints, ?_⟩
      · rw [upd_ne (fun e => by rw [e, hn] at hb; cases hb), upd_ne (fun e => by rw [e, hp] at hb; cases hb)]
        exact hb
      · rw [List.length_map, sizeLine_eq]; omega
    · cases ho
  | none =>
    rw [e] at ho
    cases e2 : getsT xs with
    | none => unfold sortset1 at ho; rw [e2] at ho; cases ho
    | some ks =>
      unfold sortset1 at ho
      rw [e2] at ho
      dsimp only at ho
      split at ho
      · rename_i hk
        cases ho
        have := getsT_is e2
        subst this
        obtain ⟨qs, rfl, rfl, hq⟩ := reps_tups hr
        have hne : ∀ p ∈ qs, p.2 ≠ [] := fun p hp z => by
          have := List.all_eq_true.mp hk.1 p.2 (List.mem_map.mpr ⟨p, hp, rfl⟩)
          rw [z] at this; cases this
        refine .inr ⟨a, qs, rfl, hs, fun p hp => (hq p hp).1, fun L nd hL => ?_, fun p L hp g => .inr ⟨p, L, rfl, upd_same, fun r hr => ?_, fun r hr => hne r (g.inn r hr), fun M p2 h1 h2 h3 h4 => q _ _ ?_⟩⟩
        · have sub : ∀ y ∈ L.map (·.2), y ∈ sortUL (qs.map (·.2)) := fun y hy => by
            obtain ⟨r, hr, rfl⟩ := List.mem_map.mp hy
            exact (sortUL_mem _ _).mpr (List.mem_map.mpr ⟨r, hL r hr, rfl⟩)
          have := nodup_len nd sub
          rw [List.length_map] at this
          omega
        · have := hq r (g.inn r hr)
          exact sqt_upd hp this.1
        · have em : M.map (·.2) = sortUL (qs.map (·.2)) := ascL_one h2 (sortUL_asc _) fun y => by
            rw [sortUL_mem]
            constructor
            · intro hy
              obtain ⟨r, hr, rfl⟩ := List.mem_map.mp hy
              exact List.mem_map.mpr ⟨r, g.inn r ((h1 r).mp hr), rfl⟩
            · intro hy
              obtain ⟨r, hr, rfl⟩ := List.mem_map.mp hy
              obtain ⟨i, hi⟩ := List.getElem?_of_mem hr
              have := g.all i r (List.getElem?_eq_some_iff.mp hi).1 hi
              obtain ⟨t, ht, e⟩ := List.mem_map.mp this
              exact List.mem_map.mpr ⟨t, (h1 t).mpr ht, e⟩
          have hn : H p2 = none := by
            cases z : H p2 with
            | none => rfl
            | some o => rw [upd_ne (fun e => by rw [e, hp] at z; cases z), z] at h4; cases h4
          rw [← em]
          refine ⟨fun b o hb => ?_, p2, M.map fun q => V.ref q.1, rfl, hn, upd_same, Reps.tups fun r hr => ?_, ?_⟩
          · rw [upd_ne (fun e => by rw [e, hn] at hb; cases hb), upd_ne (fun e => by rw [e, hp] at hb; cases hb)]
            exact hb
          · exact hq r (g.inn r ((h1 r).mp hr))
          · rw [List.length_map, List.length_map, sizeLine_eq]; omega
      · cases ho
end
end MP

-- part MsD
/-! sorted(d), d a dict whose keys are tuples of ints. -/
namespace MP
open PySem PySem.Spec PyProof.Rows L2
section
variable {P : Program} {w : World} {A : Around} {E : Value → Shared → Prop} {s : Shared}
set_option maxHeartbeats 4000000 in
/-- a new list of the refs of M, sorted -/
theorem refs_sorted {s1 : Shared} {M : List (Addr × List Int)} {R : _ → Shared → Prop} (hu : A.units + 200 < cLine) (h64 : M.length < 64) (hne : ∀ q ∈ M, q.2 ≠ []) (ht : ∀ q ∈ M, IsT P w s1.heap q.2 q.1) (nd : (M.map (·.2)).Nodup)
    (hQ : ∀ s2 p (out : Array Value) (c : Nat) (M' : List (Addr × List Int)), (∀ b o, s1.heap.get? b = some o → s2.heap.get? b = some o) → s2.gens = s1.gens → s2.os = s1.os → s1.heap.objs.size ≤ p → s2.heap.get? p = some (seqObj "list" out c) →
      out.toList = M'.map (fun q => Value.ref q.1) → (∀ q, q ∈ M' ↔ q ∈ M) → (M'.map (·.2)).Pairwise (· < ·) → wpAny (model P w) A.in1 (PySem.ret (.ref p)) R E s2) :
    wpAny (model P w) A.in1 (do
      let l ← newList (M.map fun q => Value.ref q.1)
      let _ ← holding [l] (call (.builtin "list.sort") [l] [])
      PySem.ret l) R E s1 := by
  refine wpAny_bind (wpAny_newList ?_ (by rw [sizeLine_eq, List.length_map]; omega))
  have hoL : (s1.heap.push (seqObj "list" (M.map fun q => Value.ref q.1).toArray 0)).get? s1.heap.objs.size = some (seqObj "list" (M.map fun q => Value.ref q.1).toArray 0) := Heap.get?_push_size _ rfl
  have each : ∀ N : List (Addr × List Int), (∀ q ∈ N, q ∈ M) → PySem.W.EachIs (fun (v : Value) (q : Addr × List Int) => v = .ref q.1) (N.map fun q => Value.ref q.1) N ∧
      PySem.W.EachIs (fun (v : Value) (q : Addr × List Int) => ∃ as, Reads (s1.heap.push (seqObj "list" (M.map fun q => Value.ref q.1).toArray 0)) v (encT q) as ∧ s1.heap.objs.size ∉ as) (N.map fun q => Value.ref q.1) N := fun N => by
    induction N with
    | nil => exact fun _ => ⟨.nil, .nil⟩
    | cons q N ih =>
      intro h
      obtain ⟨i1, i2⟩ := ih fun r hr => h r (List.mem_cons_of_mem _ hr)
      refine ⟨.cons rfl i1, .cons ⟨[], ?_, fun z => (by cases z)⟩ i2⟩
      exact reads_isT (isT_keep (ht q (h q List.mem_cons_self)) fun b u e => Heap.get?_push_of_some _ e)
  obtain ⟨c1, c2⟩ := each M fun _ z => z
  have al : PySem.W.AllAlike (M.map encT) := PySem.W.AllAlike.of fun x y => by
    show PySem.W.alike (.tuple _) (.tuple _) = true
    rw [PySem.W.alike]; exact PySem.W.alike_ints _ _
  have so : PySem.W.Sortable (M.map encT) := .inl fun d hd' => by
    obtain ⟨q, hq, rfl⟩ := List.mem_map.mp hd'
    have := hne q hq
    show ∃ x r, PyData.tuple (q.2.map .int) = .tuple (x :: r)
    cases h : q.2 with
    | nil => exact (this h).elim
    | cons n ns => exact ⟨_, _, rfl⟩
  refine wpAny_bind (wpAny_holding (PySem.W.list_sort_data (s := { s1 with heap := s1.heap.push (seqObj "list" (M.map fun q => Value.ref q.1).toArray 0) }) (enc := encT) (vs := M.map fun q => Value.ref q.1) hoL c1 c2 al so (by rw [sizeLine_eq]; omega) (fun b hb => ?_) fun out hol eo => ?_))
  · show A.in1.units + 1 + (PyData.depthAll (b.2.map .int) + 1) < cLine
    rw [PySem.W.depth_ints]
    show A.units + 1 + 1 + (0 + 1) < cLine
    omega
  · obtain ⟨c, hc⟩ := sortedHeap_at (vs := M.map fun q => Value.ref q.1) (out := out.toArray) hoL
    have pS := List.mergeSort_perm M (PySem.W.dataLe false encT)
    have eout : out = (M.mergeSort (PySem.W.dataLe false encT)).map fun q => Value.ref q.1 := by
      generalize M.mergeSort (PySem.W.dataLe false encT) = Z at eo
      clear hol hc
      induction eo with
      | nil => rfl
      | cons h1 _ ih => rw [h1, ih]; rfl
    have srt := List.pairwise_mergeSort (le := PySem.W.dataLe false encT) (fun x y z h1 h2 => by
      rw [leL_encT] at h1 h2 ⊢
      simp only [Bool.not_eq_true', decide_eq_false_iff_not] at h1 h2 ⊢
      exact List.not_lt.mpr (List.le_trans (List.not_lt.mp h1) (List.not_lt.mp h2))) (fun x y => by
      rw [leL_encT, leL_encT]
      rcases List.le_total x.2 y.2 with h | h
      · rw [decide_eq_false (List.not_lt.mpr h)]; rfl
      · rw [decide_eq_false (List.not_lt.mpr h)]; simp) M
    refine hQ _ s1.heap.objs.size out.toArray c (M.mergeSort (PySem.W.dataLe false encT)) (fun b u e => ?_) rfl rfl (Nat.le_refl _) hc (by rw [List.toList_toArray, eout]) (fun q => pS.mem_iff) ?_
    · show (sortedHeap _ s1.heap.objs.size _ out.toArray).get? b = some u
      rw [sortedHeap_old (Nat.ne_of_lt (Heap.lt_size e)) (by rw [size_push']; exact Nat.lt_succ_of_lt (Heap.lt_size e))]
      exact Heap.get?_push_of_some _ e
    · have nd2 := ((pS.map (·.2)).nodup_iff).mpr nd
      have s2 : ((M.mergeSort (PySem.W.dataLe false encT)).map (·.2)).Pairwise (· ≤ ·) := List.pairwise_map.mpr (srt.imp fun {x y} h => by
        rw [leL_encT] at h
        exact List.not_lt.mp (by simpa using h))
      exact (List.Pairwise.and s2 nd2).imp fun {x y} h => by
        by_cases z : x < y
        · exact z
        · exact (h.2 (List.le_antisymm h.1 (List.not_lt.mp z))).elim
end
/-- a key tuple of ints -/
def kI (k : List Int) : List Key := k.map Sum.inl
theorem kI_inj : ∀ {a b : List Int}, kI a = kI b → a = b
  | [], [], _ => rfl
  | [], _ :: _, h => nomatch h
  | _ :: _, [], h => nomatch h
  | x :: a, y :: b, h => by
    unfold kI at h
    rw [List.map_cons, List.map_cons] at h
    injection h with h1 h2
    injection h1 with h1
    rw [h1, kI_inj h2]
theorem kI_V (k : List Int) : (kI k).map kV = k.map V.int := by
  unfold kI
  rw [List.map_map]; rfl
section
variable {X : Cx}
def rSortedDT (K : PySem.W.Frag) : List V → Hp → VK → Prop := fun vs H Q => ∃ (a : Addr) (kvs : List (List Key × V)) (ks : List (List Int)), vs = [V.ref a] ∧ Rd H a (.dT kvs) ∧ kvs.map (·.1) = ks.map kI ∧ (∀ k ∈ ks, k ≠ []) ∧ (ks.Nodup → ks.length < 64) ∧
  ∀ (M : List (Addr × List Int)) (p : Addr), (∀ q ∈ M, H q.1 = some (.tup (q.2.map V.int))) → (∀ x, x ∈ M.map (·.2) ↔ x ∈ ks) → (M.map (·.2)).Pairwise (· < ·) → M.length < 64 → H p = none → Q (.ref p) (upd H p (.lst (M.map fun q => V.ref q.1)))
set_option maxHeartbeats 4000000 in
theorem cr_sortedDT (hc : X.calm = true) (hu : X.A.units + 200 < cLine) : CallR X (.builtin "sorted") (rSortedDT X.K) := by
  intro pins s σ H vs us Q I r h
  obtain ⟨d, kvs, ks, rfl, hd, hks, hne, hfew, q⟩ := h
  obtain ⟨u, rfl, rx⟩ := r.one
  cases rx
  obtain ⟨z, hs, xs, pr, o, es, ep, ho, hx, hdt, he, hn⟩ := (show ObjOk X.prog X.w H s.heap d (.dT kvs) from hd.ok I.hok)
  have l1 : es.size = xs.length := size_of_entries he
  have l2 : kvs.length = xs.length := Paired.length pr
  have l3 : ks.length = kvs.length := by
    have := congrArg List.length hks
    rw [List.length_map, List.length_map] at this
    exact this.symm
  -- the keys as rows
  have rows : ∃ M : List (Addr × List Int), xs.map (fun x => x.2.1) = M.map (·.1) ∧ M.map (·.2) = ks ∧ xs.map (·.1) = M.map (fun q => kI q.2) ∧ ∀ q ∈ M, H q.1 = some (.tup (q.2.map V.int)) := by
    clear l1 l2 l3 he hn hne hfew q z ho hdt hx
    clear hd
    induction pr generalizing ks with
    | nil =>
      cases ks with
      | nil => exact ⟨[], rfl, rfl, rfl, fun _ z => nomatch z⟩
      | cons k ks => cases hks
    | @cons kv x kvs xs h1 _ ih =>
      cases ks with
      | nil => cases hks
      | cons k ks =>
        rw [List.map_cons, List.map_cons] at hks
        injection hks with e1 e2
        obtain ⟨M, g1, g2, g3, g4⟩ := ih _ e2
        refine ⟨(x.2.1, k) :: M, by rw [List.map_cons, g1]; rfl, by rw [List.map_cons, g2], by rw [List.map_cons, g3, ← h1.1, e1]; rfl, fun q hq => ?_⟩
        rcases List.mem_cons.mp hq with z | z
        · subst z
          have := h1.2.1
          rw [e1, kI_V] at this
          exact this
        · exact g4 q z
  obtain ⟨M, m1, m2, m3, m4⟩ := rows
  have ndk : ks.Nodup := by
    rw [← m2]
    rw [m3] at hn
    refine List.pairwise_map.mpr ((List.pairwise_map.mp hn).imp fun {a b} h e => h (by rw [e]))
  have h64 := hfew ndk
  have lM : M.length = ks.length := by rw [← m2, List.length_map]
  refine Calls.call_function_entry kind_sorted plain_sorted entry_sorted (args_sorted1 _) ?_
  unfold Builtin.«sorted»
  refine wpAny_bind (m := checkCount "sorted" 1 1 _) (wpAny_pure ?_)
  refine wpAny_bind (PySem.W.kdu_collect (A := X.A.in1) (kdl_raw hs hx hdt) (I.ok.hd hc) ho (by omega) fun h' tk acc kp it => ?_)
  have ea : acc.toList = M.map fun q => Value.ref q.1 := by
    have hl : acc.toList.length = xs.length := by rw [Array.length_toList, it.1]; exact l1
    have e0 : acc.toList = (xs.map fun x => x.2.1).map Value.ref := by
      apply List.ext_getElem?
      intro j
      rw [List.getElem?_map, List.getElem?_map]
      cases hj : acc.toList[j]? with
      | none =>
        have h1 := List.getElem?_eq_none_iff.mp hj
        rw [List.getElem?_eq_none (by omega)]
        all_goals rfl
      | some v =>
        obtain ⟨en, hen, hv⟩ := it.2 j v (by rw [← Array.getElem?_toList]; exact hj)
        have qe := entry_at he j
        rw [hen] at qe
        cases hb : xs[j]? with
        | none =>
          rw [hb] at qe
          exact nomatch (show some en = none from qe)
        | some b =>
          rw [hb] at qe
          have e2 : en = entryOfKey (tupleKind (mixKind X.prog X.w)) b := Option.some.inj qe
          rw [hv, e2]
          all_goals rfl
    rw [e0, m1, List.map_map]
    all_goals rfl
  have I1 : Inv X pins σ H { s with heap := h', toks := tk } := I.kept kp
  rw [ea]
  refine refs_sorted (s1 := { s with heap := h', toks := tk }) hu (by omega) (fun q hq => hne q.2 (by rw [← m2]; exact List.mem_map.mpr ⟨q, hq, rfl⟩)) (fun q hq => I1.isT (.inl (.inl (m4 q hq)))) (by rw [m2]; exact ndk)
    fun s2 p out c M' k g o hp hg hout hm pw => ?_
  have nM : M'.Nodup := nodup_of_map (ascL_nd pw)
  have hfew' : M'.length < 64 := by
    have := ((List.perm_ext_iff_of_nodup nM (nodup_of_map (f := (·.2)) (by rw [m2]; exact ndk))).mpr hm).length_eq
    omega
  have hlen : (M'.map fun q => V.ref q.1).length ≤ sizeLine := by rw [List.length_map, sizeLine_eq]; omega
  have hn : H p = none := I1.hok.fresh hp
  have hv : Vals (M'.map fun q => V.ref q.1) out.toList := hout ▸ vals_of_refs M'
  have J : Inv X pins σ (upd H p (.lst (M'.map fun q => V.ref q.1))) { s with heap := s2.heap, gens := s2.gens, drawn := s2.drawn, toks := s2.toks } :=
    I.call (ch := []) (Un.trans (Un.kept kp) (Un.laid k hp hn)) (I1.hok.laid k hp ⟨hlen, out.toList, c, hv, hg⟩) (by rw [g]; exact I1.bare) (fun _ z => nomatch z)
  have e : s2 = { s with heap := s2.heap, gens := s2.gens, drawn := s2.drawn, toks := s2.toks } := by cases s2; cases s; cases o; rfl
  refine wpAny_pure (e ▸ ⟨_, rfl, .ref p, _, J, rfl, q M' p (fun q hq => m4 q ((hm q).mp hq)) (fun x => ?_) pw hfew' hn⟩)
  rw [← m2]
  constructor
  · intro hx
    obtain ⟨r, hr, rfl⟩ := List.mem_map.mp hx
    exact List.mem_map.mpr ⟨r, (hm r).mp hr, rfl⟩
  · intro hx
    obtain ⟨r, hr, rfl⟩ := List.mem_map.mp hx
    exact List.mem_map.mpr ⟨r, (hm r).mpr hr, rfl⟩
end
end MP

-- part MpSum
set_option maxHeartbeats 1000000
/-! sum(lists, start): lists one behind another. -/
namespace MP
open PySem PySem.Spec PyProof.Rows
section
variable {prog : Program} {w : World} {A : Around} {R : Result → Shared → Prop} {E : Value → Shared → Prop} {I l : Addr} {items : Array Value}
abbrev gEq : Array GenState → Array GenState → Prop := fun a b => b = a
theorem sum_lists_loop (hh : A.in1.handled = none) (hne : l ≠ I) (ad : Nat → Addr) (cs : Nat → List Value) (hP : ∀ (i : Nat) (v : Value), items[i]? = some v → v = .ref (ad i)) (S : Addr) (hSI : S ≠ I) (hSl' : S ≠ l) (pre : Nat → List Value) (hpre : ∀ i, pre (i + 1) = pre i ++ cs i) (hsz : ∀ i, i ≤ items.size → (pre i).length ≤ sizeLine) :
    ∀ (k i : Nat) (s : Shared) (t nt c : Nat), items.size - i = k → i ≤ items.size → (s.heap.IsListIter I l i ∧ s.heap.IsList l items) → s.heap.get? S = some { cls := .type "list", dict := none, data := .seq #[.ref t] c, slots := #[] } → IsL s.heap t (pre i).toArray nt → t ∉ [S, I] →
      (∀ j, i ≤ j → j < items.size → ∃ m, IsL s.heap (ad j) (cs j).toArray m ∧ ad j ∉ [S, I]) →
      (∀ s' t' nt', Moved [S, I] gEq s s' → IsL s'.heap t' (pre items.size).toArray nt' → (k = 0 ∧ t' = t ∨ 0 < k ∧ s.heap.objs.size ≤ t') → R (.ok (.ret (.ref t'))) s') → codeAny (model prog w) A (.builtin "sum.loop" ⟨[.ref I, .ref S, rawInt 2, rawInt 0], []⟩) R s := by
  have W := (Walks.list (prog := prog) (w := w) hh I l hne items).toS
  have hSw : S ∉ [I] := by simpa using hSI
  have hsub : ∀ b ∈ [I], b ∈ [S, I] := fun b hb => List.mem_cons_of_mem _ hb
  intro k
  induction k with
  | zero =>
    intro i s t nt c hk hi hst hS ht htw hL hR
    have hin : i = items.size := by omega
    subst hin
    refine codeAny_builtin PySem.F.entry_sum_loop ?_
    rw [Around.under_plainId PySem.F.plain_sum_loop _]
    show wpAny _ A.in1 (seqItems? (.ref S) >>= _) _ _ s
    refine wpAny_bind (wpAny_seqItems hS rfl ?_)
    show wpAny _ A.in1 (tryCatch (pyNext (.ref I)) _ >>= _) _ _ s
    refine wpAny_bind (wpAny_tryCatch (W.done s _ _ hst fun s' hm => ?_))
    exact wpAny_pure (hR s' t nt (hm.mono hsub) (hm.heap t _ (fun z => htw (List.mem_cons_of_mem _ z)) ht) (.inl ⟨rfl, rfl⟩))
  | succ k ih =>
    intro i s t nt c hk hi hst hS ht htw hL hR
    have hlt' : i < items.size := by omega
    refine codeAny_builtin PySem.F.entry_sum_loop ?_
    rw [Around.under_plainId PySem.F.plain_sum_loop _]
    show wpAny _ A.in1 (seqItems? (.ref S) >>= _) _ _ s
    refine wpAny_bind (wpAny_seqItems hS rfl ?_)
    show wpAny _ A.in1 (tryCatch (pyNext (.ref I)) _ >>= _) _ _ s
    refine wpAny_bind (wpAny_tryCatch (wpAny_pyNext_list_item hst.1 hst.2 (x := items[i]) (by simp [hlt']) fun h1 hit1 hs1 => ?_))
    have hv : items[i] = .ref (ad i) := hP i _ (by simp [hlt'])
    rw [hv]
    have hm : Moved [I] gEq s { s with heap := h1 } := ⟨fun b o hb e => hs1.extBut b o (fun z => hb (by simp [z])) e, rfl, rfl, rfl, Nat.le_refl _⟩
    have hst' : h1.IsListIter I l (i + 1) ∧ h1.IsList l items := ⟨hit1, hst.2.extBut hs1.extBut hne⟩
    have hsize : h1.objs.size = s.heap.objs.size := hs1.1
    generalize hs' : ({ s with heap := h1 } : Shared) = s' at *
    have hh1 : s'.heap = h1 := by rw [← hs']
    rw [← hh1] at hst' hsize
    have hS' := hm.heap S _ hSw hS
    have ht' : IsL s'.heap t (pre i).toArray nt := hm.heap t _ (fun z => htw (List.mem_cons_of_mem _ z)) ht
    obtain ⟨ma, ha, haw⟩ := hL i (Nat.le_refl _) hlt'
    have ha' : IsL s'.heap (ad i) (cs i).toArray ma := hm.heap _ _ (fun z => haw (List.mem_cons_of_mem _ z)) ha
    show wpAny _ A.in1 ((holding [Value.ref (ad i)] (binaryOp .Add (.ref t) (.ref (ad i)))).attempt >>= _) _ _ s'
    have hz : (pre i).toArray.size + (cs i).toArray.size ≤ sizeLine := by
      have := hsz (i + 1) (by omega)
      rw [hpre, List.length_append] at this
      simpa using this
    refine wpAny_bind (wpAny_attempt (wpAny_holding (PySem.P.add_list ht' ha' ?_ hz)))
    have hSl : S < s'.heap.objs.size := Heap.lt_size hS'
    have hp : (s'.heap.push { cls := .type "list", data := .seq ((pre i).toArray ++ (cs i).toArray) }).get? S = some { cls := .type "list", dict := none, data := .seq #[.ref t] c, slots := #[] } := Heap.get?_push_of_some _ hS'
    show wpAny _ A.in1 (updateSeq S (fun _ => #[.ref s'.heap.objs.size]) >>= _) _ _ _
    refine wpAny_bind (wpAny_updateSeq hp rfl ?_)
    have hS₂ := Heap.get?_update_self (Obj.mapSeq fun _ => #[Value.ref s'.heap.objs.size]) hp rfl
    refine wpAny_bind (wpAny_letGo ?_)
    have keep : ∀ b o, b ∉ [S, I] → s'.heap.get? b = some o → (((s'.heap.push { cls := .type "list", data := .seq ((pre i).toArray ++ (cs i).toArray) }).update S (Obj.mapSeq fun _ => #[Value.ref s'.heap.objs.size])).update S (Obj.mapSeq fun _ => #[Value.ref s'.heap.objs.size])).get? b = some o := fun b o hb e => by
      have hne : S ≠ b := fun h => hb (by rw [h]; exact List.mem_cons_self)
      exact (Heap.get?_update_other _ _ hne).trans ((Heap.get?_update_other _ _ hne).trans (Heap.get?_push_of_some _ e))
    have mv : Moved [S, I] gEq s { s' with heap := ((s'.heap.push { cls := .type "list", data := .seq ((pre i).toArray ++ (cs i).toArray) }).update S (Obj.mapSeq fun _ => #[Value.ref s'.heap.objs.size])).update S (Obj.mapSeq fun _ => #[Value.ref s'.heap.objs.size]) } :=
      (hm.mono hsub).then_heap (tk := s'.toks) (Nat.le_refl _) keep
    have none' : ∀ o, s'.heap.get? s'.heap.objs.size ≠ some o := fun o e => absurd (Heap.lt_size e) (Nat.lt_irrefl _)
    have hI' : ∃ o, s'.heap.get? I = some o := by obtain ⟨o, e, _⟩ := hst'.1; exact ⟨o, e⟩
    have tw' : s'.heap.objs.size ∉ [S, I] := fun z => by
      rcases List.mem_cons.mp z with z | z
      · exact none' _ (by rw [z]; exact hS')
      · rw [List.mem_singleton] at z
        obtain ⟨o, e⟩ := hI'
        exact none' o (by rw [z]; exact e)
    refine wpAny_bind (wpAny_updateSeq hS₂ rfl (wpAny_pure ⟨plainId_quiet PySem.F.plain_sum_loop _, ih (i + 1) _ s'.heap.objs.size 0 _ (by omega) hlt'
      (W.frame _ s' _ s'.toks hst' (Nat.le_refl _) fun b hb o e => ?_) (Heap.get?_update_self _ hS₂ rfl) ?_ tw' (fun j h1 h2 => ?_) fun s'' t'' nt'' hm'' hl'' ht'' => ?_⟩))
    · have hne : S ≠ b := fun h => by
        rw [← h] at hb
        rcases List.mem_cons.mp hb with z | z
        · exact hSI z
        · exact hSl' (List.mem_singleton.mp z)
      exact (Heap.get?_update_other _ _ hne).trans ((Heap.get?_update_other _ _ hne).trans (Heap.get?_push_of_some _ e))
    · have hne : S ≠ s'.heap.objs.size := Nat.ne_of_lt hSl
      have q := (Heap.get?_update_other ((s'.heap.push { cls := .type "list", data := .seq ((pre i).toArray ++ (cs i).toArray) }).update S (Obj.mapSeq fun _ => #[Value.ref s'.heap.objs.size])) (Obj.mapSeq fun _ => #[Value.ref s'.heap.objs.size]) hne).trans ((Heap.get?_update_other _ _ hne).trans (Heap.get?_push_size s'.heap (o := { cls := .type "list", data := .seq ((pre i).toArray ++ (cs i).toArray) }) rfl))
      rw [hpre]
      simpa using q
    · obtain ⟨m, h3, h4⟩ := hL j (by omega) h2
      exact ⟨m, mv.heap _ _ h4 h3, h4⟩
    · refine hR s'' t'' nt'' (Moved.trans (fun _ _ _ h1 h2 => h2.trans h1) mv hm'') hl'' (.inr ⟨Nat.succ_pos _, ?_⟩)
      rcases ht'' with ⟨_, z⟩ | ⟨_, z⟩
      · rw [z, hsize]; exact Nat.le_refl _
      · refine Nat.le_trans ?_ z
        show s.heap.objs.size ≤ ((_ : Heap).update S _).objs.size
        rw [Heap.size_update, Heap.size_update, Heap.size_push, hsize]
        exact Nat.le_succ _
theorem args_sum2 (a b : Value) : argsOk "sum" ⟨[a, b], []⟩ := by unfold argsOk; kernel_rfl
theorem call_sum_lists {s : Shared} {b nb : Nat} {acc : List Value} {Q : Value → Shared → Prop} (hh : A.handled = none) (hl : s.heap.IsList l items) (hb : IsL s.heap b acc.toArray nb) (hpos : 0 < items.size)
    (ad : Nat → Addr) (cs : Nat → List Value) (hP : ∀ (i : Nat) (v : Value), items[i]? = some v → v = .ref (ad i)) (pre : Nat → List Value) (hp0 : pre 0 = acc) (hpre : ∀ i, pre (i + 1) = pre i ++ cs i) (hsz : ∀ i, i ≤ items.size → (pre i).length ≤ sizeLine)
    (hL : ∀ j, j < items.size → ∃ m, IsL s.heap (ad j) (cs j).toArray m)
    (hQ : ∀ h' tk t' nt', (∀ b o, s.heap.get? b = some o → h'.get? b = some o) → IsL h' t' (pre items.size).toArray nt' → s.heap.objs.size ≤ t' → Q (.ref t') { s with heap := h', toks := tk }) :
    wpAny (model prog w) A (call (.builtin "sum") [.ref l, .ref b]) Q E s := by
  have ty : s.TypeIs (.ref b) "list" := ⟨_, hb, rfl⟩
  refine call_function_tree PySem.F.kind_sum PySem.F.plain_sum PySem.F.entry_sum (args_sum2 _ _) ?_
  unfold Builtin.«sum»
  simp only [List.length_cons, List.length_nil]
  rw [if_neg (by decide)]
  refine wpAny_bind (wpAny_of_eq (show Builtin.Builtins.bindParams "sum" ["start"] 0 { pos := [.ref b], kw := [] } = pure [some (.ref b)] from rfl) ?_)
  refine wpAny_bind (wpAny_pyIter_list hl ?_)
  have ty2 : ∀ h', h' = s.heap.push { cls := .type "list_iterator", data := .fields #[.ref l, .int 0 0] } → Shared.TypeIs { s with heap := h' } (.ref b) "list" := fun h' e => by
    subst e
    exact ⟨_, Heap.get?_push_of_some _ hb, rfl⟩
  refine wpAny_bind (wpAny_pure ?_)
  simp only [List.forIn_cons, List.forIn_nil]
  refine wpAny_bind (wpAny_bind (wpAny_bind (wpAny_isInstance (T := "list") (b := false) (ty2 _ rfl) PySem.F.sub_list_str ?_)))
  simp only [Bool.false_eq_true, if_false]
  refine wpAny_pure (wpAny_bind (wpAny_bind (wpAny_isInstance (T := "list") (b := false) (ty2 _ rfl) PySem.F.sub_list_bytes ?_)))
  simp only [Bool.false_eq_true, if_false]
  refine wpAny_pure (wpAny_bind (wpAny_bind (wpAny_isInstance (T := "list") (b := false) (ty2 _ rfl) PySem.F.sub_list_bytearray ?_)))
  simp only [Bool.false_eq_true, if_false]
  refine wpAny_pure (wpAny_pure ?_)
  refine wpAny_bind (wpAny_newObj_type ?_)
  have lt : ∀ {a : Addr} {o : Obj}, s.heap.get? a = some o → a < s.heap.objs.size := fun e => Heap.lt_size e
  obtain ⟨ol, hol, _⟩ := id hl
  have hsz1 : (s.heap.push { cls := .type "list_iterator", data := .fields #[.ref l, .int 0 0] }).objs.size = s.heap.objs.size + 1 := Heap.size_push _ _
  have up : ∀ {a : Addr} {o : Obj}, s.heap.get? a = some o → ((s.heap.push { cls := .type "list_iterator", data := .fields #[.ref l, .int 0 0] }).push { cls := .type "list", data := .seq #[.ref b] }).get? a = some o := fun e => Heap.get?_push_of_some _ (Heap.get?_push_of_some _ e)
  have old : ∀ {a : Addr} {o : Obj}, s.heap.get? a = some o → a ∉ [(s.heap.push { cls := .type "list_iterator", data := .fields #[.ref l, .int 0 0] }).objs.size, s.heap.objs.size] := fun {a o} e z => by
    have q := lt e
    rcases List.mem_cons.mp z with z | z
    · rw [z, hsz1] at q; exact absurd (Nat.lt_of_succ_lt q) (Nat.lt_irrefl _)
    · rw [List.mem_singleton] at z; rw [z] at q; exact Nat.lt_irrefl _ q
  refine wpAny_pure ⟨plainId_quiet PySem.F.plain_sum_loop _, sum_lists_loop (items := items) (I := s.heap.objs.size) (l := l) hh (Nat.ne_of_lt (lt hol)) ad cs hP _ (by rw [hsz1]; exact Nat.succ_ne_self _) (by rw [hsz1]; exact Nat.ne_of_gt (Nat.lt_succ_of_lt (lt hol))) pre hpre hsz
    items.size 0 _ b nb 0 (Nat.sub_zero _) (Nat.zero_le _) ⟨⟨_, Heap.get?_push_of_some _ (Heap.get?_push_size _ rfl), rfl, rfl⟩, hl.at fun o e => up e⟩ (Heap.get?_push_size _ rfl) (by rw [hp0]; exact up hb) (old hb)
    (fun j _ h2 => let ⟨m, e⟩ := hL j h2; ⟨m, up e, old e⟩) fun s' t' nt' hm hl' ht => ?_⟩
  obtain ⟨h', g', d', tk', os'⟩ := s'
  have e1 : g' = s.gens := hm.gens
  have e2 : d' = s.drawn := hm.drawn
  have e3 : os' = s.os := hm.os
  subst e1 e2 e3
  refine hQ h' tk' t' nt' (fun a o e => hm.heap a o (old e) (up e)) hl' ?_
  rcases ht with ⟨z, _⟩ | ⟨_, z⟩
  · omega
  · refine Nat.le_trans ?_ z
    show s.heap.objs.size ≤ ((_ : Heap).push _).objs.size
    rw [Heap.size_push, Heap.size_push]
    exact Nat.le_succ_of_le (Nat.le_succ _)
end
section
variable {K : PySem.W.Frag} {H : Hp} {N : Addr → Prop}
theorem LIM_leS : LIM ≤ sizeLine := by rw [sizeLine_eq]; decide
theorem sumL_get : ∀ {xs : List D} {acc out : List D}, sumL acc xs = some out → ∃ cs : Nat → List D, (∀ (i : Nat) (d : D), xs[i]? = some d → d = D.lst (cs i)) ∧ ∃ pre : Nat → List D, pre 0 = acc ∧ (∀ i, pre (i + 1) = pre i ++ cs i) ∧ pre xs.length = out ∧ ∀ i, i ≤ xs.length → (pre i).length ≤ max acc.length LIM
  | [], acc, out, h => by
    cases h
    refine ⟨fun _ => [], fun i d e => by simp at e, fun _ => acc, rfl, fun i => by simp, rfl, fun i _ => Nat.le_max_left _ _⟩
  | x :: xs, acc, out, h => by
    cases x <;> first | (cases h; done) | skip
    rename_i ys
    rw [sumL] at h
    split at h
    · rename_i hl
      obtain ⟨cs, h1, pre, h2, h3, h4, h5⟩ := sumL_get h
      refine ⟨fun i => match i with | 0 => ys | i + 1 => cs i, fun i d e => ?_, fun i => match i with | 0 => acc | i + 1 => pre i, rfl, fun i => ?_, h4, fun i hi => ?_⟩
      · cases i with
        | zero => simp at e; exact e.symm
        | succ i => exact h1 i d (by simpa using e)
      · cases i with
        | zero => exact h2
        | succ i => exact h3 i
      · cases i with
        | zero => exact Nat.le_max_left _ _
        | succ i =>
          have := h5 i (by simpa using hi)
          rw [List.length_append] at this
          show (pre i).length ≤ _
          omega
    · cases h
end
section
variable {X : L2.Cx}
open L2
theorem cr_sum2 (hc : X.calm = true) : CallR X (.builtin "sum") (rBi X.K .sum2) := by
  intro pins s σ H xs us Q I r h
  obtain ⟨N, ds, w, hd, ho, q⟩ := h
  replace ho : biSum2 ds = some w := ho
  unfold biSum2 at ho
  split at ho
  · rename_i x xs' ys
    cases hs : sumL ys (x :: xs') with
    | none => rw [hs] at ho; cases ho
    | some out =>
      rw [hs] at ho
      cases ho
      obtain ⟨v, u, rfl, hv, hu⟩ := hd.two
      obtain ⟨a, as, rfl, a1, a2, a3⟩ := hv
      obtain ⟨b, bs, rfl, b1, b2, b3⟩ := hu
      obtain ⟨cs, h1, pre, h2, h3, h4, h5⟩ := sumL_get hs
      cases r with
      | cons r1 r =>
        cases r with
        | cons r2 r =>
          cases r
          cases r1
          cases r2
          obtain ⟨itA, nA, vA, eA, zA⟩ := I.lst a1
          obtain ⟨itB, nB, vB, eB, zB⟩ := I.lst b1
          have hlen : as.length = (x :: xs').length := a2.length
          have lenA : itA.length = (x :: xs').length := by rw [← vA.length]; exact hlen
          -- the items: lists, with their values
          have each : ∀ i, i < (x :: xs').length → ∃ (c : Addr) (vs : List V) (its : List Value) (n : Nat), itA[i]? = some (.ref c) ∧ H c = some (.lst vs) ∧ Reps X.K H N vs (cs i) ∧ Vals vs its ∧ IsL s.heap c its.toArray n := fun i hi => by
            have e : (x :: xs')[i]? = some (x :: xs')[i] := List.getElem?_eq_getElem hi
            have e2 := h1 i _ e
            rw [e2] at e
            obtain ⟨v, g1, g2⟩ := a2.get e
            cases g2 with
            | lst k0 k1 k2 k3 =>
              obtain ⟨u, m1, m2⟩ := vA.get g1
              cases m2
              obtain ⟨its, n, p1, p2, p3⟩ := I.lst k1
              exact ⟨_, _, its, n, m1, k1, k2, p1, p2⟩
          -- chosen place by place
          have : ∃ (ad : Nat → Addr) (vv : Nat → List V) (ii : Nat → List Value) (nn : Nat → Nat), ∀ i, i < (x :: xs').length → itA[i]? = some (.ref (ad i)) ∧ H (ad i) = some (.lst (vv i)) ∧ Reps X.K H N (vv i) (cs i) ∧ Vals (vv i) (ii i) ∧ IsL s.heap (ad i) (ii i).toArray (nn i) := by
            refine ⟨fun i => if h : i < (x :: xs').length then Classical.choose (each i h) else 0, fun i => if h : i < (x :: xs').length then Classical.choose (Classical.choose_spec (each i h)) else [], fun i => if h : i < (x :: xs').length then Classical.choose (Classical.choose_spec (Classical.choose_spec (each i h))) else [],
              fun i => if h : i < (x :: xs').length then Classical.choose (Classical.choose_spec (Classical.choose_spec (Classical.choose_spec (each i h)))) else 0, fun i hi => ?_⟩
            simp only [dif_pos hi]
            exact Classical.choose_spec (Classical.choose_spec (Classical.choose_spec (Classical.choose_spec (each i hi))))
          obtain ⟨ad, vv, ii, nn, ea⟩ := this
          -- the sums
          let preU : Nat → List Value := fun i => Nat.rec itB (fun j acc => acc ++ ii j) i
          let preV : Nat → List V := fun i => Nat.rec bs (fun j acc => acc ++ vv j) i
          have hrel : ∀ i, i ≤ (x :: xs').length → Vals (preV i) (preU i) ∧ Reps X.K H N (preV i) (pre i) := fun i => by
            induction i with
            | zero => exact fun _ => ⟨vB, by rw [h2]; exact b2⟩
            | succ i ih =>
              intro hi
              obtain ⟨g1, g2⟩ := ih (by omega)
              obtain ⟨_, _, k1, k2, _⟩ := ea i (by omega)
              exact ⟨g1.append k2, by rw [h3]; exact g2.append k1⟩
          have hsize : ∀ i, i ≤ (x :: xs').length → (preU i).length ≤ sizeLine := fun i hi => by
            obtain ⟨g1, g2⟩ := hrel i hi
            rw [← g1.length, g2.length]
            have := h5 i hi
            have h6 := LIM_leS
            have h7 : ys.length ≤ sizeLine := b3
            omega
          have sz : itA.toArray.size = (x :: xs').length := by rw [List.size_toArray]; exact lenA
          refine call_sum_lists (items := itA.toArray) (acc := itB) (I.ok.hd hc) ⟨_, eA, rfl, nA, rfl⟩ eB (by rw [sz]; exact Nat.succ_pos _) ad ii (fun i v e => ?_) preU rfl (fun i => rfl) (fun i hi => hsize i (by rw [← sz]; exact hi)) (fun j hj => ?_) fun h' tk t' nt' hk hl' hf => ?_
          · have hi : i < (x :: xs').length := by
              rw [← sz]
              exact (Array.getElem?_eq_some_iff.mp e).1
            have e' : itA[i]? = some v := by rw [← List.getElem?_toArray]; exact e
            rw [(ea i hi).1] at e'
            exact (Option.some.inj e').symm
          · exact ⟨nn j, (ea j (by rw [← sz]; exact hj)).2.2.2.2⟩
          · rw [sz] at hl'
            obtain ⟨g1, g2⟩ := hrel _ (Nat.le_refl _)
            have hn : H t' = none := I.hok.fresh hf
            have hz : (preV (x :: xs').length).length ≤ sizeLine := by rw [g1.length]; exact hsize _ (Nat.le_refl _)
            refine ⟨.ref t', upd H t' (.lst (preV (x :: xs').length)), I.laid hk hf ⟨hz, _, nt', g1, hl'⟩, rfl, q _ _ (.list hn (by rw [← h4]; exact g2) ?_)⟩
            rw [← h4, ← g2.length]; exact hz
  · cases ho
end
end MP

-- part Mp6
set_option maxHeartbeats 1000000
/-! Expressions: the given text does what MP says. -/
namespace MP
open PySem PySem.Spec PyProof.Rows L2

def rdE (K : PySem.W.Frag) (C : CallF) (x : E) : TE := fun σ H Q => ∃ T r w r', ER K H T σ r ∧ ev C x r = .ok w r' ∧ ∀ v H', Po K H T σ r σ r' [w] [v] H' → Q v H'
def rdA (K : PySem.W.Frag) (C : CallF) (x : E) : TA := fun σ H Q => ∃ T r ws r', ER K H T σ r ∧ evs C x r = .ok ws r' ∧ ∀ vs H', Po K H T σ r σ r' ws vs H' → Q vs H'
def rdT (K : PySem.W.Frag) (C : CallF) (x : E) : TT := fun σ H Q => ∃ T r b r', ER K H T σ r ∧ test C x r = .ok b r' ∧ ∀ H', Po K H T σ r σ r' [] [] H' → Q b H'
abbrev SE (X : Cx) (C : CallF) (e : Expr) (x : E) : Prop := PE X e (rdE X.K C x)
abbrev SA (X : Cx) (C : CallF) (es : List Expr) (x : E) : Prop := PA X es (rdA X.K C x)
abbrev ST (X : Cx) (C : CallF) (e : Expr) (x : E) : Prop := PT X e (rdT X.K C x)

theorem pe_imp {X : Cx} {e : Expr} {t t' : TE} (h : PE X e t) (i : ∀ σ H Q, t' σ H Q → t σ H Q) : PE X e t' := ⟨fun pins s σ H Q I hw => h.run pins s σ H Q I (i _ _ _ hw)⟩
theorem pt_imp {X : Cx} {e : Expr} {t t' : TT} (h : PT X e t) (i : ∀ σ H Q, t' σ H Q → t σ H Q) : PT X e t' := ⟨fun pins s σ H Q I hw => h.run pins s σ H Q I (i _ _ _ hw)⟩
theorem pw_imp {X : Cx} {e : Expr} {t t' : TT} (h : PW X e t) (i : ∀ σ H Q, t' σ H Q → t σ H Q) : PW X e t' := ⟨fun wh pins s σ H Q I hw => h.run wh pins s σ H Q I (i _ _ _ hw)⟩
theorem pa_imp {X : Cx} {es : List Expr} {t t' : TA} (h : PA X es t) (i : ∀ σ H Q, t' σ H Q → t σ H Q) : PA X es t' := ⟨fun pos pins s σ H Q I hw => h.run pos pins s σ H Q I (i _ _ _ hw)⟩
theorem ps_imp {X : Cx} {st : Stmt} {t t' : TS} (h : PS X st t) (i : ∀ D σ H, t' D σ H → t D σ H) : PS X st t' := ⟨fun pins s σ H D I hw => h.run pins s σ H D I (i _ _ _ hw)⟩
theorem pss_imp {X : Cx} {st : List Stmt} {t t' : TS} (h : PSs X st t) (i : ∀ D σ H, t' D σ H → t D σ H) : PSs X st t' := ⟨fun pins s σ H D I hw => h.run pins s σ H D I (i _ _ _ hw)⟩

section
variable {K : PySem.W.Frag} {H H' H1 H2 : Hp} {T T' : Addr → Prop} {σ σ' σ1 σ2 : L2.St} {r r' r1 r2 : Env} {ws us : List W} {vs zs : List V} {w x y : W} {v : V} {i j : Nat} {d : D}
theorem Po.mk0 (E : ER K H T σ r) (h : WR K H T σ r w v) (ho : ownA w v = []) : Po K H T σ r σ r [w] [v] H := by
  have e : owns [w] [v] = [] := by show ownA w v ++ [] = []; rw [ho]; rfl
  have eT : Tw T [w] [v] = T := funext fun b => propext ⟨fun z => z.elim id fun z => absurd (show b ∈ ([] : List Addr) from e ▸ z) (by simp), .inl⟩
  have p := Po.refl E
  exact ⟨p.t0, p.frame, p.pers, by rw [eT]; exact E, by rw [eT]; exact .cons h .nil, fun b hb => absurd (show b ∈ ([] : List Addr) from e ▸ hb) (by simp), by rw [e]; exact List.nodup_nil, p.news, p.mun, p.keep⟩
theorem Po.val0 (E : ER K H T σ r) (h : Rep K H (fun b => T b ∨ Acc σ r b) v d) : Po K H T σ r σ r [.val d] [v] H := Po.mk0 E h rfl
theorem Po.slot0 (E : ER K H T σ r) (h : σ[i]? = some (some v)) : Po K H T σ r σ r [.slot i] [v] H := Po.mk0 E h rfl
theorem vw_inv {β : Type} {f : D → R β} {b : β} (e : vw r w f = .ok b r') : ∃ d, view r w = some d ∧ f d = .ok b r' := by
  unfold vw at e
  cases q : view r w with
  | none => rw [q] at e; cases e
  | some d => rw [q] at e; exact ⟨d, rfl, e⟩
theorem asB_inv {b : Bool} (e : asB w r = .ok b r') : w = .val (.bl b) ∧ r' = r := by
  unfold asB at e
  split at e
  · cases e; exact ⟨rfl, rfl⟩
  · cases e
/-- the value of a flag -/
theorem Po.flag {b : Bool} (p : Po K H T σ r σ1 r1 [.val (.bl b)] [v] H1) : v = .bl b ∧ Po K H T σ r σ1 r1 [] [] H1 := by
  refine ⟨?_, p.drop⟩
  cases p.res with
  | cons h t => cases (show Rep _ _ _ v (.bl b) from h); rfl
theorem Po.intv {b : Int} (p : Po K H T σ r σ1 r1 [.val (.int b)] [v] H1) : v = .int b := by
  cases p.res with
  | cons h t => cases (show Rep _ _ _ v (.int b) from h); rfl
theorem Po.at0 (p : Po K H T σ r σ1 r1 (w :: ws) (v :: vs) H1) : WR K H1 (Tw T (w :: ws) (v :: vs)) σ1 r1 w v := by
  cases p.res with
  | cons h t => exact h
theorem Po.at1 {w2 : W} {v2 : V} (p : Po K H T σ r σ1 r1 (w :: w2 :: ws) (v :: v2 :: vs) H1) : WR K H1 (Tw T (w :: w2 :: ws) (v :: v2 :: vs)) σ1 r1 w2 v2 := by
  cases p.res with
  | cons h t =>
    cases t with
    | cons h t => exact h
theorem Po.at2 {w2 w3 : W} {v2 v3 : V} (p : Po K H T σ r σ1 r1 (w :: w2 :: w3 :: ws) (v :: v2 :: v3 :: vs) H1) : WR K H1 (Tw T (w :: w2 :: w3 :: ws) (v :: v2 :: v3 :: vs)) σ1 r1 w3 v3 := by
  cases p.res with
  | cons h t =>
    cases t with
    | cons h t =>
      cases t with
      | cons h t => exact h
/-- behind a part whose result is no longer wanted -/
theorem Po.next (p : Po K H T σ r σ1 r1 [] [] H1) (q : Po K H1 T σ1 r1 σ2 r2 us zs H2) : Po K H T σ r σ2 r2 us zs H2 := by
  have := p.trans (us := us) (vs := []) (ws := []) (zs := zs) (by rw [Tw_nil]; exact q) (fun i z => by cases z)
  exact this
theorem Po.env0 (p : Po K H T σ r σ1 r1 [] [] H1) : ER K H1 T σ1 r1 := by
  have := p.env
  rwa [Tw_nil] at this
end

section
variable {X : Cx} {C : CallF} {e a b c : Expr} {x y z : E} {pos : Pos} {es rest : List Expr}

/-! ### names and constants -/
theorem se_var {i : Nat} {n : Str} (hN : X.N[i]? = some n) (hv : Vis X.env.scope n) (hd : (n == ("__debug__" : Str)) = false) (hcd : (n == ("__classdict__" : Str)) = false) : SE X C (.Name n pos) (.var i) := by
  refine pe_imp (pe_var hN hv hd hcd) fun σ H Q ⟨T, r, w, r', E, h, q⟩ => ?_
  rw [ev] at h
  cases g : gets r i with
  | no => rw [g] at h; cases h
  | val d =>
    rw [g] at h; cases h
    obtain ⟨v, e1, e2⟩ := E.val i d g
    exact ⟨v, e1, q v H (.val0 E e2)⟩
  | acc m xs =>
    rw [g] at h; cases h
    obtain ⟨a, vs, e1, _⟩ := E.acc i m xs g
    exact ⟨.ref a, e1, q _ H (.slot0 E e1)⟩
theorem se_const {d : D} {v : V} (h : PE X e (tC v)) (hd : ∀ H N, Rep X.K H N v d) : SE X C e (.lit d) := by
  refine pe_imp h fun σ H Q ⟨T, r, w, r', E, hr, q⟩ => ?_
  rw [ev] at hr
  cases hr
  exact q v H (.val0 E (hd H _))
theorem se_int {i : Int} {j : Nat} : SE X C (.Constant (.int i) j pos) (.lit (.int i)) := se_const pe_int fun _ _ => .int i
theorem se_bl {b : Bool} {j : Nat} : SE X C (.Constant (.bool b) j pos) (.lit (.bl b)) := se_const pe_bl fun _ _ => .bl b
theorem se_non {j : Nat} : SE X C (.Constant .none j pos) (.lit .non) := se_const pe_non fun _ _ => .non
theorem se_str {s : Str} {j : Nat} {cs : List Nat} (h : s.cps.toList = cs) (hl : cs.length ≤ LIM) : SE X C (.Constant (.str s) j pos) (.lit (.str cs)) := by
  refine se_const pe_str fun _ _ => ?_
  have e : s = ⟨cs.toArray⟩ := by
    cases s with
    | mk a => subst h; simp
  rw [e]
  exact .str cs hl
theorem se_tk (h : SE X C e x) : SE X C e (.tk x) := by
  refine pe_imp h fun σ H Q ⟨T, r, w, r', E, hr, q⟩ => ?_
  rw [ev] at hr
  obtain ⟨w1, r1, h1, h2⟩ := R.bind_inv hr
  obtain ⟨d, r2, h3, h4⟩ := R.bind_inv h2
  cases h4
  exact ⟨T, r, w1, r1, E, h1, fun v H' p => q v H' (p.take h3)⟩

/-! ### operators -/
theorem se_bin {op : Op} (ha : SE X C a x) (hb : SE X C b y) : SE X C (.BinOp a (opS op) b pos) (.bin op x y) := by
  refine pe_imp (pe_op (or_bin op) ha hb) fun σ H Q ⟨T, r, w, r', E, hr, q⟩ => ?_
  rw [ev] at hr
  obtain ⟨w1, r1, h1, h2⟩ := R.bind_inv hr
  obtain ⟨w2, r2, h3, h4⟩ := R.bind_inv h2
  obtain ⟨d, h5, h6⟩ := vw_inv h4
  obtain ⟨g, h7, h8⟩ := vw_inv h6
  obtain ⟨h9, rfl⟩ := R.ofO_inv h8
  refine ⟨T, r, w1, r1, E, h1, fun v1 H1 p1 => ⟨_, r1, w2, _, p1.env, h3, fun v2 H2 p2 => ?_⟩⟩
  have p := p1.trans p2 fun _ _ => rfl
  exact ⟨_, d, g, w, p.at0.view p.env h5, p.at1.view p.env h7, h9, fun v H' o => q v H' (p.op o)⟩
theorem se_neg (ha : SE X C a x) : SE X C (.UnaryOp .USub a pos) (.neg x) := by
  refine pe_imp (pe_un un_neg ha) fun σ H Q ⟨T, r, w, r', E, hr, q⟩ => ?_
  rw [ev] at hr
  obtain ⟨w1, r1, h1, h2⟩ := R.bind_inv hr
  split at h2
  · rename_i i
    cases h2
    refine ⟨T, r, _, _, E, h1, fun v1 H1 p1 => ?_⟩
    cases p1.intv
    exact ⟨i, rfl, q _ _ (p1.op (.same (.int _)))⟩
  · cases h2
theorem se_not (ha : SE X C a x) : SE X C (.UnaryOp .Not a pos) (.not x) := by
  refine pe_imp (pe_not ha) fun σ H Q ⟨T, r, w, r', E, hr, q⟩ => ?_
  rw [ev] at hr
  obtain ⟨w1, r1, h1, h2⟩ := R.bind_inv hr
  obtain ⟨t, r2, h3, h4⟩ := R.bind_inv h2
  obtain ⟨rfl, rfl⟩ := asB_inv h3
  cases h4
  refine ⟨T, r, _, _, E, h1, fun v1 H1 p1 => ?_⟩
  obtain ⟨rfl, p⟩ := p1.flag
  exact ⟨t, rfl, q _ _ (p.op (.same (.bl _)))⟩
theorem se_and (ha : SE X C a x) (hb : SE X C (.BoolOp .And (b :: rest) pos) y) : SE X C (.BoolOp .And (a :: b :: rest) pos) (.and x y) := by
  refine pe_imp (pe_and ha hb) fun σ H Q ⟨T, r, w, r', E, hr, q⟩ => ?_
  rw [ev] at hr
  obtain ⟨w1, r1, h1, h2⟩ := R.bind_inv hr
  obtain ⟨t, r2, h3, h4⟩ := R.bind_inv h2
  obtain ⟨rfl, rfl⟩ := asB_inv h3
  refine ⟨T, r, _, r2, E, h1, fun v1 H1 p1 => ?_⟩
  obtain ⟨rfl, p⟩ := p1.flag
  refine ⟨t, rfl, ?_⟩
  cases t with
  | true =>
    rw [if_pos rfl]
    exact ⟨T, r2, w, r', p.env0, h4, fun v H' p2 => q v H' (p.next p2)⟩
  | false =>
    rw [if_neg Bool.false_ne_true]
    cases h4
    exact q _ _ (p.op (.same (.bl _)))
theorem se_or (ha : SE X C a x) (hb : SE X C (.BoolOp .Or (b :: rest) pos) y) : SE X C (.BoolOp .Or (a :: b :: rest) pos) (.or x y) := by
  refine pe_imp (pe_or ha hb) fun σ H Q ⟨T, r, w, r', E, hr, q⟩ => ?_
  rw [ev] at hr
  obtain ⟨w1, r1, h1, h2⟩ := R.bind_inv hr
  obtain ⟨t, r2, h3, h4⟩ := R.bind_inv h2
  obtain ⟨rfl, rfl⟩ := asB_inv h3
  refine ⟨T, r, _, r2, E, h1, fun v1 H1 p1 => ?_⟩
  obtain ⟨rfl, p⟩ := p1.flag
  refine ⟨t, rfl, ?_⟩
  cases t with
  | false =>
    rw [if_neg Bool.false_ne_true]
    exact ⟨T, r2, w, r', p.env0, h4, fun v H' p2 => q v H' (p.next p2)⟩
  | true =>
    rw [if_pos rfl]
    cases h4
    exact q _ _ (p.op (.same (.bl _)))
theorem se_one {op : PySem.BoolOp} (ha : SE X C a x) : SE X C (.BoolOp op [a] pos) x := pe_one ha
theorem se_ite (hc : ST X C c z) (ha : SE X C a x) (hb : SE X C b y) : SE X C (.IfExp c a b pos) (.ite z x y) := by
  refine pe_imp (pe_ifExp hc ha hb) fun σ H Q ⟨T, r, w, r', E, hr, q⟩ => ?_
  rw [ev] at hr
  obtain ⟨w1, r1, h1, h2⟩ := R.bind_inv hr
  obtain ⟨t, r2, h3, h4⟩ := R.bind_inv h2
  refine ⟨T, r, t, r2, E, ?_, fun H1 p => ?_⟩
  · unfold test; rw [h1]; exact h3
  · cases t with
    | true => exact ⟨T, r2, w, r', p.env0, h4, fun v H' p2 => q v H' (p.next p2)⟩
    | false => exact ⟨T, r2, w, r', p.env0, h4, fun v H' p2 => q v H' (p.next p2)⟩
theorem cmp_core {op : Cm} {σ : L2.St} {H : Hp} {Q : VK} (h : rdE X.K C (.cmp op x y) σ H Q) : tOp (rCmp X.K op) (rdE X.K C x) (rdE X.K C y) σ H Q := by
  obtain ⟨T, r, w, r', E, hr, q⟩ := h
  rw [ev] at hr
  obtain ⟨w1, r1, h1, h2⟩ := R.bind_inv hr
  obtain ⟨w2, r2, h3, h4⟩ := R.bind_inv h2
  obtain ⟨d, h5, h6⟩ := vw_inv h4
  obtain ⟨g, h7, h8⟩ := vw_inv h6
  obtain ⟨t, r3, h9, h10⟩ := R.bind_inv h8
  obtain ⟨h11, rfl⟩ := R.ofO_inv h9
  cases h10
  refine ⟨T, r, w1, r1, E, h1, fun v1 H1 p1 => ⟨_, r1, w2, _, p1.env, h3, fun v2 H2 p2 => ?_⟩⟩
  have p := p1.trans p2 fun _ _ => rfl
  exact ⟨_, d, g, t, p.at0.view p.env h5, p.at1.view p.env h7, h11, q _ _ (p.op (.same (.bl _)))⟩
theorem se_cmp {op : Cm} (hu : X.A.units + 200 < cLine) (ha : SE X C a x) (hb : SE X C b y) (hm : behindInMarks (cmS op) b = false) : SE X C (.Compare a [cmS op] [b] pos) (.cmp op x y) :=
  pe_imp (pe_cmpR (or_cmp hu op) ha hb hm) fun σ H Q h => cmp_core h
theorem chain_core {o1 o2 : Cm} {σ : L2.St} {H : Hp} {Q : VK} (h : rdE X.K C (.chain o1 o2 x y z) σ H Q) : tChain (rCmp X.K o1) (rCmp X.K o2) (rdE X.K C x) (rdE X.K C y) (rdE X.K C z) σ H Q := by
  obtain ⟨T, r, w, r', E, hr, q⟩ := h
  rw [ev] at hr
  obtain ⟨w1, r1, h1, h2⟩ := R.bind_inv hr
  obtain ⟨w2, r2, h3, h4⟩ := R.bind_inv h2
  obtain ⟨d, h5, h6⟩ := vw_inv h4
  obtain ⟨g, h7, h8⟩ := vw_inv h6
  obtain ⟨t, r3, h9, h10⟩ := R.bind_inv h8
  obtain ⟨h11, rfl⟩ := R.ofO_inv h9
  refine ⟨T, r, w1, r1, E, h1, fun v1 H1 p1 => ⟨_, r1, w2, _, p1.env, h3, fun v2 H2 p2 => ?_⟩⟩
  have p := p1.trans p2 fun _ _ => rfl
  refine ⟨_, d, g, t, p.at0.view p.env h5, p.at1.view p.env h7, h11, t, rfl, ?_⟩
  cases t with
  | true =>
    rw [if_pos rfl]
    obtain ⟨w3, r4, k1, k2⟩ := R.bind_inv h10
    obtain ⟨d', k3, k4⟩ := vw_inv k2
    obtain ⟨g', k5, k6⟩ := vw_inv k4
    obtain ⟨t', r5, k7, k8⟩ := R.bind_inv k6
    obtain ⟨k9, rfl⟩ := R.ofO_inv k7
    cases k8
    refine ⟨_, _, w3, _, p.env, k1, fun v3 H3 p3 => ?_⟩
    have pp := p.trans p3 fun _ _ => rfl
    exact ⟨_, d', g', t', pp.at1.view pp.env k3, pp.at2.view pp.env k5, k9, q _ _ (pp.op (.same (.bl _)))⟩
  | false =>
    rw [if_neg Bool.false_ne_true]
    cases h10
    exact q _ _ (p.op (.same (.bl _)))
theorem se_chain {o1 o2 : Cm} (hu : X.A.units + 200 < cLine) (ha : SE X C a x) (hb : SE X C b y) (hc : SE X C c z) (hm : behindInMarks (cmS o2) c = false) : SE X C (.Compare a [cmS o1, cmS o2] [b, c] pos) (.chain o1 o2 x y z) :=
  pe_imp (pe_chain (or_cmp hu o1) (or_cmp hu o2) ha hb hc hm) fun σ H Q h => chain_core h

/-! ### tests -/
theorem test_of {σ : L2.St} {H : Hp} {Q : Bool → Hp → Prop} (h : rdT X.K C x σ H Q) : rdE X.K C x σ H fun v H' => ∃ k, v = .bl k ∧ Q k H' := by
  obtain ⟨T, r, t, r', E, hr, q⟩ := h
  obtain ⟨w1, r1, h1, h2⟩ := R.bind_inv (show (ev C x r).bind asB = .ok t r' from hr)
  obtain ⟨rfl, rfl⟩ := asB_inv h2
  refine ⟨T, r, _, _, E, h1, fun v H' p => ?_⟩
  obtain ⟨rfl, p'⟩ := p.flag
  exact ⟨t, rfl, q _ p'⟩
theorem st_val (h : SE X C e x) (he : ∀ whole, isTrue e X.env whole = (do let v ← whole; standAt e.pos; holding [v] (truthy v))) : ST X C e x :=
  pt_imp (pt_val h he) fun σ H Q hq => test_of hq
theorem st_cmp {op : Cm} (hu : X.A.units + 200 < cLine) (ha : SE X C a x) (hb : SE X C b y) (hm : behindInMarks (cmS op) b = false) : ST X C (.Compare a [cmS op] [b] pos) (.cmp op x y) :=
  pt_imp (pt_cmpR (or_cmp hu op) ha hb hm) fun σ H Q h => cmp_core (test_of h)
theorem st_chain {o1 o2 : Cm} (hu : X.A.units + 200 < cLine) (ha : SE X C a x) (hb : SE X C b y) (hc : SE X C c z) (hm : behindInMarks (cmS o2) c = false) : ST X C (.Compare a [cmS o1, cmS o2] [b, c] pos) (.chain o1 o2 x y z) :=
  pt_imp (pt_chain (or_cmp hu o1) (or_cmp hu o2) ha hb hc hm) fun σ H Q h => chain_core (test_of h)
theorem st_not (ha : ST X C a x) : ST X C (.UnaryOp .Not a pos) (.not x) := by
  refine pt_imp (pt_not ha) fun σ H Q ⟨T, r, t, r', E, hr, q⟩ => ?_
  obtain ⟨w1, r1, h1, h2⟩ := R.bind_inv (show (ev C (.not x) r).bind asB = .ok t r' from hr)
  rw [ev] at h1
  obtain ⟨w2, r2, h3, h4⟩ := R.bind_inv h1
  obtain ⟨u, r3, h5, h6⟩ := R.bind_inv h4
  cases h6
  obtain ⟨h7, rfl⟩ := asB_inv h2
  cases h7
  refine ⟨T, r, u, _, E, ?_, fun H' p => q H' p⟩
  unfold test; rw [h3]; exact h5
/-- a chain of and, or: the whole of it (nested to the right) -/
abbrev SW (X : Cx) (C : CallF) (e : Expr) (x : E) : Prop := PW X e (rdT X.K C x)
theorem sw_and1 (ha : ST X C a x) : SW X C (.BoolOp .And [a] pos) x := pw_and1 ha
theorem sw_or1 (ha : ST X C a x) : SW X C (.BoolOp .Or [a] pos) x := pw_or1 ha
theorem sw_and (ha : ST X C a x) (hb : SW X C (.BoolOp .And (b :: rest) pos) y) : SW X C (.BoolOp .And (a :: b :: rest) pos) (.and x y) := by
  refine pw_imp (pw_and ha hb) fun σ H Q ⟨T, r, t, r', E, hr, q⟩ => ?_
  obtain ⟨w1, r1, h1, h2⟩ := R.bind_inv (show (ev C (.and x y) r).bind asB = .ok t r' from hr)
  rw [ev] at h1
  obtain ⟨w2, r2, h3, h4⟩ := R.bind_inv h1
  obtain ⟨u, r3, h5, h6⟩ := R.bind_inv h4
  refine ⟨T, r, u, r3, E, by unfold test; rw [h3]; exact h5, fun H1 p => ?_⟩
  cases u with
  | true => exact ⟨T, r3, t, r', p.env0, by unfold test; rw [show ev C y r3 = .ok w1 r1 from h6]; exact h2, fun H' p2 => q H' (p.next p2)⟩
  | false =>
    cases h6
    obtain ⟨h7, rfl⟩ := asB_inv h2
    cases h7
    exact q H1 p
theorem sw_or (ha : ST X C a x) (hb : SW X C (.BoolOp .Or (b :: rest) pos) y) : SW X C (.BoolOp .Or (a :: b :: rest) pos) (.or x y) := by
  refine pw_imp (pw_or ha hb) fun σ H Q ⟨T, r, t, r', E, hr, q⟩ => ?_
  obtain ⟨w1, r1, h1, h2⟩ := R.bind_inv (show (ev C (.or x y) r).bind asB = .ok t r' from hr)
  rw [ev] at h1
  obtain ⟨w2, r2, h3, h4⟩ := R.bind_inv h1
  obtain ⟨u, r3, h5, h6⟩ := R.bind_inv h4
  refine ⟨T, r, u, r3, E, by unfold test; rw [h3]; exact h5, fun H1 p => ?_⟩
  cases u with
  | false => exact ⟨T, r3, t, r', p.env0, by unfold test; rw [show ev C y r3 = .ok w1 r1 from h6]; exact h2, fun H' p2 => q H' (p.next p2)⟩
  | true =>
    cases h6
    obtain ⟨h7, rfl⟩ := asB_inv h2
    cases h7
    exact q H1 p

/-! ### argument lists, displays -/
/-- no star -/
def NS (e : Expr) : Prop := ∀ es env, starEach (e :: es) env = (false, eval e env) :: starEach es env
theorem backTo_any {env : PySem.Env} : ∀ {es : List Expr}, (∀ e ∈ es, NS e) → (backTo pos (starEach es env)).any (·.1) = false
  | [], _ => rfl
  | e :: es, h => by
    rw [h e List.mem_cons_self]
    show (false || (backTo pos (starEach es env)).any (·.1)) = false
    rw [backTo_any fun e' he => h e' (List.mem_cons_of_mem _ he)]
    rfl
theorem sa_nil : SA X C [] .nil := by
  refine pa_imp pa_nil fun σ H Q ⟨T, r, ws, r', E, hr, q⟩ => ?_
  rw [evs] at hr
  cases hr
  exact q [] H (.refl E)
theorem sa_cons (ha : SE X C e x) (hn : NS e) (hr : SA X C es y) : SA X C (e :: es) (.cons x y) := by
  refine pa_imp (pa_cons ha hr (hn es X.env)) fun σ H Q ⟨T, r, ws, r', E, hr, q⟩ => ?_
  rw [evs] at hr
  obtain ⟨w1, r1, h1, h2⟩ := R.bind_inv hr
  obtain ⟨ws2, r2, h3, h4⟩ := R.bind_inv h2
  cases h4
  refine ⟨T, r, w1, r1, E, h1, fun v1 H1 p1 => ⟨_, r1, ws2, _, p1.env, h3, fun vs2 H2 p2 => ?_⟩⟩
  exact q _ _ (p1.trans p2 fun _ _ => rfl)
theorem vals_inv {K : PySem.W.Frag} {H : Hp} {T : Addr → Prop} {σ : L2.St} {r : Env} : ∀ {ws : List W} {vs : List V} {ds : List D}, vals ws = some ds → WRs K H T σ r ws vs → Reps K H (fun b => T b ∨ Acc σ r b) vs ds ∧ owns ws vs = []
  | [], _, _, e, h => by cases e; cases h; exact ⟨.nil, rfl⟩
  | .val d :: ws, _, ds, e, h => by
    have e : (vals ws).map (d :: ·) = some ds := e
    cases q : vals ws with
    | none => rw [q] at e; cases e
    | some es =>
      rw [q] at e; cases e
      cases h with
      | cons h t =>
        obtain ⟨h1, h2⟩ := vals_inv q t
        exact ⟨.cons h h1, by show [] ++ owns ws _ = []; rw [h2]; rfl⟩
  | .own _ :: _, _, _, e, _ => by cases e
  | .slot _ :: _, _, _, e, _ => by cases e
theorem vals_len : ∀ {ws : List W} {ds : List D}, vals ws = some ds → ds.length = ws.length
  | [], _, e => by cases e; rfl
  | .val d :: ws, ds, e => by
    have e : (vals ws).map (d :: ·) = some ds := e
    cases q : vals ws with
    | none => rw [q] at e; cases e
    | some es => rw [q] at e; cases e; exact congrArg (· + 1) (vals_len q)
  | .own _ :: _, _, e => by cases e
  | .slot _ :: _, _, e => by cases e
theorem evs_len : ∀ {x : E} {r r' : Env} {ws : List W}, evs C x r = .ok ws r' → SA X C es x → True := fun _ _ => trivial
theorem se_tup {k : Nat} (h : SA X C es x) (hl : ∀ ws r r', evs C x r = .ok ws r' → ws.length ≤ 1000) : SE X C (.Tuple es k pos) (.tup x) := by
  refine pe_imp (pe_tup h) fun σ H Q ⟨T, r, w, r', E, hr, q⟩ => ?_
  rw [ev] at hr
  obtain ⟨ws, r1, h1, h2⟩ := R.bind_inv hr
  obtain ⟨h3, rfl⟩ := R.ofO_inv h2
  cases hv : vals ws with
  | none => rw [hv] at h3; cases h3
  | some ds =>
    rw [hv] at h3; cases h3
    refine ⟨T, r, ws, _, E, h1, fun vs H1 p => ?_⟩
    obtain ⟨g1, g2⟩ := vals_inv hv p.res
    have hz : ds.length ≤ sizeLine := by rw [vals_len hv]; exact Nat.le_trans (hl _ _ _ h1) (by rw [sizeLine_eq]; decide)
    exact ⟨by rw [g1.length]; exact hz, fun a ha => q _ _ (p.op (.tup ha g1 hz))⟩
theorem se_list (h : SA X C es x) (hl : ∀ ws r r', evs C x r = .ok ws r' → ws.length ≤ 1000) : SE X C (.List es pos) (.list x) := by
  refine pe_imp (pe_lst h) fun σ H Q ⟨T, r, w, r', E, hr, q⟩ => ?_
  rw [ev] at hr
  obtain ⟨ws, r1, h1, h2⟩ := R.bind_inv hr
  obtain ⟨h3, rfl⟩ := R.ofO_inv h2
  cases hv : vals ws with
  | none => rw [hv] at h3; cases h3
  | some ds =>
    rw [hv] at h3; cases h3
    refine ⟨T, r, ws, _, E, h1, fun vs H1 p => ?_⟩
    obtain ⟨g1, g2⟩ := vals_inv hv p.res
    have hz : ds.length ≤ sizeLine := by rw [vals_len hv]; exact Nat.le_trans (hl _ _ _ h1) (by rw [sizeLine_eq]; decide)
    exact ⟨by rw [g1.length]; exact hz, fun a ha => q _ _ (p.op (.list ha g1 hz))⟩

/-! ### subscripts -/
theorem se_sub (ha : SE X C a x) (hb : SE X C b y) (hs : PlainIx b) : SE X C (.Subscript a b pos) (.sub x y) := by
  refine pe_imp (pe_ix ix_sub ha hb hs) fun σ H Q ⟨T, r, w, r', E, hr, q⟩ => ?_
  rw [ev] at hr
  obtain ⟨w1, r1, h1, h2⟩ := R.bind_inv hr
  obtain ⟨w2, r2, h3, h4⟩ := R.bind_inv h2
  obtain ⟨d, h5, h6⟩ := vw_inv h4
  obtain ⟨g, h7, h8⟩ := vw_inv h6
  obtain ⟨h9, rfl⟩ := R.ofO_inv h8
  cases hz : subOp d g with
  | none => rw [hz] at h9; cases h9
  | some u =>
    rw [hz] at h9; cases h9
    refine ⟨T, r, w1, r1, E, h1, fun v1 H1 p1 => ⟨_, r1, w2, _, p1.env, h3, fun v2 H2 p2 => ?_⟩⟩
    have p := p1.trans p2 fun _ _ => rfl
    exact ⟨_, d, g, u, p.at0.view p.env h5, p.at1.view p.env h7, hz, fun v hv => q v _ (p.op (.same hv))⟩
/-- a part of a slice -/
def rdO (K : PySem.W.Frag) (C : CallF) (x : E) : TO := fun σ H Q => ∃ T r o r', ER K H T σ r ∧ R.part x (fun _ => ev C x r) r = .ok o r' ∧ ∀ H', Po K H T σ r σ r' [] [] H' → Q o H'
abbrev SO (X : Cx) (C : CallF) (o : Option Expr) (x : E) : Prop := PO X o (rdO X.K C x)
theorem po_imp {o : Option Expr} {t t' : TO} (h : PO X o t) (i : ∀ σ H Q, t' σ H Q → t σ H Q) : PO X o t' := by
  constructor
  intro pins s σ H Q I hw
  exact h.run pins s σ H Q I (i _ _ _ hw)
theorem so_none : SO X C none .nil := by
  refine po_imp po_none fun σ H Q ⟨T, r, o, r', E, h, q⟩ => ?_
  cases h
  exact q H (.refl E)
theorem so_some (h : SE X C e x) (hx : x ≠ .nil) : SO X C (some e) x := by
  refine po_imp (po_some h) fun σ H Q ⟨T, r, o, r', E, hp, q⟩ => ?_
  have hp' : ((ev C x r).bind fun w r => match w with
    | .val (.int i) => .ok (some i) r
    | _ => .no) = R.ok o r' := by
    cases x <;> first | exact hp | exact (hx rfl).elim
  obtain ⟨w, r1, h1, h2⟩ := R.bind_inv hp'
  split at h2
  · rename_i i
    cases h2
    refine ⟨T, r, _, _, E, h1, fun v H' p => ?_⟩
    cases p.intv
    exact ⟨i, rfl, q _ p.drop⟩
  · cases h2
theorem se_cut {lo hi : Option Expr} {l h' : E} {p2 : Pos} (ha : SE X C a x) (hl : SO X C lo l) (hh : SO X C hi h') : SE X C (.Subscript a (.Slice lo hi none p2) pos) (.cut x l h') := by
  refine pe_imp (pe_slice sl_cut ha hl hh) fun σ H Q ⟨T, r, w, r', E, hr, q⟩ => ?_
  rw [ev] at hr
  obtain ⟨w1, r1, h1, h2⟩ := R.bind_inv hr
  obtain ⟨o1, r2, h3, h4⟩ := R.bind_inv h2
  obtain ⟨o2, r3, h5, h6⟩ := R.bind_inv h4
  obtain ⟨d, h7, h8⟩ := vw_inv h6
  obtain ⟨h9, rfl⟩ := R.ofO_inv h8
  refine ⟨T, r, w1, r1, E, h1, fun v1 H1 p1 => ⟨_, r1, o1, r2, p1.env, h3, fun H2 p2 => ⟨_, r2, o2, _, p2.env0, h5, fun H3 p3 => ?_⟩⟩⟩
  have p := p1.trans (p2.next p3) fun _ _ => rfl
  exact ⟨_, d, w, p.at0.view p.env h7, h9, fun v H' o => q v H' (p.op o)⟩
end
end MP

-- part Mp7
set_option maxHeartbeats 1000000
/-! What is walked; the names of a comprehension; targets. -/
namespace MP
open PySem PySem.Spec PyProof.Rows L2

section
variable {K : PySem.W.Frag} {H H' H1 H2 : Hp} {T T' : Addr → Prop} {σ σ' σ1 σ2 : L2.St} {r r' r1 r2 : Env} {ws us : List W} {vs zs : List V} {w x y : W} {v u : V} {i j : Nat} {d : D} {xs ys : List D} {a b : Addr} {own : List Nat}
theorem Po.opOf (E : ER K H T σ r) (o : Op1 K H (fun b => T b ∨ Acc σ r b) w v H') : Po K H T σ r σ r [w] [v] H' :=
  (Po.refl E).op (by rw [Tw_nil]; exact o)
/-- an item more in a new list -/
theorem Po.push (p : Po K H T σ r σ1 r1 [.own xs, .val d] [.ref a, u] H1) (hl : xs.length < sizeLine) : ∃ vs, H1 a = some (.lst vs) ∧ vs.length = xs.length ∧ Po K H T σ r σ1 r1 [.own (xs ++ [d])] [.ref a] (upd H1 a (.lst (vs ++ [u]))) := by
  obtain ⟨a', us, e, t, e1, e2, e3⟩ : WR K H1 _ σ1 r1 (.own xs) (.ref a) := p.at0
  cases e
  have hd : Rep K H1 _ u d := p.at1
  have hT : Tw T [.own xs, .val d] [.ref a, u] = Tw T [.own (xs ++ [d])] [.ref a] := rfl
  have nA : ¬ Acc σ1 r1 a := fun z => (p.env.accT z).1 t
  have st : Stab H1 (upd H1 a (.lst (us ++ [u]))) (fun b => b = a) (fun b => Tw T [.own xs, .val d] [.ref a, u] b ∨ Acc σ1 r1 b) (fun b => Tw T [.own (xs ++ [d])] [.ref a] b ∨ Acc σ1 r1 b) :=
    ⟨fun b o e n => by rw [upd_ne n]; exact e, fun b z => ⟨us, by rw [z]; exact e1⟩, fun b z => by rw [z]; exact .inl t, fun b z => .inl z⟩
  have pers : ∀ b, H1 b ≠ none → upd H1 a (.lst (us ++ [u])) b ≠ none := fun b n => by
    by_cases z : b = a
    · rw [z, upd_same]; simp
    · rw [upd_ne z]; exact n
  have fr : H a = none := p.fresh a (List.mem_append_left _ (List.mem_singleton.mpr rfl))
  refine ⟨us, e1, e2.length, p.t0, fun b o e n => ?_, fun b n => pers b (p.pers b n), ⟨p.env.len, fun j d' e => ?_, fun j m zs e => ?_, p.env.inj, fun b z => pers b (p.env.tal b z)⟩, .cons ⟨a, us ++ [u], rfl, t, upd_same, (e2.append (.cons hd .nil)).stab st, ?_⟩ .nil, p.fresh, p.nd, p.news, p.mun, p.keep⟩
  · have hb : b ≠ a := fun z => by rw [z, fr] at e; cases e
    rw [upd_ne hb]
    exact p.frame b o e n
  · obtain ⟨v, g1, g2⟩ := p.env.val j d' e
    exact ⟨v, g1, g2.stab st⟩
  · obtain ⟨a', vs', g1, g2, g3, g4, g5⟩ := p.env.acc j m zs e
    refine ⟨a', vs', g1, g2, ?_, g4.stab st, g5⟩
    rw [upd_ne fun z => nA (by rw [← z]; exact ⟨j, m, zs, e, g1⟩)]
    exact g3
  · rw [List.length_append]
    exact hl

/-! ### the names of a comprehension -/
theorem gets_wipes : ∀ {own : List Nat} {r : Env}, gets (wipes r own) j = if j ∈ own then .no else gets r j
  | [], r => by rw [if_neg (by simp)]; rfl
  | i :: is, r => by
    show gets (sets (wipes r is) i .no) j = _
    rw [gets_sets]
    by_cases h : j = i
    · rw [if_pos (by rw [h]; exact List.mem_cons_self : j ∈ i :: is)]
      by_cases hl : i < (wipes r is).length
      · rw [if_pos ⟨h, hl⟩]
      · rw [if_neg fun z => hl z.2]
        exact Classical.byContradiction fun n => hl (by rw [← h]; exact gets_lt n)
    · rw [if_neg fun z => h z.1, gets_wipes]
      by_cases h2 : j ∈ is
      · rw [if_pos h2, if_pos (List.mem_cons_of_mem _ h2)]
      · rw [if_neg h2, if_neg fun z => (List.mem_cons.mp z).elim h h2]
theorem wipes_len : ∀ {own : List Nat} {r : Env}, (wipes r own).length = r.length
  | [], _ => rfl
  | i :: is, r => by
    show (sets (wipes r is) i .no).length = _
    rw [sets_length, wipes_len]
theorem gets_backs {r0 : Env} : ∀ {own : List Nat} {r : Env}, j < r.length → gets (backs r0 r own) j = if j ∈ own then gets r0 j else gets r j
  | [], r, _ => by rw [if_neg (by simp)]; rfl
  | i :: is, r, hl => by
    have hlen : ∀ is : List Nat, (backs r0 r is).length = r.length := fun is => by
      induction is with
      | nil => rfl
      | cons i is ih => show (sets (backs r0 r is) i _).length = _; rw [sets_length, ih]
    show gets (sets (backs r0 r is) i (gets r0 i)) j = _
    rw [gets_sets, hlen]
    by_cases h : j = i
    · rw [if_pos ⟨h, h ▸ hl⟩, if_pos (by rw [h]; exact List.mem_cons_self), h]
    · rw [if_neg fun z => h z.1, gets_backs hl]
      by_cases h2 : j ∈ is
      · rw [if_pos h2, if_pos (List.mem_cons_of_mem _ h2)]
      · rw [if_neg h2, if_neg fun z => (List.mem_cons.mp z).elim h h2]
theorem backs_len {r0 : Env} : ∀ {own : List Nat} {r : Env}, (backs r0 r own).length = r.length
  | [], _ => rfl
  | i :: is, r => by
    show (sets (backs r0 r is) i _).length = _
    rw [sets_length, backs_len]
theorem wipe_at {σ : L2.St} {v : V} : (L2.wipe σ own)[j]? = some (some v) ↔ σ[j]? = some (some v) ∧ j ∉ own := by
  constructor
  · exact fun h => wipe_some h
  · rintro ⟨h, n⟩
    rw [wipe_out n]; exact h
theorem acc_wipe : Acc (L2.wipe σ own) (wipes r own) b ↔ ∃ i m xs, i ∉ own ∧ gets r i = .acc m xs ∧ σ[i]? = some (some (.ref b)) := by
  constructor
  · rintro ⟨i, m, xs, e, e2⟩
    obtain ⟨h1, h2⟩ := wipe_at.mp e2
    rw [gets_wipes, if_neg h2] at e
    exact ⟨i, m, xs, h2, e, h1⟩
  · rintro ⟨i, m, xs, n, e, e2⟩
    exact ⟨i, m, xs, by rw [gets_wipes, if_neg n]; exact e, wipe_at.mpr ⟨e2, n⟩⟩
/-- what the block must leave alone -/
def Tn (T : Addr → Prop) (σ : L2.St) (r : Env) (own : List Nat) : Addr → Prop := fun b => T b ∨ (Acc σ r b ∧ ¬ Acc (L2.wipe σ own) (wipes r own) b)
theorem Tn_acc {N : Addr} : (Tn T σ r own N ∨ Acc (L2.wipe σ own) (wipes r own) N) ↔ (T N ∨ Acc σ r N) := by
  have h : Acc (L2.wipe σ own) (wipes r own) N → Acc σ r N := fun x => by
    obtain ⟨i, m, xs, _, e, e2⟩ := acc_wipe.mp x
    exact ⟨i, m, xs, e, e2⟩
  constructor
  · rintro ((z | z) | z)
    · exact .inl z
    · exact .inr z.1
    · exact .inr (h z)
  · rintro (z | z)
    · exact .inl (.inl z)
    · by_cases x : Acc (L2.wipe σ own) (wipes r own) N
      · exact .inr x
      · exact .inl (.inr ⟨z, x⟩)
theorem ER.names (E : ER K H T σ r) (own : List Nat) : ER K H (Tn T σ r own) (L2.wipe σ own) (wipes r own) := by
  refine ⟨by rw [wipe_length, wipes_len]; exact E.len, fun j d e => ?_, fun j m xs e => ?_, fun j k m1 m2 x1 x2 c e1 e2 e3 e4 => ?_, fun b z => ?_⟩
  · rw [gets_wipes] at e
    split at e
    · cases e
    · rename_i n
      obtain ⟨v, e1, e2⟩ := E.val j d e
      exact ⟨v, wipe_at.mpr ⟨e1, n⟩, e2.anti fun b z => Tn_acc.mp z⟩
  · rw [gets_wipes] at e
    split at e
    · cases e
    · rename_i n
      obtain ⟨a, vs, e1, e2, e3, e4, e5⟩ := E.acc j m xs e
      refine ⟨a, vs, wipe_at.mpr ⟨e1, n⟩, fun z => ?_, e3, e4.anti fun b z => Tn_acc.mp z, e5⟩
      rcases z with z | z
      · exact e2 z
      · exact z.2 (acc_wipe.mpr ⟨j, m, xs, n, e, e1⟩)
  · rw [gets_wipes] at e1 e2
    split at e1
    · cases e1
    · split at e2
      · cases e2
      · exact E.inj j k m1 m2 x1 x2 c e1 e2 (wipe_at.mp e3).1 (wipe_at.mp e4).1
  · rcases z with z | z
    · exact E.tal b z
    · exact (E.accT z.1).2
theorem mu_wipe (h : Mu (L2.wipe σ own) (wipes r own) b) : Mu σ r b := by
  obtain ⟨i, m, xs, e, nl, e2⟩ := h
  obtain ⟨h1, h2⟩ := wipe_at.mp e2
  rw [gets_wipes, if_neg h2] at e
  exact ⟨i, m, xs, e, nl, h1⟩
/-- back from the block -/
theorem Po.names (E : ER K H T σ r) (q : Po K H (Tn T σ r own) (L2.wipe σ own) (wipes r own) (L2.wipe σ own) r1 ws vs H1) (hs : ∀ i, W.slot i ∉ ws) : Po K H T σ r σ (backs r r1 own) ws vs H1 := by
  have hlen : r1.length = r.length := by
    rw [← q.env.len, wipe_length]; exact E.len
  have gb : ∀ {j : Nat} {s : Sl}, gets (backs r r1 own) j = s → s ≠ .no → (j ∈ own ∧ gets r j = s) ∨ (j ∉ own ∧ gets r1 j = s) := fun {j s} e n => by
    have hj : j < r1.length := by
      have := gets_lt (show gets (backs r r1 own) j ≠ .no by rw [e]; exact n)
      rwa [backs_len] at this
    rw [gets_backs hj] at e
    split at e
    · rename_i h; exact .inl ⟨h, e⟩
    · rename_i h; exact .inr ⟨h, e⟩
  -- the lists that are owned behind it
  have ha : ∀ b, Acc σ (backs r r1 own) b → (Acc σ r b ∧ ¬ Acc (L2.wipe σ own) (wipes r own) b) ∨ Acc (L2.wipe σ own) r1 b := fun b ⟨j, m, xs, e, e2⟩ => by
    rcases gb e Sl.noConfusion with ⟨h, e⟩ | ⟨h, e⟩
    · refine .inl ⟨⟨j, m, xs, e, e2⟩, fun x => ?_⟩
      obtain ⟨i, m', xs', n, g1, g2⟩ := acc_wipe.mp x
      have := E.inj i j m' m xs' xs b g1 e g2 e2
      subst this
      exact n h
    · exact .inr ⟨j, m, xs, e, wipe_at.mpr ⟨e2, h⟩⟩
  have hN : ∀ b, (Tw T ws vs b ∨ Acc σ (backs r r1 own) b) → (Tw (Tn T σ r own) ws vs b ∨ Acc (L2.wipe σ own) r1 b) := fun b z => by
    rcases z with (z | z) | z
    · exact .inl (.inl (.inl z))
    · exact .inl (.inr z)
    · rcases ha b z with z | z
      · exact .inl (.inl (.inr z))
      · exact .inr z
  have accO : ∀ b, Acc σ (backs r r1 own) b → Acc σ r b ∨ H b = none := fun b z => by
    rcases ha b z with z | z
    · exact .inl z.1
    · rcases q.news b z with z | z
      · obtain ⟨i, m, xs, _, g1, g2⟩ := acc_wipe.mp z
        exact .inl ⟨i, m, xs, g1, g2⟩
      · exact .inr z
  have st : Stab H H1 (Mu (L2.wipe σ own) (wipes r own)) (fun b => T b ∨ Acc σ r b) (fun b => Tw T ws vs b ∨ Acc σ (backs r r1 own) b) :=
    ⟨q.frame, (E.names own).lists, fun b z => .inr (mu_wipe z).acc, fun b z => by
      rcases z with (z | z) | z
      · exact .inl (.inl z)
      · exact .inr (q.fresh b z)
      · rcases accO b z with z | z
        · exact .inl (.inr z)
        · exact .inr z⟩
  refine ⟨E.tal, fun b o e n => q.frame b o e fun z => n (mu_wipe z), q.pers, ⟨by rw [backs_len, hlen]; exact E.len, fun j d e => ?_, fun j m xs e => ?_, fun j k m1 m2 x1 x2 c e1 e2 e3 e4 => ?_, fun b z => q.env.tal b (z.imp .inl id)⟩, ?_, q.fresh, q.nd, accO, fun b z => ?_, fun j m xs e nf => ?_⟩
  · rcases gb e Sl.noConfusion with ⟨h, e⟩ | ⟨h, e⟩
    · obtain ⟨v, e1, e2⟩ := E.val j d e
      exact ⟨v, e1, e2.stab st⟩
    · obtain ⟨v, e1, e2⟩ := q.env.val j d e
      exact ⟨v, (wipe_at.mp e1).1, e2.anti hN⟩
  · rcases gb e Sl.noConfusion with ⟨h, e⟩ | ⟨h, e⟩
    · obtain ⟨a, us, e1, e2, e3, e4, e5⟩ := E.acc j m xs e
      have nb : ¬ Acc (L2.wipe σ own) (wipes r own) a := fun x => by
        obtain ⟨i, m', xs', n, g1, g2⟩ := acc_wipe.mp x
        have := E.inj i j m' m xs' xs a g1 e g2 e1
        subst this
        exact n h
      refine ⟨a, us, e1, fun z => ?_, q.frame a _ e3 fun z => nb z.acc, e4.stab st, e5⟩
      rcases z with z | z
      · exact e2 z
      · have := q.fresh a z
        rw [e3] at this; cases this
    · obtain ⟨a, us, e1, e2, e3, e4, e5⟩ := q.env.acc j m xs e
      exact ⟨a, us, (wipe_at.mp e1).1, fun z => e2 (z.imp .inl id), e3, e4.anti hN, e5⟩
  · -- one name a list
    have cross : ∀ {j k : Nat} {m1 m2 : Md} {x1 x2 : List D}, j ∈ own → gets r j = .acc m1 x1 → k ∉ own → gets r1 k = .acc m2 x2 → σ[j]? = some (some (.ref c)) → σ[k]? = some (some (.ref c)) → False := fun {j k m1 m2 x1 x2} h1 g1 h2 g2 e3 e4 => by
      have x : Acc (L2.wipe σ own) r1 c := ⟨k, m2, x2, g2, wipe_at.mpr ⟨e4, h2⟩⟩
      refine (q.env.accT x).1 (.inl (.inr ⟨⟨j, m1, x1, g1, e3⟩, fun z => ?_⟩))
      obtain ⟨i, m', xs', n, f1, f2⟩ := acc_wipe.mp z
      have := E.inj i j m' m1 xs' x1 c f1 g1 f2 e3
      subst this
      exact n h1
    rcases gb e1 Sl.noConfusion with ⟨h1, e1⟩ | ⟨h1, e1⟩ <;> rcases gb e2 Sl.noConfusion with ⟨h2, e2⟩ | ⟨h2, e2⟩
    · exact E.inj j k m1 m2 x1 x2 c e1 e2 e3 e4
    · exact (cross h1 e1 h2 e2 e3 e4).elim
    · exact (cross h2 e2 h1 e1 e4 e3).elim
    · exact q.env.inj j k m1 m2 x1 x2 c e1 e2 (wipe_at.mpr ⟨e3, h1⟩) (wipe_at.mpr ⟨e4, h2⟩)
  · have go : ∀ {us : List W} {zs : List V}, WRs K H1 (Tw (Tn T σ r own) ws vs) (L2.wipe σ own) r1 us zs → (∀ b ∈ owns us zs, b ∈ owns ws vs) → (∀ i, W.slot i ∉ us) → WRs K H1 (Tw T ws vs) σ (backs r r1 own) us zs := fun {us zs} h => by
      induction h with
      | nil => exact fun _ _ => .nil
      | cons g t ih =>
        rename_i w' v' us' zs'
        intro hsub hsl
        refine .cons ?_ (ih (fun b hb => hsub b (List.mem_append_right _ hb)) fun i z => hsl i (List.mem_cons_of_mem _ z))
        cases w' with
        | val d' => exact Rep.anti g hN
        | own xs =>
          obtain ⟨a, us, e, t, e1, e2, e3⟩ := g
          subst e
          exact ⟨a, us, rfl, .inr (hsub a (List.mem_append_left _ (List.mem_singleton.mpr rfl))), e1, e2.anti hN, e3⟩
        | slot k => exact (hsl k List.mem_cons_self).elim
    exact go q.res (fun b hb => hb) hs
  · obtain ⟨j, m, xs, e, nl, e2⟩ := z
    rcases gb e Sl.noConfusion with ⟨h, e⟩ | ⟨h, e⟩
    · exact .inl ⟨j, m, xs, e, nl, e2⟩
    · rcases q.mun b ⟨j, m, xs, e, nl, wipe_at.mpr ⟨e2, h⟩⟩ with z | z
      · exact .inl (mu_wipe z)
      · exact .inr z
  · refine ⟨?_, rfl⟩
    have hj : j < r1.length := by rw [hlen]; exact gets_lt (by rw [e]; exact Sl.noConfusion)
    rw [gets_backs hj]
    split
    · exact ⟨xs, e, fun _ => rfl⟩
    · rename_i h
      exact (q.keep j m xs (by rw [gets_wipes, if_neg h]; exact e) nf).1
/-- some names are forgotten -/
theorem Po.wipe (p : Po K H T σ r σ1 r1 ws vs H1) (hk : ∀ i ∈ own, ∀ m xs, gets r i = .acc m xs → m = .free) (hs : ∀ i, W.slot i ∉ ws) : Po K H T σ r (L2.wipe σ1 own) (wipes r1 own) ws vs H1 := by
  have ha : ∀ b, Acc (L2.wipe σ1 own) (wipes r1 own) b → Acc σ1 r1 b := fun b x => by
    obtain ⟨i, m, xs, _, g1, g2⟩ := acc_wipe.mp x
    exact ⟨i, m, xs, g1, g2⟩
  have hN : ∀ b, (Tw T ws vs b ∨ Acc (L2.wipe σ1 own) (wipes r1 own) b) → (Tw T ws vs b ∨ Acc σ1 r1 b) := fun b z => z.imp id (ha b)
  refine ⟨p.t0, p.frame, p.pers, ⟨by rw [wipe_length, wipes_len]; exact p.env.len, fun j d e => ?_, fun j m xs e => ?_, fun j k m1 m2 x1 x2 c e1 e2 e3 e4 => ?_, p.env.tal⟩, ?_, p.fresh, p.nd, fun b x => p.news b (ha b x), fun b x => p.mun b (mu_wipe x), fun j m xs e nf => ?_⟩
  · rw [gets_wipes] at e
    split at e
    · cases e
    · rename_i n
      obtain ⟨v, e1, e2⟩ := p.env.val j d e
      exact ⟨v, wipe_at.mpr ⟨e1, n⟩, e2.anti hN⟩
  · rw [gets_wipes] at e
    split at e
    · cases e
    · rename_i n
      obtain ⟨a, us, e1, e2, e3, e4, e5⟩ := p.env.acc j m xs e
      exact ⟨a, us, wipe_at.mpr ⟨e1, n⟩, e2, e3, e4.anti hN, e5⟩
  · rw [gets_wipes] at e1 e2
    split at e1
    · cases e1
    · split at e2
      · cases e2
      · exact p.env.inj j k m1 m2 x1 x2 c e1 e2 (wipe_at.mp e3).1 (wipe_at.mp e4).1
  · have go : ∀ {us : List W} {zs : List V}, WRs K H1 (Tw T ws vs) σ1 r1 us zs → (∀ b ∈ owns us zs, b ∈ owns ws vs) → (∀ i, W.slot i ∉ us) → WRs K H1 (Tw T ws vs) (L2.wipe σ1 own) (wipes r1 own) us zs := fun {us zs} h => by
      induction h with
      | nil => exact fun _ _ => .nil
      | cons g t ih =>
        rename_i w' v' us' zs'
        intro hsub hsl
        refine .cons ?_ (ih (fun b hb => hsub b (List.mem_append_right _ hb)) fun i z => hsl i (List.mem_cons_of_mem _ z))
        cases w' with
        | val d' => exact Rep.anti g hN
        | own xs =>
          obtain ⟨a, us, e, t, e1, e2, e3⟩ := g
          exact ⟨a, us, e, t, e1, e2.anti hN, e3⟩
        | slot k => exact (hsl k List.mem_cons_self).elim
    exact go p.res (fun b hb => hb) hs
  · have hj : j ∉ own := fun z => nf (hk j z m xs e)
    obtain ⟨⟨ys, e1, e2⟩, e3⟩ := p.keep j m xs e nf
    exact ⟨⟨ys, by rw [gets_wipes, if_neg hj]; exact e1, e2⟩, by rw [wipe_out hj]; exact e3⟩

/-! ### what is walked stays -/
theorem view_same (h : SameM r r') : view r' w = view r w := by
  cases w with
  | val d => rfl
  | own xs => rfl
  | slot i =>
    unfold view
    dsimp only
    rcases h i with e | ⟨m, m', xs, e1, e2⟩
    · rw [e]
    · rw [e1, e2]
theorem views_same (h : SameM r r') : ∀ {ws : List W}, views r' ws = views r ws
  | [] => rfl
  | w :: ws => by unfold views; rw [view_same h, views_same h]
/-- seen now, seen later: what is locked is not changed -/
theorem WR.kept (h : WR K H T σ r w v) (E : ER K H T σ r) (e : MP.view r w = some d) (hl : ∀ i, w = .slot i → ∀ m xs, gets r i = .acc m xs → m = .lck) {N' : Addr → Prop} (frame : ∀ b o, H b = some o → ¬ Mu σ r b → H' b = some o)
    (new : ∀ b, N' b → (T b ∨ Acc σ r b) ∨ H b = none) : VR K H' N' v d := by
  have st : Stab H H' (Mu σ r) (fun b => T b ∨ Acc σ r b) N' := ⟨frame, E.lists, fun b z => .inr z.acc, new⟩
  cases w with
  | val d' => cases e; exact .of (Rep.stab st h)
  | own xs =>
    cases e
    obtain ⟨a, us, e, t, e1, e2, e3⟩ := h
    exact ⟨a, us, e, frame a _ e1 fun z => (E.accT z.acc).1 t, e2.stab st, e3⟩
  | slot i =>
    have h : σ[i]? = some (some v) := h
    unfold MP.view at e
    dsimp only at e
    cases q : gets r i with
    | no => rw [q] at e; cases e
    | val d' =>
      rw [q] at e; cases e
      obtain ⟨v', e1, e2⟩ := E.val i _ q
      rw [h] at e1; cases e1
      exact .of (e2.stab st)
    | acc m xs =>
      rw [q] at e; cases e
      obtain ⟨a, us, e1, e2, e3, e4, e5⟩ := E.acc i m xs q
      rw [h] at e1; cases e1
      refine ⟨a, us, rfl, frame a _ e3 fun z => ?_, e4.stab st, e5⟩
      obtain ⟨j, m', ys, g1, nl, g2⟩ := z
      have := E.inj i j m m' xs ys a q g1 h g2
      subst this
      rw [q] at g1; cases g1
      exact nl (hl i rfl m xs q)
theorem WRs.kept (E : ER K H T σ r) {N' : Addr → Prop} (frame : ∀ b o, H b = some o → ¬ Mu σ r b → H' b = some o) (new : ∀ b, N' b → (T b ∨ Acc σ r b) ∨ H b = none) :
    ∀ {ws : List W} {vs : List V} {ds : List D}, WRs K H T σ r ws vs → MP.views r ws = some ds → (∀ i, W.slot i ∈ ws → ∀ m xs, gets r i = .acc m xs → m = .lck) → VRs K H' N' vs ds
  | _, _, _, .nil, e, _ => by cases e; exact .nil
  | _, _, _, .cons (w := w) (ws := ws) h t, e, hl => by
    unfold MP.views at e
    cases q1 : MP.view r w with
    | none => rw [q1] at e; cases e
    | some d =>
      cases q2 : MP.views r ws with
      | none => rw [q1, q2] at e; cases e
      | some ds =>
        rw [q1, q2] at e
        cases e
        exact .cons (h.kept E q1 (fun i z => hl i (by rw [z]; exact List.mem_cons_self)) frame new) (WRs.kept E frame new t q2 fun i z => hl i (List.mem_cons_of_mem _ z))
theorem locked_all {ws : List W} {r1 : Env} (i : Nat) (hi : W.slot i ∈ ws) (m : Md) (xs : List D) (e : gets (locks r1 ws) i = .acc m xs) : m = .lck := by
  rcases locks_same ws r1 i with q | ⟨m1, m2, ys, q1, q2⟩
  · rw [q] at e
    obtain ⟨m', e1, e2⟩ := locks_acc (ws := ws) e
    rw [q, e] at e1
    cases e1
    rcases e2 with e2 | e2
    · exact e2.1
    · exact (e2.2 (mem_slots hi)).elim
  · obtain ⟨m', e1, e2⟩ := locks_acc (ws := ws) q1
    rw [e] at e1
    cases e1
    rcases e2 with e2 | e2
    · exact e2.1
    · exact (e2.2 (mem_slots hi)).elim

/-! ### iterators -/
/-- J walks the items while the things seen at vs are ds -/
def Walk (K : PySem.W.Frag) (J : It) (vs : List V) (ds its : List D) : Prop := ∀ (H : Hp) (N : Addr → Prop), VRs K H N vs ds →
  (∀ i, i < its.length → J.go i H) ∧ J.stop its.length H ∧ ∀ i x H', J.yld i H x H' → ∀ d, its[i]? = some d → Op1 K H N (.val d) x H'
end
def PIor {X : Cx} {tg iter : Expr} {w1 w2 : TI} (h1 : PI X tg iter w1) (h2 : PI X tg iter w2) : PI X tg iter (fun σ H R => w1 σ H R ∨ w2 σ H R) :=
  ⟨fun pins s σ H R I h => h.elim (h1.run pins s σ H R I) (h2.run pins s σ H R I)⟩
theorem pi_imp {X : Cx} {tg iter : Expr} {t t' : TI} (h : PI X tg iter t) (i : ∀ σ H R, t' σ H R → t σ H R) : PI X tg iter t' := ⟨fun pins s σ H R I hw => h.run pins s σ H R I (i _ _ _ hw)⟩
def rdI (K : PySem.W.Frag) (C : CallF) (k : Ik) (x : E) : TI := fun σ H R => ∃ T r ws r' ds its, ER K H T σ r ∧ evs C x r = .ok ws r' ∧ views r' ws = some ds ∧ itOp k ds = some its ∧ ∀ vs H' J, Po K H T σ r σ r' ws vs H' → Walk K J vs ds its → R J H'
abbrev SI (X : Cx) (C : CallF) (tg : Expr) (k : Ik) (iter : Expr) (x : E) : Prop := PI X tg iter (rdI X.K C k x)
theorem walk_list {K : PySem.W.Frag} {a : Addr} {xs : List D} : Walk K (Itl K a) [.ref a] [.lst xs] xs := fun H N h => by
  cases h with
  | cons h t =>
    cases t
    obtain ⟨a', vs, e, e1, e2, e3⟩ := h
    cases e
    refine ⟨fun i hi => ?_, ⟨vs, .of e1, by rw [e2.length]; exact Nat.le_refl _⟩, fun i x H' hy d hd => ?_⟩
    · obtain ⟨v, g1, g2⟩ := e2.get (List.getElem?_eq_getElem hi)
      exact ⟨vs, v, .of e1, g1⟩
    · obtain ⟨rfl, hy⟩ := hy
      obtain ⟨v, g1, g2⟩ := e2.get hd
      have := hy vs (.of e1)
      rw [g1] at this
      cases this
      exact .same g2
theorem walk_tup {K : PySem.W.Frag} {a : Addr} {xs : List D} : Walk K (Itt K a) [.ref a] [.tup xs] xs := fun H N h => by
  cases h with
  | cons h t =>
    cases t
    obtain ⟨a', vs, e, e1, e2, e3⟩ := vr_tup h
    cases e
    refine ⟨fun i hi => ?_, ⟨vs, e1, by rw [e2.length]; exact Nat.le_refl _⟩, fun i x H' hy d hd => ?_⟩
    · obtain ⟨v, g1, g2⟩ := e2.get (List.getElem?_eq_getElem hi)
      exact ⟨vs, v, e1, g1⟩
    · obtain ⟨rfl, hy⟩ := hy
      obtain ⟨v, g1, g2⟩ := e2.get hd
      have := hy vs e1
      rw [g1] at this
      cases this
      exact .same g2
theorem Po.views {K : PySem.W.Frag} {H H1 : Hp} {T : Addr → Prop} {σ σ1 : L2.St} {r r1 : Env} {ws : List W} {vs : List V} {ds : List D} (p : Po K H T σ r σ1 r1 ws vs H1) (e : MP.views r1 ws = some ds) : VRs K H1 (fun b => Tw T ws vs b ∨ Acc σ1 r1 b) vs ds := p.res.views p.env e
section
variable {X : Cx} {C : CallF} {tg e a b : Expr} {x y : E} {p0 pos : Pos} {es : List Expr}
theorem evs_one {r r' : Env} {ws : List W} (h : evs C (.cons x .nil) r = .ok ws r') : ∃ w, ws = [w] ∧ ev C x r = .ok w r' := by
  rw [evs] at h
  obtain ⟨w, r1, h1, h2⟩ := R.bind_inv h
  obtain ⟨us, r2, h3, h4⟩ := R.bind_inv h2
  rw [evs] at h3
  cases h3
  cases h4
  exact ⟨w, rfl, h1⟩
theorem views_one {r : Env} {w : W} {ds : List D} (h : views r [w] = some ds) : ∃ d, ds = [d] ∧ view r w = some d := by
  unfold views at h
  cases q : view r w with
  | none => rw [q] at h; cases h
  | some d => rw [q] at h; cases h; exact ⟨d, rfl, rfl⟩
theorem si_seq (h : SE X C e x) : SI X C tg .seq e (.cons x .nil) := by
  refine pi_imp (PIor (pi_list h) (pi_tup h)) fun σ H R ⟨T, r, ws, r', ds, its, E, h1, h2, h3, q⟩ => ?_
  obtain ⟨w, rfl, h4⟩ := evs_one h1
  obtain ⟨d, rfl, h5⟩ := views_one h2
  replace h3 : items d = some its := h3
  unfold items at h3
  split at h3
  · rename_i xs
    cases h3
    refine .inl ⟨T, r, w, r', E, h4, fun v H' p => ?_⟩
    obtain ⟨a, vs, rfl, e1, e2, e3⟩ := p.at0.view p.env h5
    exact ⟨a, rfl, ⟨vs, .of e1⟩, q _ _ _ p walk_list⟩
  · rename_i xs
    cases h3
    refine .inr ⟨T, r, w, r', E, h4, fun v H' p => ?_⟩
    obtain ⟨a, vs, rfl, e1, e2, e3⟩ := vr_tup (p.at0.view p.env h5)
    exact ⟨a, rfl, ⟨vs, e1⟩, q _ _ _ p walk_tup⟩
  · cases h3
theorem walk_rng {K : PySem.W.Frag} {lo : Int} {n : Nat} {vs : List V} {ds : List D} : Walk K (Itr lo n) vs ds ((List.range n).map fun (k : Nat) => D.int (lo + (k : Int))) := fun H N h => by
  refine ⟨fun i hi => ?_, ?_, fun i x H' hy d hd => ?_⟩
  · rw [List.length_map, List.length_range] at hi; exact hi
  · rw [List.length_map, List.length_range]; exact Nat.le_refl _
  · obtain ⟨rfl, rfl⟩ := hy
    rw [List.getElem?_map] at hd
    cases hr : (List.range n)[i]? with
    | none => rw [hr] at hd; cases hd
    | some k =>
      rw [hr] at hd
      cases hd
      have : i = k := by
        obtain ⟨h1, h2⟩ := List.getElem?_eq_some_iff.mp hr
        rw [List.getElem_range] at h2
        exact h2
      subst this
      exact .same (.int _)
theorem si_rng1 {p pos : Pos} (hg : Gl X "range") (hm : X.mg "range" = none) (h : SA X C [a] y) (hn : NS a) : SI X C tg .rng1 (.Call (.Name "range" p) [a] [] pos) y := by
  refine pi_imp (pi_range1 hg hm h (hn [] X.env)) fun σ H R ⟨T, r, ws, r', ds, its, E, h1, h2, h3, q⟩ => ⟨T, r, ws, r', E, h1, fun vs H' p => ?_⟩
  replace h3 : itR1 ds = some its := h3
  unfold itR1 at h3
  split at h3
  · rename_i n
    split at h3
    · rename_i hn
      cases h3
      obtain ⟨v, rfl, hv⟩ := (p.views h2).one
      cases vr_int hv
      exact ⟨n, rfl, by omega, by omega, q _ _ _ p walk_rng⟩
    · cases h3
  · cases h3
theorem si_rng2 {p pos : Pos} (hg : Gl X "range") (hm : X.mg "range" = none) (h : SA X C [a, b] y) (hn : NS a) (hn2 : NS b) : SI X C tg .rng2 (.Call (.Name "range" p) [a, b] [] pos) y := by
  refine pi_imp (pi_range2 hg hm h (by rw [hn, hn2]; rfl) (hn2 [] X.env)) fun σ H R ⟨T, r, ws, r', ds, its, E, h1, h2, h3, q⟩ => ⟨T, r, ws, r', E, h1, fun vs H' p => ?_⟩
  replace h3 : itR2 ds = some its := h3
  unfold itR2 at h3
  split at h3
  · rename_i n m
    split at h3
    · rename_i hn
      cases h3
      obtain ⟨v, u, rfl, hv, hu⟩ := (p.views h2).two
      cases vr_int hv
      cases vr_int hu
      exact ⟨n, m, rfl, ⟨by omega, by omega, by omega, by omega⟩, q _ _ _ p walk_rng⟩
    · cases h3
  · cases h3
end
end MP

-- part Mp8
set_option maxHeartbeats 1000000
/-! enumerate, zip; targets; comprehensions; calls; lists changed. -/
namespace MP
open PySem PySem.Spec PyProof.Rows L2

theorem enumD_len : ∀ (xs : List D) (k : Nat), (enumD k xs).length = xs.length
  | [], _ => rfl
  | x :: r, k => congrArg (· + 1) (enumD_len r (k + 1))
theorem enumD_get : ∀ (xs : List D) (k i : Nat), (enumD k xs)[i]? = xs[i]?.map fun x => .tup [.int ((k + i : Nat) : Int), x]
  | [], _, _ => by simp [enumD]
  | x :: r, k, 0 => by simp [enumD]
  | x :: r, k, i + 1 => by
    show (enumD (k + 1) r)[i]? = _
    rw [enumD_get r (k + 1) i]
    have e : k + 1 + i = k + (i + 1) := by omega
    rw [e]
    simp
theorem two_le : (2 : Nat) ≤ sizeLine := by rw [sizeLine_eq]; decide
section
variable {K : PySem.W.Frag} {a b : Addr} {xs ys : List D}
theorem walk_enum : Walk K (Ite K a) [.ref a] [.lst xs] (enumD 0 xs) := fun H N h => by
  cases h with
  | cons h t =>
    cases t
    obtain ⟨a', vs, e, e1, e2, e3⟩ := h
    cases e
    refine ⟨fun i hi => ?_, ⟨vs, .of e1, by rw [e2.length, enumD_len]; exact Nat.le_refl _⟩, fun i x H' hy d hd => ?_⟩
    · rw [enumD_len] at hi
      obtain ⟨v, g1, g2⟩ := e2.get (List.getElem?_eq_getElem hi)
      exact ⟨vs, v, .of e1, g1⟩
    · obtain ⟨T, v, rfl, hT, rfl, hy⟩ := hy
      rw [enumD_get] at hd
      cases hx : xs[i]? with
      | none => rw [hx] at hd; cases hd
      | some z =>
        rw [hx] at hd
        cases hd
        obtain ⟨v', g1, g2⟩ := e2.get hx
        have := hy vs (.of e1)
        rw [g1] at this
        cases this
        rw [Nat.zero_add]
        exact .tup hT (.cons (.int _) (.cons g2 .nil)) two_le
theorem zip_get {α β γ : Type} {f : α → β → γ} {l : List α} {m : List β} {i : Nat} {d : γ} (h : (List.zipWith f l m)[i]? = some d) : ∃ x y, l[i]? = some x ∧ m[i]? = some y ∧ d = f x y := by
  rw [List.getElem?_zipWith] at h
  cases h1 : l[i]? with
  | none => rw [h1] at h; cases h
  | some x =>
    cases h2 : m[i]? with
    | none => rw [h1, h2] at h; cases h
    | some y => rw [h1, h2] at h; cases h; exact ⟨x, y, rfl, rfl, rfl⟩
theorem walk_zip : Walk K (Itz K a b) [.ref a, .ref b] [.lst xs, .lst ys] (List.zipWith (fun x y => D.tup [x, y]) xs ys) := fun H N h => by
  obtain ⟨v, u, e, ⟨a', vs, e0, e1, e2, e3⟩, ⟨b', us, f0, f1, f2, f3⟩⟩ := h.two
  cases e
  cases e0
  cases f0
  refine ⟨fun i hi => ?_, ⟨vs, us, .of e1, .of f1, ?_⟩, fun i x H' hy d hd => ?_⟩
  · rw [List.length_zipWith] at hi
    obtain ⟨v, g1, g2⟩ := e2.get (List.getElem?_eq_getElem (show i < xs.length by omega))
    obtain ⟨u, k1, k2⟩ := f2.get (List.getElem?_eq_getElem (show i < ys.length by omega))
    exact ⟨vs, us, v, u, .of e1, .of f1, g1, k1⟩
  · rw [List.length_zipWith, e2.length, f2.length]; omega
  · obtain ⟨T, v, u, rfl, hT, rfl, hy, hz⟩ := hy
    obtain ⟨x, y, h1, h2, rfl⟩ := zip_get hd
    obtain ⟨v', g1, g2⟩ := e2.get h1
    obtain ⟨u', k1, k2⟩ := f2.get h2
    have q1 := hy vs (.of e1)
    have q2 := hz us (.of f1)
    rw [g1] at q1
    rw [k1] at q2
    cases q1
    cases q2
    exact .tup hT (.cons g2 (.cons k2 .nil)) two_le
theorem walk_zipT : Walk K (RZ.ItzT K a b) [.ref a, .ref b] [.tup xs, .tup ys] (List.zipWith (fun x y => D.tup [x, y]) xs ys) := fun H N h => by
  obtain ⟨v, u, e, h1, h2⟩ := h.two
  obtain ⟨a', vs, e0, e1, e2, e3⟩ := vr_tup h1
  obtain ⟨b', us, f0, f1, f2, f3⟩ := vr_tup h2
  cases e
  cases e0
  cases f0
  refine ⟨fun i hi => ?_, ⟨vs, us, e1, f1, ?_⟩, fun i x H' hy d hd => ?_⟩
  · rw [List.length_zipWith] at hi
    obtain ⟨v, g1, g2⟩ := e2.get (List.getElem?_eq_getElem (show i < xs.length by omega))
    obtain ⟨u, k1, k2⟩ := f2.get (List.getElem?_eq_getElem (show i < ys.length by omega))
    exact ⟨vs, us, v, u, e1, f1, g1, k1⟩
  · rw [List.length_zipWith, e2.length, f2.length]; omega
  · obtain ⟨T, v, u, rfl, hT, rfl, hy, hz⟩ := hy
    obtain ⟨x, y, h1, h2, rfl⟩ := zip_get hd
    obtain ⟨v', g1, g2⟩ := e2.get h1
    obtain ⟨u', k1, k2⟩ := f2.get h2
    have q1 := hy vs e1
    have q2 := hz us f1
    rw [g1] at q1
    rw [k1] at q2
    cases q1
    cases q2
    exact .tup hT (.cons g2 (.cons k2 .nil)) two_le
end
section
variable {X : Cx} {C : CallF} {tg e a b : Expr} {x y : E} {p pos tpos : Pos} {es elts : List Expr} {kk : Nat}
theorem si_zip (hg : Gl X "zip") (hm : X.mg "zip" = none) (h : SA X C [a, b] y) (hn : NS a) (hn2 : NS b) : SI X C (.Tuple elts kk tpos) .zip (.Call (.Name "zip" p) [a, b] [] pos) y := by
  refine pi_imp (RZ.pi_zipA hg hm h (hn [b] X.env) (by rw [hn2]; rfl)) fun σ H R ⟨T, r, ws, r', ds, its, E, h1, h2, h3, q⟩ => ⟨T, r, ws, r', E, h1, fun vs H' p => ?_⟩
  replace h3 : itZip ds = some its := h3
  unfold itZip at h3
  split at h3
  · cases h3
    obtain ⟨v, u, rfl, ⟨a', vs, rfl, e1, e2, e3⟩, ⟨b', us, rfl, f1, f2, f3⟩⟩ := (p.views h2).two
    exact ⟨a', b', vs, us, rfl, .inl ⟨.of e1, .of f1, q _ _ _ p walk_zip⟩⟩
  · cases h3
    obtain ⟨v, u, rfl, g1, g2⟩ := (p.views h2).two
    obtain ⟨a', vs, rfl, e1, e2, e3⟩ := vr_tup g1
    obtain ⟨b', us, rfl, f1, f2, f3⟩ := vr_tup g2
    exact ⟨a', b', vs, us, rfl, .inr ⟨e1, f1, q _ _ _ p walk_zipT⟩⟩
  · cases h3
end

/-! ### targets -/
/-- the slots of a target -/
def tgS : Tg → List Nat
  | .nm i => [i]
  | .tp t => tgS t
  | .nil => []
  | .cons t ts => tgS t ++ tgS ts
def rdG (K : PySem.W.Frag) (t : Tg) : TG := fun v σ H Q => ∃ H0 T σ0 r0 ws vs r1 d r2, Po K H0 T σ0 r0 σ r1 (.val d :: ws) (v :: vs) H ∧ slotsOf ws = [] ∧ asg t d r1 = some r2 ∧
  ∀ σ2, Po K H0 T σ0 r0 σ2 r2 ws vs H → (∀ j, j ∉ tgS t → σ2[j]? = σ[j]?) → σ2.length = σ.length → Q σ2 H
def rdGs (K : PySem.W.Frag) (t : Tg) : TGs := fun us σ H Q => ∃ H0 T σ0 r0 ws vs r1 ds r2, Po K H0 T σ0 r0 σ r1 (ds.map .val ++ ws) (us ++ vs) H ∧ us.length = ds.length ∧ slotsOf ws = [] ∧ asgs t ds r1 = some r2 ∧
  ∀ σ2, Po K H0 T σ0 r0 σ2 r2 ws vs H → (∀ j, j ∉ tgS t → σ2[j]? = σ[j]?) → σ2.length = σ.length → Q σ2 H
abbrev SG (X : Cx) (e : Expr) (t : Tg) : Prop := PG X e (rdG X.K t)
abbrev SGs (X : Cx) (es : List Expr) (t : Tg) : Prop := PGs X es (rdGs X.K t)
theorem pg_imp {X : Cx} {e : Expr} {t t' : TG} (h : PG X e t) (i : ∀ v σ H Q, t' v σ H Q → t v σ H Q) : PG X e t' := ⟨fun pins s σ H v u Q I r hw => h.run pins s σ H v u Q I r (i _ _ _ _ hw)⟩
theorem pgs_imp {X : Cx} {e : List Expr} {t t' : TGs} (h : PGs X e t) (i : ∀ v σ H Q, t' v σ H Q → t v σ H Q) : PGs X e t' := ⟨fun pins s σ H v u Q I r hw => h.run pins s σ H v u Q I r (i _ _ _ _ hw)⟩
section
variable {K : PySem.W.Frag} {H H' H1 H2 : Hp} {T T' : Addr → Prop} {σ σ' σ1 σ2 : L2.St} {r r' r1 r2 : Env} {ws us : List W} {vs zs : List V} {w x y : W} {v u : V} {i j : Nat} {d : D} {xs ys ds : List D} {a b : Addr} {own : List Nat}
mutual
theorem asg_len : ∀ {t : Tg} {d : D} {r r' : Env}, asg t d r = some r' → r'.length = r.length
  | .nm i, d, r, r', e => by
    rw [asg] at e
    exact put_len e
  | .tp ts, d, r, r', e => by
    cases d with
    | tup ds => rw [asg] at e; exact asgs_len e
    | _ => rw [asg] at e <;> first | cases e | (intros; simp_all)
  | .nil, d, r, r', e => by
    rw [asg] at e <;> first | cases e | (intros; simp_all)
  | .cons t ts, d, r, r', e => by
    rw [asg] at e <;> first | cases e | (intros; simp_all)
theorem asgs_len : ∀ {t : Tg} {ds : List D} {r r' : Env}, asgs t ds r = some r' → r'.length = r.length
  | .nil, [], r, r', e => by
    rw [asgs] at e
    cases e; rfl
  | .cons t ts, d :: ds, r, r', e => by
    rw [asgs] at e
    cases h : asg t d r with
    | none => rw [h] at e; cases e
    | some r1 => rw [h] at e; exact (asgs_len e).trans (asg_len h)
  | .nil, _ :: _, r, r', e => by
    rw [asgs] at e <;> first | cases e | (intros; simp_all)
  | .cons _ _, [], r, r', e => by
    rw [asgs] at e <;> first | cases e | (intros; simp_all)
  | .nm _, ds, r, r', e => by
    rw [asgs] at e <;> first | cases e | (intros; simp_all)
  | .tp _, ds, r, r', e => by
    rw [asgs] at e <;> first | cases e | (intros; simp_all)
end
theorem slots_vals : ∀ (ds : List D) (ws : List W), slotsOf (ds.map .val ++ ws) = slotsOf ws
  | [], _ => rfl
  | d :: ds, ws => slots_vals ds ws
theorem owns_vals : ∀ {ds : List D} {us vs : List V} {ws : List W}, us.length = ds.length → owns (ds.map .val ++ ws) (us ++ vs) = owns ws vs
  | [], [], _, _, _ => rfl
  | d :: ds, u :: us, vs, ws, h => by
    show [] ++ owns (ds.map .val ++ ws) (us ++ vs) = _
    rw [owns_vals (by simpa using h)]; rfl
  | [], _ :: _, _, _, h => by simp at h
  | _ :: _, [], _, _, h => by simp at h
theorem WRs.openT : ∀ {us : List V} {ds : List D}, Reps K H (fun b => T b ∨ Acc σ r b) us ds → WRs K H T σ r ws vs → WRs K H T σ r (ds.map .val ++ ws) (us ++ vs)
  | _, [], h, t => by cases h; exact t
  | _, d :: ds, h, t => by
    cases h with
    | cons h1 h2 => exact .cons h1 (WRs.openT h2 t)
/-- a tuple's items as results of their own -/
theorem Po.opn (p : Po K H T σ r σ1 r1 (.val (.tup ds) :: ws) (v :: vs) H1) : ∃ a us, v = .ref a ∧ SqT K H1 a us ∧ us.length = ds.length ∧ Po K H T σ r σ1 r1 (ds.map .val ++ ws) (us ++ vs) H1 := by
  have h0 : Rep K H1 _ v (.tup ds) := p.at0
  cases h0 with
  | tup h1 h2 h3 =>
    rename_i a us
    have ho : owns (ds.map .val ++ ws) (us ++ vs) = owns (.val (.tup ds) :: ws) (.ref a :: vs) := by
      rw [owns_vals h2.length]; rfl
    have hT : Tw T (ds.map .val ++ ws) (us ++ vs) = Tw T (.val (.tup ds) :: ws) (.ref a :: vs) := by
      unfold Tw; rw [ho]
    refine ⟨a, us, rfl, h1, h2.length, p.t0, p.frame, p.pers, by rw [hT]; exact p.env, ?_, by rw [ho]; exact p.fresh, by rw [ho]; exact p.nd, p.news, p.mun, p.keep⟩
    rw [hT]
    cases p.res with
    | cons g t => exact .openT h2 t
end
section
variable {X : Cx} {e : Expr} {es : List Expr} {t ts : Tg} {pos : Pos} {k : Nat}
/-- a name that may be stored -/
def Sto (X : Cx) (n : Str) : Prop := Loc X.env.scope n ∧ (X.fn n = true ∨ X.env.scope.names.lookup n = some .local)
theorem sg_nm {i : Nat} {n : Str} (hN : X.N.Nodup) (hi : X.N[i]? = some n) (hs : Sto X n) : SG X (.Name n pos) (.nm i) := by
  refine pg_imp (pg_name hN hi hs.1 hs.2) fun v σ H Q ⟨H0, T, σ0, r0, ws, vs, r1, d, r2, p, hw, ha, q⟩ => ?_
  rw [asg] at ha
  refine q _ (p.put (.inl ⟨d, rfl, rfl⟩) ha (by rw [hw]; simp)) (fun j n => ?_) (by simp)
  rw [set_at, if_neg]
  rintro ⟨rfl, _⟩
  exact n List.mem_cons_self
theorem sgs_nil : SGs X [] .nil := by
  refine pgs_imp pgs_nil fun us σ H Q ⟨H0, T, σ0, r0, ws, vs, r1, ds, r2, p, hl, hw, ha, q⟩ => ?_
  cases ds with
  | nil =>
    cases us with
    | nil =>
      rw [asgs] at ha
      cases ha
      exact ⟨rfl, q σ p (fun _ _ => rfl) rfl⟩
    | cons _ _ => simp at hl
  | cons _ _ => rw [asgs] at ha <;> first | cases ha | (intros; simp_all)
theorem sgs_cons (h1 : SG X e t) (h2 : SGs X es ts) (hs : (assignEach (e :: es) X.env).map (·.2) = assign e X.env :: (assignEach es X.env).map (·.2)) (hd : ∀ i ∈ tgS t, i ∉ tgS ts) : SGs X (e :: es) (.cons t ts) := by
  refine pgs_imp (pgs_cons h1 h2 hs) fun us σ H Q ⟨H0, T, σ0, r0, ws, vs, r1, ds, r2, p, hl, hw, ha, q⟩ => ?_
  cases ds with
  | nil => rw [asgs] at ha <;> first | cases ha | (intros; simp_all)
  | cons d ds =>
    cases us with
    | nil => simp at hl
    | cons u us =>
      rw [asgs] at ha
      cases h : asg t d r1 with
      | none => rw [h] at ha; cases ha
      | some r3 =>
        rw [h] at ha
        refine ⟨u, us, rfl, H0, T, σ0, r0, _, _, r1, d, r3, p, (slots_vals ds ws).trans hw, h, fun σ2 p2 hk hl2 => ?_⟩
        refine ⟨H0, T, σ0, r0, ws, vs, r3, ds, r2, p2, by simpa using hl, hw, ha, fun σ3 p3 hk3 hl3 => ?_⟩
        refine q σ3 p3 (fun j n => ?_) (hl3.trans hl2)
        have n' : j ∉ tgS t ++ tgS ts := n
        rw [List.mem_append, not_or] at n'
        exact (hk3 j n'.2).trans (hk j n'.1)
theorem sg_tp (hc : X.calm = true) (h : SGs X es ts) (hst : (assignEach es X.env).findIdx? (·.1) = none) (hlen : ∀ ds r r', asgs ts ds r = some r' → ds.length = (assignEach es X.env).length) : SG X (.Tuple es k pos) (.tp ts) := by
  refine pg_imp (pg_tup hc h rfl hst) fun v σ H Q ⟨H0, T, σ0, r0, ws, vs, r1, d, r2, p, hw, ha, q⟩ => ?_
  cases d with
  | tup ds =>
    rw [asg] at ha
    obtain ⟨a, us, rfl, h1, h2, p2⟩ := p.opn
    exact ⟨a, us, rfl, h1, h2.trans (hlen ds r1 r2 ha), H0, T, σ0, r0, ws, vs, r1, ds, r2, p2, h2, hw, ha, q⟩
  | _ => rw [asg] at ha <;> first | cases ha | (intros; simp_all)
end
end MP

-- part MpEnum
set_option maxHeartbeats 1000000
/-! enumerate(a tuple). -/
namespace MP
open PySem PySem.Spec PyProof.Rows
section
variable {prog : Program} {w : World} {A : Around} {E : Value → Shared → Prop} {s : Shared}
theorem meets_enum_tup (t : Addr) (items : Array Value) :
    Meets (Builtin.«enumerate.__new__» ⟨[.type "enumerate", .ref t], []⟩) (fun _ R s => s.heap.IsTuple t items ∧
      R (.ok (.ret (.ref (s.heap.push { cls := .type "tuple_iterator", data := .fields #[.ref t, .int 0 0] }).objs.size)))
        { s with heap := (s.heap.push { cls := .type "tuple_iterator", data := .fields #[.ref t, .int 0 0] }).push { cls := .type "enumerate", data := .fields #[.none, .bool false, .ref s.heap.objs.size, rawInt 0, .none, .none] } }) :=
  .of_wp fun prog w A R s h => by
    obtain ⟨hp, g, d, tk, os⟩ := s; obtain ⟨hl, h⟩ := h
    have hsub := sub_enumerate
    have hL : Heap.IsTuple (Shared.heap ⟨hp, g, d, tk, os⟩) t items := hl
    obtain ⟨ol, ho, _⟩ := id hl
    have q1 : ∀ {A' : Around} {E : Value → Shared → Prop} {Q : Value → Shared → Prop}, Q (.ref hp.objs.size) ⟨hp.push { cls := .type "tuple_iterator", data := .fields #[.ref t, .int 0 0] }, g, d, tk, os⟩ → wpAny (model prog w) A' (pyIter (.ref t)) Q E ⟨hp, g, d, tk, os⟩ :=
      fun q => wpAny_pyIter_tuple hL q
    wp_walk using q1
    refine wpAny_stack_any fun st => wpAny_pure ?_
    split
    · rename_i c _ _ _ _ _
      cases (c == Value.type "enumerate")
      · wp_walk using q1
        exact ⟨_, rfl, h⟩
      · wp_walk using q1
        exact ⟨_, rfl, h⟩
    · wp_walk using q1
      exact ⟨_, rfl, h⟩
theorem call_enum_tup {l : Addr} {items : Array Value} {Q : Value → Shared → Prop} (hL : s.heap.IsTuple l items)
    (h : ∀ h', IsEnum h' (s.heap.objs.size + 1) s.heap.objs.size 0 .none → h'.IsTupleIter s.heap.objs.size l 0 → h'.objs.size = s.heap.objs.size + 2 →
      (∀ b o, s.heap.get? b = some o → h'.get? b = some o) → Q (.ref (s.heap.objs.size + 1)) { s with heap := h' }) :
    wpAny (model prog w) A (call (.type "enumerate") [.ref l]) Q E s := by
  refine callType_new PySem.F.called_enumerate (by decide) (PySem.F.typeCall_enumerate_1 _) (PySem.F.newCall_enumerate_1 _) (fun obj => PySem.F.args_object_init_2 obj _) PySem.F.entry_enumerate_new
    (meets_enum_tup l items) ⟨hL, ?_⟩
  have hz : (s.heap.push { cls := .type "tuple_iterator", data := .fields #[.ref l, .int 0 0] }).objs.size = s.heap.objs.size + 1 := Heap.size_push ..
  show _ ∧ _
  rw [hz]
  have he : IsEnum ((s.heap.push { cls := .type "tuple_iterator", data := .fields #[.ref l, .int 0 0] }).push
      { cls := .type "enumerate", data := .fields #[.none, .bool false, .ref s.heap.objs.size, rawInt 0, .none, .none] }) (s.heap.objs.size + 1) s.heap.objs.size 0 .none := by
    have := Heap.get?_push_size (s.heap.push { cls := .type "tuple_iterator", data := .fields #[.ref l, .int 0 0] })
      (o := { cls := .type "enumerate", data := .fields #[.none, .bool false, .ref s.heap.objs.size, rawInt 0, .none, .none] }) rfl
    rw [hz] at this; exact this
  refine ⟨⟨_, he, rfl⟩, h _ he ⟨_, Heap.get?_push_of_some _ (Heap.get?_push_size _ rfl), rfl, rfl⟩ (by rw [Heap.size_push, hz]) fun b o x => Heap.get?_push_of_some _ (Heap.get?_push_of_some _ x)⟩
end
open L2
/-- the tuple at a, each item in a new pair -/
def ItT (K : PySem.W.Frag) (a : Addr) : It :=
  ⟨fun i H => ∃ (xs : List V) (x : V), SqT K H a xs ∧ xs[i]? = some x, fun i H v H' => ∃ T x, v = .ref T ∧ H T = none ∧ H' = upd H T (.tup [.int (i : Nat), x]) ∧ ∀ xs, SqT K H a xs → xs[i]? = some x, fun i H => ∃ xs : List V, SqT K H a xs ∧ xs.length = i⟩
theorem turn_enumT {P : Program} {w : World} {K : PySem.W.Frag} {elts : List Expr} {kk : Nat} {tpos : Pos} (a e it : Addr) :
    Turn P w K (.Tuple elts kk tpos) (ItT K a) [e, it] e (fun i h => (∃ old, IsEnum h e it ((i : Nat) : Int) old) ∧ h.IsTupleIter it a i ∧ e ≠ it ∧ a ≠ it ∧ a ≠ e) where
  mem := by simp
  obj := fun i h st b hb => by
    obtain ⟨⟨old, he⟩, ⟨o, ho, hc, hd⟩, _⟩ := st
    have e' : b = e ∨ b = it := by simpa using hb
    rcases e' with z | z
    · rw [z]; exact ⟨_, he, fun v q => nomatch q⟩
    · rw [z]; exact ⟨o, ho, fun v q => by rw [hd] at q; cases q⟩
  keep := fun i h h' st k => let ⟨⟨old, he⟩, hi, hne⟩ := st; ⟨⟨old, k e (by simp) _ he⟩, hi.at fun o q => k it (by simp) o q, hne⟩
  item := by
    intro X hP hw hK hc i pins s σ H E I hf st hg
    subst hP hw hK
    obtain ⟨⟨old, he⟩, hit, hne, hat, hae⟩ := st
    obtain ⟨xs, x, hq, hx⟩ := hg
    obtain ⟨its, rv, p, hz⟩ := I.tuple hq
    obtain ⟨u, hu, ru⟩ := rv.get hx
    have hel : e < s.heap.objs.size := Heap.lt_size he
    have hil : it < s.heap.objs.size := by obtain ⟨_, q, _⟩ := hit; exact Heap.lt_size q
    have hi : i < its.toArray.size := by
      rw [List.size_toArray]
      exact (List.getElem?_eq_some_iff.mp hu).1
    have Dr := Draws.tuple (prog := X.prog) (w := X.w) (A := X.A.in1) (I.ok.hd hc) it a hat its.toArray
    refine wpAny_pyNext_enum_itemD Dr he ⟨hit, p⟩ hi hne (by simp; exact ⟨hne, Ne.symm hae⟩) fun u' h' tk hu' ho hst' hT hsz hk => ?_
    have eu : u' = u := by
      have hu'' : its.toArray[i]? = some u' := hu'
      rw [List.getElem?_toArray, hu] at hu''
      exact (Option.some.inj hu'').symm
    subst eu
    refine ⟨_, rfl, wpAny_letOwnedTupleGo_enum (s := { s with heap := h', toks := tk + 1 }) ho fun h'' he' sb => ?_⟩
    have hT2 : h''.get? s.heap.objs.size = some { cls := .type "tuple", data := .seq #[.int i tk, u'] } := (sb.2 _ (Nat.ne_of_gt hel)).trans hT
    have new : ObjOk X.prog X.w (upd H s.heap.objs.size (.tup [.int (i : Nat), x])) h'' s.heap.objs.size (.tup [.int (i : Nat), x]) :=
      ⟨by show 2 ≤ sizeLine; decide, [.int i tk, u'], .cons ⟨_, rfl⟩ (.cons ru .nil), ⟨_, hT2, rfl, _, rfl⟩⟩
    have I1 : Inv X pins σ (upd H s.heap.objs.size (.tup [.int (i : Nat), x])) { s with heap := h'', toks := tk + 1 } :=
      I.turnedNew (ch := [e, it]) (fun b ob hb q => (sb.2 b (fun z => hb (by simp [z]))).trans (hk b ob (fun z => hb (by simp [z])) (fun z => hb (by simp [z])) q)) hf (Nat.le_refl _) new
    refine ⟨.ref s.heap.objs.size, _, I1, rfl, ⟨_, x, rfl, I.hok.fresh (Nat.le_refl _), rfl, fun ys hy => by rw [I.tuple_inj hy hq]; exact hx⟩, ⟨⟨u', ?_⟩, hst'.1.at fun o q => (sb.2 it (Ne.symm hne)).trans q, hne, hat, hae⟩, fun b hb => ?_⟩
    · have e1 : ((i + 1 : Nat) : Int) = (i : Int) + 1 := by omega
      rw [e1]; exact he'
    · have hb' : b < s.heap.objs.size := by
        have e' : b = e ∨ b = it := by simpa using hb
        rcases e' with z | z
        · rw [z]; exact hel
        · rw [z]; exact hil
      rw [upd_ne (Nat.ne_of_lt hb')]
      exact (hf b hb).1
  done := by
    intro X hP hw hK hc i pins s σ H E I hf st hg
    subst hP hw hK
    obtain ⟨⟨old, he⟩, hit, hne, hat, hae⟩ := st
    obtain ⟨xs, hq, hx⟩ := hg
    obtain ⟨its, rv, p, hz⟩ := I.tuple hq
    obtain ⟨f0, f1, f2, f3, f4, f5⟩ := hf it (by simp)
    have hl := rv.length
    have Dr := Draws.tuple (prog := X.prog) (w := X.w) (A := X.A.in1) (I.ok.hd hc) it a hat its.toArray
    have en : i = its.toArray.size := by rw [List.size_toArray, ← hl]; exact hx.symm
    subst en
    exact wpAny_pyNext_enum_endD Dr he ⟨hit, p⟩ fun h' eb => ⟨rfl, I.turned (t' := s.toks) (fun b o hb q => eb b o hb q) f0 f1 f3 f4 f5⟩
  self := fun A i s Q E st h => let ⟨⟨_, he⟩, _⟩ := st; wpAny_pyIter_enum he h
def iEnumT (K : PySem.W.Frag) (ta : TA) : TI := fun σ H R => ta σ H fun vs H1 => ∃ a xs, vs = [.ref a] ∧ SqT K H1 a xs ∧ R (ItT K a) H1
theorem pi_enumT {X : Cx} {e : Expr} {ta : TA} {p pos tpos : Pos} {elts : List Expr} {kk : Nat} (hg : Gl X "enumerate") (hm : X.mg "enumerate" = none) (ha : PA X [e] ta) (hs : starEach [e] X.env = [(false, eval e X.env)]) :
    PI X (.Tuple elts kk tpos) (.Call (.Name "enumerate" p) [e] [] pos) (iEnumT X.K ta) := by
  refine ⟨fun pins s σ H R I h => ?_⟩
  refine Call_ (ld_blt I hg hm boot_enumerate (PyProof.Rows.callWith_type1 (thn (ha.run pos pins s σ H _ I h) fun us s1 ⟨vs, H1, I1, r1, q1⟩ => ?_) hs rfl))
  obtain ⟨a, xs, ex, hq, q⟩ := q1
  subst ex
  cases r1 with
  | cons r rr =>
    cases rr
    cases r
    obtain ⟨its, rv, p', hz⟩ := I1.tuple hq
    have hal : a < s1.heap.objs.size := p'.lt
    refine call_enum_tup p' fun h' he hit hsz hk => wpAny_pyIter_enum he ?_
    have I2 : Inv X pins σ H1 { s1 with heap := h' } := I1.kept (t' := s1.toks) hk
    refine ⟨s1.heap.objs.size + 1, [s1.heap.objs.size + 1, s1.heap.objs.size], _, _, H1, rfl, I2, turn_enumT a (s1.heap.objs.size + 1) s1.heap.objs.size, ⟨⟨.none, he⟩, hit, Nat.succ_ne_self _, Nat.ne_of_lt hal, Nat.ne_of_lt (Nat.lt_succ_of_lt hal)⟩, fun b hb => ?_, q⟩
    have e' : b = s1.heap.objs.size + 1 ∨ b = s1.heap.objs.size := by simpa using hb
    have hle : s1.heap.objs.size ≤ b := by
      rcases e' with z | z
      · rw [z]; exact Nat.le_add_right _ _
      · rw [z]; exact Nat.le_refl _
    exact I1.fpOk hle (I1.hok.fresh hle)
theorem walk_enumT {K : PySem.W.Frag} {a : Addr} {xs : List D} : Walk K (ItT K a) [.ref a] [.tup xs] (enumD 0 xs) := fun H N h => by
  cases h with
  | cons h t =>
    cases t
    obtain ⟨a', vs, e, e1, e2, e3⟩ := vr_tup h
    cases e
    refine ⟨fun i hi => ?_, ⟨vs, e1, by rw [e2.length, enumD_len]⟩, fun i x H' hy d hd => ?_⟩
    · rw [enumD_len] at hi
      obtain ⟨v, g1, g2⟩ := e2.get (List.getElem?_eq_getElem hi)
      exact ⟨vs, v, e1, g1⟩
    · obtain ⟨T, v, rfl, hT, rfl, hy⟩ := hy
      rw [enumD_get] at hd
      cases hx : xs[i]? with
      | none => rw [hx] at hd; cases hd
      | some z =>
        rw [hx] at hd
        cases hd
        obtain ⟨v', g1, g2⟩ := e2.get hx
        have := hy vs e1
        rw [g1] at this
        cases this
        rw [Nat.zero_add]
        exact .tup hT (.cons (.int _) (.cons g2 .nil)) two_le
section
variable {X : Cx} {C : CallF}
theorem si_enum {p pos tpos : Pos} {elts : List Expr} {kk : Nat} {a : Expr} {y : E} (hg : Gl X "enumerate") (hm : X.mg "enumerate" = none) (h : SA X C [a] y) (hn : NS a) : SI X C (.Tuple elts kk tpos) .enum (.Call (.Name "enumerate" p) [a] [] pos) y := by
  refine pi_imp (PIor (pi_enum hg hm h (hn [] X.env)) (pi_enumT hg hm h (hn [] X.env))) fun σ H R ⟨T, r, ws, r', ds, its, E, h1, h2, h3, q⟩ => ?_
  replace h3 : itEnum ds = some its := h3
  unfold itEnum at h3
  split at h3
  · cases h3
    refine .inl ⟨T, r, ws, r', E, h1, fun vs H' p => ?_⟩
    have hv := p.views h2
    obtain ⟨v, e, hv'⟩ := hv.one
    subst e
    obtain ⟨a, us, rfl, e1, e2, e3⟩ := hv'
    exact ⟨a, us, rfl, .inl (.inl e1), q _ _ _ p walk_enum⟩
  · cases h3
    refine .inr ⟨T, r, ws, r', E, h1, fun vs H' p => ?_⟩
    have hv := p.views h2
    obtain ⟨v, e, hv'⟩ := hv.one
    subst e
    obtain ⟨a, us, rfl, e1, e2, e3⟩ := vr_tup hv'
    exact ⟨a, us, rfl, e1, q _ _ _ p walk_enumT⟩
  · cases h3
end
end MP

-- part Mp9
set_option maxHeartbeats 1000000
/-! Comprehensions; calls; lists changed; built-ins in expressions. -/
namespace MP
open PySem PySem.Spec PyProof.Rows L2

theorem compL_le (step : D → Env → R (Option D)) : ∀ (ds out : List D) (r : Env) (out' : List D) (r' : Env), compL step ds out r = .ok out' r' → out'.length ≤ out.length + ds.length
  | [], out, r, out', r', h => by cases h; exact Nat.le_refl _
  | d :: ds, out, r, out', r', h => by
    rw [compL] at h
    obtain ⟨y, r1, h1, h2⟩ := R.bind_inv h
    split at h2
    · have := compL_le step ds _ _ _ _ h2
      rw [List.length_append, List.length_singleton] at this
      rw [List.length_cons]
      omega
    · have := compL_le step ds _ _ _ _ h2
      rw [List.length_cons]
      omega
theorem unlock_inv {α : Type} {r0 r' : Env} {ws : List W} {x : R α} {a : α} (h : x.unlock r0 ws = .ok a r') : ∃ r1, x = .ok a r1 ∧ r' = unlocks r0 r1 ws := by
  cases x with
  | ok b r1 => cases h; exact ⟨r1, rfl, rfl⟩
  | exc x r1 => cases h
  | no => cases h
/-- the tests of a comprehension: none is .lit true -/
abbrev STs (X : Cx) (C : CallF) (ifs : List Expr) (x : E) : Prop := PTs X ifs (rdT X.K C x)
theorem pts_imp {X : Cx} {e : List Expr} {t t' : TT} (h : PTs X e t) (i : ∀ σ H Q, t' σ H Q → t σ H Q) : PTs X e t' := ⟨fun pins s σ H Q I hw => h.run pins s σ H Q I (i _ _ _ hw)⟩
section
variable {X : Cx} {C : CallF} {e a b : Expr} {x y z : E} {p pos : Pos} {es : List Expr}
theorem sts_nil : STs X C [] (.lit (.bl true)) := by
  refine pts_imp pts_nil fun σ H Q ⟨T, r, b, r', E, h, q⟩ => ?_
  have h : R.ok true r = R.ok b r' := h
  cases h
  exact q H (.refl E)
theorem sts_one (h : ST X C e x) : STs X C [e] x := pts_one h

/-- a step of the comprehension -/
def stepC (C : CallF) (t : Tg) (c x : E) (own : List Nat) : D → Env → R (Option D) := fun d r2 => match asg t d r2 with
  | some r3 => (ev C c r3).bind fun y r4 => (asB y r4).bind fun b r5 => match b with
    | true => (ev C x r5).bind fun z r6 => match z with
      | .val d' => .ok (some d') (wipes r6 own)
      | _ => .no
    | false => .ok none (wipes r5 own)
  | none => .no
theorem ev_lc {t : Tg} {k : Ik} {es c x : E} {own : List Nat} {r : Env} : ev C (.lc t k es c x own) r = (evs C es r).bind fun ws r1 => match (views r1 ws).bind (itOp k) with
    | some ds => ((compL (stepC C t c x own) ds [] (wipes (locks r1 ws) own)).bind fun out r7 => .ok (.own out) (backs (locks r1 ws) r7 own)).unlock r1 ws
    | none => .no := by
  rw [ev]
  rfl
theorem tg_wipe {σ σ2 : L2.St} {own : List Nat} {t : Tg} (hk : ∀ j, j ∉ tgS t → σ2[j]? = σ[j]?) (hl : σ2.length = σ.length) (hs : ∀ i ∈ tgS t, i ∈ own) : L2.wipe σ2 own = L2.wipe σ own := by
  refine List.ext_getElem? fun j => ?_
  by_cases hj : j ∈ own
  · have none_at : ∀ τ : L2.St, (L2.wipe τ own)[j]? = if j < τ.length then some none else none := fun τ => by
      clear hk hl hs
      induction own with
      | nil => cases hj
      | cons i is ih =>
        show ((L2.wipe τ is).set i none)[j]? = _
        by_cases h : j = i
        · subst h
          by_cases hlt : j < (L2.wipe τ is).length
          · rw [List.getElem?_set_self hlt, if_pos (by rwa [wipe_length] at hlt)]
          · rw [List.getElem?_eq_none (by rw [List.length_set]; omega), if_neg (by rwa [wipe_length] at hlt)]
        · rw [List.getElem?_set_ne (fun z => h z.symm)]
          exact ih ((List.mem_cons.mp hj).resolve_left h)
    rw [none_at, none_at, hl]
  · rw [wipe_out hj, wipe_out hj]
    exact hk j fun z => hj (hs j z)
theorem wipe_wipe {σ : L2.St} {own : List Nat} : L2.wipe (L2.wipe σ own) own = L2.wipe σ own := by
  refine List.ext_getElem? fun j => ?_
  by_cases hj : j ∈ own
  · have none_at : ∀ τ : L2.St, (L2.wipe τ own)[j]? = if j < τ.length then some none else none := fun τ => by
      induction own with
      | nil => cases hj
      | cons i is ih =>
        show ((L2.wipe τ is).set i none)[j]? = _
        by_cases h : j = i
        · subst h
          by_cases hlt : j < (L2.wipe τ is).length
          · rw [List.getElem?_set_self hlt, if_pos (by rwa [wipe_length] at hlt)]
          · rw [List.getElem?_eq_none (by rw [List.length_set]; omega), if_neg (by rwa [wipe_length] at hlt)]
        · rw [List.getElem?_set_ne (fun z => h z.symm)]
          exact ih ((List.mem_cons.mp hj).resolve_left h)
    rw [none_at, none_at, wipe_length]
  · rw [wipe_out hj]
theorem its_len {K : PySem.W.Frag} {H : Hp} {N : Addr → Prop} {vs : List V} {ds its : List D} {k : Ik} (h : VRs K H N vs ds) (hi : itOp k ds = some its) : its.length ≤ sizeLine := by
  have lim : (1048576 : Nat) ≤ sizeLine := by rw [sizeLine_eq]; decide
  have one : ∀ {v : V} {d : D} {zs : List D}, VR K H N v d → items d = some zs → zs.length ≤ sizeLine := fun {v d zs} h e => by
    unfold items at e
    split at e
    · cases e; obtain ⟨_, _, _, _, _, l⟩ := h; exact l
    · cases e; obtain ⟨_, _, _, _, _, l⟩ := vr_tup h; exact l
    · cases e
  cases k with
  | seq =>
    replace hi : itSeq ds = some its := hi
    unfold itSeq at hi
    split at hi
    · obtain ⟨v, rfl, hv⟩ := h.one
      exact one hv hi
    · cases hi
  | rng1 =>
    replace hi : itR1 ds = some its := hi
    unfold itR1 at hi
    split at hi
    · split at hi
      · cases hi; rw [List.length_map, List.length_range]; omega
      · cases hi
    · cases hi
  | rng2 =>
    replace hi : itR2 ds = some its := hi
    unfold itR2 at hi
    split at hi
    · split at hi
      · cases hi; rw [List.length_map, List.length_range]; omega
      · cases hi
    · cases hi
  | enum =>
    replace hi : itEnum ds = some its := hi
    unfold itEnum at hi
    split at hi
    · cases hi
      obtain ⟨v, rfl, hv⟩ := h.one
      rw [enumD_len]; exact one hv rfl
    · cases hi
      obtain ⟨v, rfl, hv⟩ := h.one
      rw [enumD_len]; exact one hv rfl
    · cases hi
  | zip =>
    replace hi : itZip ds = some its := hi
    unfold itZip at hi
    split at hi
    · cases hi
      obtain ⟨v, u, rfl, hv, hu⟩ := h.two
      rw [List.length_zipWith]
      exact Nat.le_trans (Nat.min_le_left _ _) (one hv rfl)
    · cases hi
      obtain ⟨v, u, rfl, hv, hu⟩ := h.two
      rw [List.length_zipWith]
      exact Nat.le_trans (Nat.min_le_left _ _) (one hv rfl)
    · cases hi
theorem lc_imp {t : Tg} {k : Ik} {ys c' : E} {ow : List Nat} {σ : L2.St} {H : Hp} {Q : VK} (hown : ∀ i ∈ tgS t, i ∈ ow) (h : rdE X.K C (.lc t k ys c' x ow) σ H Q) : tLc (rdI X.K C k ys) (rdG X.K t) (rdT X.K C c') (rdE X.K C x) ow σ H Q := by
  obtain ⟨T, r, w, r', E, hr, q⟩ := h
  rw [ev_lc] at hr
  obtain ⟨ws, r1, h1, h2⟩ := R.bind_inv hr
  cases hv : views r1 ws with
  | none => rw [hv] at h2; cases h2
  | some ds =>
    rw [hv] at h2
    cases hz : itOp k ds with
    | none =>
      have h2' : (match (itOp k ds) with
        | some ds => ((compL (stepC C t c' x ow) ds [] (wipes (locks r1 ws) ow)).bind fun out r7 => .ok (W.own out) (backs (locks r1 ws) r7 ow)).unlock r1 ws
        | none => .no) = R.ok w r' := h2
      rw [hz] at h2'; cases h2'
    | some its =>
      have h2' : (match (itOp k ds) with
        | some ds => ((compL (stepC C t c' x ow) ds [] (wipes (locks r1 ws) ow)).bind fun out r7 => .ok (W.own out) (backs (locks r1 ws) r7 ow)).unlock r1 ws
        | none => .no) = R.ok w r' := h2
      rw [hz] at h2'
      obtain ⟨r2, h3, rfl⟩ := unlock_inv h2'
      obtain ⟨out, r7, h4, h5⟩ := R.bind_inv h3
      cases h5
      refine ⟨T, r, ws, r1, ds, its, E, h1, hv, hz, fun vs H1 J P Wk => ?_⟩
      intro Dn hD
      obtain ⟨El, Wl⟩ := P.locked
      have hvl : views (locks r1 ws) ws = some ds := (views_same (locks_same ws r1)).trans hv
      have hlen := its_len (P.views hv) hz
      generalize hrl : locks r1 ws = rl at *
      have Eb := El.names ow
      have p0 : Po X.K H1 _ (L2.wipe σ ow) (wipes rl ow) (L2.wipe σ ow) (wipes rl ow) [.own []] [.ref Dn] (upd H1 Dn (.lst [])) := Po.opOf Eb (Op1.list hD .nil (Nat.zero_le _))
      refine ⟨fun i m Hc => m = its.length - i ∧ i ≤ its.length ∧ ∃ acc rc, Po X.K H1 (Tn (Tw T ws vs) σ rl ow) (L2.wipe σ ow) (wipes rl ow) (L2.wipe σ ow) rc [.own acc] [.ref Dn] Hc ∧ acc.length ≤ i ∧ (∀ j ∈ ow, gets rc j = .no) ∧ compL (stepC C t c' x ow) (its.drop i) acc rc = .ok out r7,
        ⟨its.length, by simp, Nat.zero_le _, [], wipes rl ow, p0, Nat.zero_le _, fun j hj => by rw [gets_wipes, if_pos hj], by rw [List.drop_zero]; exact h4⟩, ?_⟩
      rintro i m Hc ⟨rfl, hil, acc, rc, p, hal, hno, hcomp⟩
      have stay : VRs X.K Hc (fun b => Tw (Tn (Tw T ws vs) σ rl ow) [.own acc] [.ref Dn] b ∨ Acc (L2.wipe σ ow) rc b) vs ds := by
        refine WRs.kept El (fun b o e n => p.frame b o e fun z => n (mu_wipe z)) (fun b z => ?_) Wl hvl fun i hi m xs e => by rw [← hrl] at e; exact locked_all i hi m xs e
        rcases z with (z | z) | z
        · rcases z with z | z
          · exact .inl (.inl z)
          · exact .inl (.inr z.1)
        · exact .inr (p.fresh b z)
        · rcases p.news b z with z | z
          · obtain ⟨i, m, xs, _, g1, g2⟩ := acc_wipe.mp z
            exact .inl (.inr ⟨i, m, xs, g1, g2⟩)
          · exact .inr z
      obtain ⟨go, stop, yld⟩ := Wk Hc _ stay
      by_cases hlt : i < its.length
      · refine .inr ⟨go i hlt, _, fun H' w => ⟨its.length - (i + 1), by omega, w⟩, fun xv H' hy => ?_⟩
        rw [List.drop_eq_getElem_cons hlt, compL] at hcomp
        obtain ⟨yo, rn, k1, k2⟩ := R.bind_inv hcomp
        unfold stepC at k1
        cases ha : asg t its[i] rc with
        | none => rw [ha] at k1; cases k1
        | some r3 =>
          rw [ha] at k1
          have o := yld i xv H' hy its[i] (List.getElem?_eq_getElem hlt)
          have s1 := Po.opOf p.env o
          refine ⟨Hc, _, _, rc, [], [], rc, its[i], r3, s1, rfl, ha, fun σ2 s2 hk hl2 => ?_⟩
          have hw : L2.wipe σ2 ow = L2.wipe σ ow := by
            rw [tg_wipe hk hl2 hown, wipe_wipe]
          refine ⟨hw, ?_⟩
          obtain ⟨yw, r4, k3, k4⟩ := R.bind_inv k1
          obtain ⟨bb, r5, k5, k6⟩ := R.bind_inv k4
          refine ⟨_, r3, bb, r5, s2.env0, by unfold test; rw [k3]; exact k5, fun H3 p3 => ?_⟩
          have s3 := s2.next p3
          have noacc : ∀ i ∈ ow, ∀ m xs, gets rc i = .acc m xs → m = .free := fun i hi m xs e => by
            rw [hno i hi] at e; cases e
          cases bb with
          | true =>
            refine Eq.mpr (if_pos (c := (true = true)) rfl) ?_
            obtain ⟨zw, r6, k7, k8⟩ := R.bind_inv k6
            split at k8
            · rename_i d'
              cases k8
              refine ⟨_, r5, _, _, s3.env0, k7, fun yv H4 p4 => ?_⟩
              have s4 := s3.next p4
              have s5 := s4.wipe (own := ow) noacc (fun i z => by simp at z)
              rw [hw] at s5
              have p5 := p.trans s5 fun _ _ => rfl
              obtain ⟨us, e1, e2, p6⟩ := Po.push p5 (by omega)
              refine ⟨us, e1, by omega, rfl, hlt, acc ++ [d'], _, p6, by rw [List.length_append, List.length_singleton]; omega, fun j hj => by rw [gets_wipes, if_pos hj], k2⟩
            · cases k8
          | false =>
            refine Eq.mpr (if_neg (c := (false = true)) Bool.false_ne_true) ?_
            cases k6
            have s5 := s3.wipe (own := ow) noacc (fun i z => by simp at z)
            rw [hw] at s5
            have p5 := p.trans s5 fun _ _ => rfl
            exact ⟨rfl, hlt, acc, _, p5, by omega, fun j hj => by rw [gets_wipes, if_pos hj], k2⟩
      · have hie : i = its.length := by omega
        subst hie
        rw [List.drop_length] at hcomp
        cases hcomp
        refine .inl ⟨stop, q _ _ ?_⟩
        have pn := Po.names El p fun i z => by simp at z
        rw [← hrl] at pn
        have pw := P.walk pn
        rw [hrl] at pw
        exact pw
theorem se_lc {elt tg iter : Expr} {ifs : List Expr} {scope : Scope} {own : List (Str × Nat)} {t : Tg} {k : Ik} {ys c' : E} (hc : X.calm = true) (hN : X.N.Nodup) (hi : SI X C tg k iter ys) (ok : BlkOk X.N X.env.scope scope own)
    (hg : ∀ (s : Shared) (H : Hp) (D : Addr) (cl : List (Str × Addr)) (fp : List Addr), SG (X.blk s H scope (compEnvC scope cl D X.env) fp) tg t) (ht : ∀ (s : Shared) (H : Hp) (D : Addr) (cl : List (Str × Addr)) (fp : List Addr), STs (X.blk s H scope (compEnvC scope cl D X.env) fp) C ifs c')
    (he : ∀ (s : Shared) (H : Hp) (D : Addr) (cl : List (Str × Addr)) (fp : List Addr), SE (X.blk s H scope (compEnvC scope cl D X.env) fp) C elt x) (hs : ∀ x, foldedSetIterable iter X.env x = pure x)
    (hown : ∀ i ∈ tgS t, i ∈ own.map (·.2)) : SE X C (.ListComp elt [⟨tg, iter, ifs, 0⟩] scope pos) (.lc t k ys c' x (own.map (·.2))) :=
  pe_imp (pe_lc (te := rdE X.K C x) (tt := rdT X.K C c') (g := rdG X.K t) hc hN hi ok hg ht he hs) fun _ _ _ h => lc_imp hown h
end
end MP

-- part Mp10
set_option maxHeartbeats 1000000
/-! Built-ins, isinstance, calls, changes of lists, in expressions. -/
namespace MP
open PySem PySem.Spec PyProof.Rows L2

section
variable {X : Cx} {C : CallF} {e a b o : Expr} {x y z ys : E} {p p2 p3 pos apos cpos : Pos} {es : List Expr}

/-! ### built-ins -/
theorem bi_core {bi : Bi} {σ : L2.St} {H : Hp} {Q : VK} (h : rdE X.K C (.bi bi ys) σ H Q) : tCB (rBi X.K bi) (rdA X.K C ys) σ H Q := by
  obtain ⟨T, r, w, r', E, hr, q⟩ := h
  rw [ev] at hr
  obtain ⟨ws, r1, h1, h2⟩ := R.bind_inv hr
  cases hv : views r1 ws with
  | none => rw [hv] at h2; cases h2
  | some ds =>
    rw [hv] at h2
    obtain ⟨h3, rfl⟩ := R.ofO_inv h2
    exact ⟨T, r, ws, _, E, h1, fun vs H1 p => ⟨_, ds, w, p.views hv, h3, fun v H' o => q v H' (p.op o)⟩⟩
/-- the name of a built-in -/
def biN : Bi → Str
  | .len => "len" | .sum => "sum" | .sum2 => "sum" | .all => "all" | .any => "any" | .list => "list" | .tuple => "tuple" | .sorted => "sorted"
  | .lenset => "len" | .sortset => "sorted" | .abs => "abs" | .int => "int" | .min1 => "min" | .max1 => "max" | .min2 => "min" | .max2 => "max" | .listrange => "list"
/-- called as it stands -/
def biD : Bi → Bool
  | .lenset => false | .sortset => false | .listrange => false | _ => true
theorem se_bi {bi : Bi} (hb : biD bi = true) (hc : X.calm = true) (hu : X.A.units + 200 < cLine) (hg : Gl X (biN bi)) (hm : X.mg (biN bi) = none) (ha : SA X C (e :: es) ys) (hn : NS e) (hr : ∀ e ∈ es, NS e) : SE X C (.Call (.Name (biN bi) p) (e :: es) [] pos) (.bi bi ys) := by
  have h1 := hn es X.env
  have h2 := backTo_any (pos := pos) (env := X.env) hr
  cases bi <;> first | (cases hb; done) | skip
  · exact pe_imp (pe_callB cr_len' hg hm (by decide +kernel) ha (by decide) (by decide) h1 h2) fun _ _ _ => bi_core
  · exact pe_imp (pe_callB (cr_sum' hc) hg hm (by decide +kernel) ha (by decide) (by decide) h1 h2) fun _ _ _ => bi_core
  · exact pe_imp (pe_callB (cr_sum2 hc) hg hm (by decide +kernel) ha (by decide) (by decide) h1 h2) fun _ _ _ => bi_core
  · exact pe_imp (pe_callB (cr_all' hc) hg hm (by decide +kernel) ha (by decide) (by decide) h1 h2) fun _ _ _ => bi_core
  · exact pe_imp (pe_callB (cr_any' hc) hg hm (by decide +kernel) ha (by decide) (by decide) h1 h2) fun _ _ _ => bi_core
  · exact pe_imp (pe_callTy cr_list' hg hm (by decide +kernel) ha (by decide) (by decide) h1 h2) fun _ _ _ => bi_core
  · exact pe_imp (pe_callTy cr_tuple' hg hm (by decide +kernel) ha (by decide) (by decide) h1 h2) fun _ _ _ => bi_core
  · exact pe_imp (pe_callB (cr_sorted' hu) hg hm (by decide +kernel) ha (by decide) (by decide) h1 h2) fun _ _ _ => bi_core
  · exact pe_imp (pe_callB cr_abs' hg hm (by decide +kernel) ha (by decide) (by decide) h1 h2) fun _ _ _ => bi_core
  · exact pe_imp (pe_callTy cr_int' hg hm (by decide +kernel) ha (by decide) (by decide) h1 h2) fun _ _ _ => bi_core
  · exact pe_imp (pe_callB (cr_min1 hc hu) hg hm (by decide +kernel) ha (by decide) (by decide) h1 h2) fun _ _ _ => bi_core
  · exact pe_imp (pe_callB (cr_max1 hc) hg hm (by decide +kernel) ha (by decide) (by decide) h1 h2) fun _ _ _ => bi_core
  · exact pe_imp (pe_callB (cr_min2 hc) hg hm (by decide +kernel) ha (by decide) (by decide) h1 h2) fun _ _ _ => bi_core
  · exact pe_imp (pe_callB (cr_max2 hc) hg hm (by decide +kernel) ha (by decide) (by decide) h1 h2) fun _ _ _ => bi_core
theorem se_lenset (hc : X.calm = true) (hg : Gl X "len") (hm : X.mg "len" = none) (hg2 : Gl X "set") (hm2 : X.mg "set" = none) (ha : SE X C a x) (hn : NS a) :
    SE X C (.Call (.Name "len" p) [.Call (.Name "set" p2) [a] [] p3] [] pos) (.bi .lenset (.cons x .nil)) := by
  refine pe_imp (RZ.pe_lenSetI hg hm hg2 hm2 ha hc (hn [] X.env)) fun σ H Q h => ?_
  obtain ⟨T, r, ws, r', E, h1, q⟩ := bi_core h
  obtain ⟨w, rfl, h4⟩ := evs_one h1
  refine ⟨T, r, w, r', E, h4, fun v H1 p => ?_⟩
  obtain ⟨N, ds, w', hd, ho, q⟩ := q [v] H1 p
  replace ho : biLenset ds = some w' := ho
  unfold biLenset at ho
  split at ho
  · rename_i xs
    cases hn : getsI xs with
    | none => rw [hn] at ho; cases ho
    | some ns =>
      rw [hn] at ho
      replace ho : (if nodupI ns && decide (ns.length ≤ 4000) then some (W.val (.int ns.length)) else none) = some w' := ho
      split at ho
      · rename_i hk
        cases ho
        rw [Bool.and_eq_true] at hk
        obtain ⟨v', e, hv⟩ := hd.one
        cases e
        obtain ⟨a, vs, rfl, e1, e2, e3⟩ := hv
        have := getsI_is hn
        subst this
        cases reps_ints e2
        exact ⟨a, ns, rfl, .inl (.inl e1), nodupI_iff hk.1, of_decide_eq_true hk.2, q _ _ (.same (.int _))⟩
      · cases ho
  · cases ho
theorem se_sortset (hc : X.calm = true) (hu : X.A.units + 200 < cLine) (hg : Gl X "sorted") (hm : X.mg "sorted" = none) (hg2 : Gl X "set") (hm2 : X.mg "set" = none) (ha : SE X C a x) (hn : NS a) :
    SE X C (.Call (.Name "sorted" p) [.Call (.Name "set" p2) [a] [] p3] [] pos) (.bi .sortset (.cons x .nil)) := by
  have p1 : PE X (.Call (.Name "set" p2) [a] [] p3) _ := pe_callTy (cr_setIT hc hu) hg2 hm2 (by decide +kernel) (pa_cons ha pa_nil (hn [] X.env)) (by decide) (by decide) (hn [] X.env) rfl
  refine pe_imp (pe_callB (cr_sortedIT hc hu) hg hm (by decide +kernel) (pa_cons p1 pa_nil rfl) (by decide) (by decide) rfl rfl) fun σ H Q h => ?_
  obtain ⟨T, r, ws, r', E, h1, q⟩ := bi_core h
  obtain ⟨w, rfl, h4⟩ := evs_one h1
  refine ⟨T, r, w, r', E, h4, fun v H1 p => ?_⟩
  obtain ⟨N, ds, w', hd, ho, q⟩ := q [v] H1 p
  have hv : ∃ d, ds = [d] ∧ VR X.K H1 N v d := by
    cases hd with
    | cons h t => cases t; exact ⟨_, rfl, h⟩
  obtain ⟨d, rfl, hv⟩ := hv
  exact sortset_q hv ho q
theorem se_listrange (hc : X.calm = true) (hg : Gl X "list") (hm : X.mg "list" = none) (hg2 : Gl X "range") (hm2 : X.mg "range" = none) (ha : SE X C a x) (hn : NS a) :
    SE X C (.Call (.Name "list" p) [.Call (.Name "range" p2) [a] [] p3] [] pos) (.bi .listrange (.cons x .nil)) := by
  refine pe_imp (pe_listRg hc hg hm (prg_1 hg2 hm2 ha (hn [] X.env)) rfl) fun σ H Q h => ?_
  obtain ⟨T, r, ws, r', E, h1, q⟩ := bi_core h
  obtain ⟨w, rfl, h4⟩ := evs_one h1
  refine ⟨T, r, w, r', E, h4, fun v H1 p => ?_⟩
  obtain ⟨N, ds, w', hd, ho, q⟩ := q [v] H1 p
  replace ho : biListrange ds = some w' := ho
  unfold biListrange at ho
  split at ho
  · rename_i n
    split at ho
    · rename_i hk
      cases ho
      obtain ⟨v', e, hv⟩ := hd.one
      cases e
      cases vr_int hv
      refine ⟨n, rfl, ⟨by omega, by omega, by omega, by omega, by omega⟩, fun a ha => q _ _ ?_⟩
      have e : rgV 0 n = ((List.range n.toNat).map fun (k : Nat) => (k : Int)).map V.int := by
        unfold rgV
        rw [List.map_map, Int.sub_zero]
        refine List.map_congr_left fun k _ => ?_
        show V.int (0 + (k : Int)) = V.int (k : Int)
        rw [Int.zero_add]
      have e2 : (List.range n.toNat).map (fun (k : Nat) => D.int (k : Int)) = ((List.range n.toNat).map fun (k : Nat) => (k : Int)).map D.int := by
        rw [List.map_map]; rfl
      rw [e, e2]
      refine .list ha .ints ?_
      rw [List.length_map, List.length_map, List.length_range, sizeLine_eq]
      omega
    · cases ho
  · cases ho
theorem se_isi {t : Ty} {tn : Str} (ht : tn = tyS t) (hg : Gl X "isinstance") (hm : X.mg "isinstance" = none) (hg2 : Gl X tn) (hm2 : X.mg tn = none) (ha : SE X C a x) (hn : NS a) :
    SE X C (.Call (.Name "isinstance" p) [a, .Name tn p2] [] pos) (.isi x t) := by
  subst ht
  have hb : PE X (.Name (tyS t) p2) (tC (.ty (tyS t))) := by
    refine pe_bltn hg2 hm2 (u := .type (tyS t)) ?_ (show RelV (.ty (tyS t)) (.type (tyS t)) from rfl) ?_ ?_
    · cases t <;> decide +kernel
    · cases t <;> decide
    · cases t <;> decide
  refine pe_imp (pe_callB (cr_isi t) hg hm (by decide +kernel) (pa_cons ha (pa_cons hb pa_nil rfl) (hn _ _)) (by decide) (by decide) (hn _ _) rfl) fun σ H Q ⟨T, r, w, r', E, hr, q⟩ => ?_
  rw [ev] at hr
  obtain ⟨w1, r1, h1, h2⟩ := R.bind_inv hr
  obtain ⟨d, h3, h4⟩ := vw_inv h2
  obtain ⟨h5, rfl⟩ := R.ofO_inv h4
  cases hz : isTy t d with
  | none => rw [hz] at h5; cases h5
  | some k =>
    rw [hz] at h5; cases h5
    refine ⟨T, r, w1, _, E, h1, fun v H1 p => ?_⟩
    exact ⟨_, d, k, v, rfl, p.at0.view p.env h3, hz, q _ _ (p.op (.same (.bl _)))⟩

/-! ### a list that a name owns is changed -/
theorem mutL_inv {β : Type} {r r' : Env} {i : Nat} {f : Md → List D → R β} {k : β} (h : mutL r i f = .ok k r') : ∃ m xs, gets r i = .acc m xs ∧ m ≠ .lck ∧ f m xs = .ok k r' := by
  unfold mutL at h
  split at h
  · exact ⟨.free, _, by assumption, Md.noConfusion, h⟩
  · exact ⟨.fix, _, by assumption, Md.noConfusion, h⟩
  · cases h
section
variable {K : PySem.W.Frag} {H H1 : Hp} {T : Addr → Prop} {σ σ1 : L2.St} {r r1 : Env} {ws : List W} {vs : List V} {i : Nat} {m : Md} {xs : List D} {w : W} {v : V}
theorem Po.at_slot (p : Po K H T σ r σ1 r1 ws vs H1) (e : gets r1 i = .acc m xs) : ∃ a us, σ1[i]? = some (some (.ref a)) ∧ H1 a = some (.lst us) ∧ Reps K H1 (fun b => Tw T ws vs b ∨ Acc σ1 r1 b) us xs ∧ us.length = xs.length ∧ xs.length ≤ sizeLine := by
  obtain ⟨a, us, e1, _, e2, e3, e4⟩ := p.env.acc i m xs e
  exact ⟨a, us, e1, e2, e3, e3.length, e4⟩
theorem Po.non1 (p : Po K H T σ r σ1 r1 [] [] H1) : Po K H T σ r σ1 r1 [.val .non] [.non] H1 := p.op (.same .non)
end
variable {i : Nat} {n : Str}
/-- o.append(e): the list at a slot -/
theorem se_app (hN : X.N[i]? = some n) (hv : Vis X.env.scope n) (hd : (n == ("__debug__" : Str)) = false) (hcd : (n == ("__classdict__" : Str)) = false) (ha : SE X C e x) (hn : NS e) (hline : (apos.endLine == cpos.line) = true)
    (hb : attributeBase (.Name n p) "append" X.env (eval (.Name n p) X.env) = eval (.Name n p) X.env) :
    SE X C (.Call (.Attribute (.Name n p) "append" apos) [e] [] cpos) (.app i x) := by
  refine pe_imp (pe_bm PySem.F.plainAttrs_list PySem.F.slot_list_append PySem.F.type_list_append mt_append (pe_var hN hv hd hcd) (pa_cons ha pa_nil (hn [] X.env)) hb (by rw [hn]; rfl) hline (hn [] X.env) rfl)
    fun σ H Q ⟨T, r, w, r', E, hr, q⟩ => ?_
  rw [ev] at hr
  obtain ⟨m0, xs0, g0, n0, hr⟩ := mutL_inv hr
  obtain ⟨w1, r1, h1, h2⟩ := R.bind_inv hr
  obtain ⟨a, us0, e1, _, e2, _⟩ := E.acc i m0 xs0 g0
  refine ⟨_, e1, .inl ⟨rfl, us0, .inl (.inl e2)⟩, T, r, w1, r1, E, h1, fun v H1 p => ?_⟩
  split at h2
  · rename_i d
    obtain ⟨m, xs, g1, n1, h3⟩ := mutL_inv h2
    split at h3
    · rename_i hl
      cases h3
      obtain ⟨a', us, f1, f2, f3, f4, f5⟩ := p.at_slot g1
      rw [e1] at f1
      cases f1
      have hw : Rep X.K H1 _ v d := p.at0
      have hN : ∀ b, (Tw T [] [] b ∨ Acc σ r1 b) → (Tw T [.val d] [v] b ∨ Acc σ r1 b) := fun b z => z.imp (fun z => z.imp id fun z => by cases z) id
      refine ⟨a, us, v, rfl, rfl, f2, by rw [f4]; have := LIM_le; omega, q _ _ (Po.non1 (p.drop.mut g1 n1 e1 ((f3.anti hN).append (.cons (hw.anti hN) .nil)) ?_))⟩
      rw [List.length_append, List.length_singleton]
      have := LIM_le; omega
    · cases h3
  · cases h2
theorem se_ext (hN : X.N[i]? = some n) (hv : Vis X.env.scope n) (hd : (n == ("__debug__" : Str)) = false) (hcd : (n == ("__classdict__" : Str)) = false) (ha : SE X C e x) (hn : NS e) (hline : (apos.endLine == cpos.line) = true)
    (hb : attributeBase (.Name n p) "extend" X.env (eval (.Name n p) X.env) = eval (.Name n p) X.env) :
    SE X C (.Call (.Attribute (.Name n p) "extend" apos) [e] [] cpos) (.ext i x) := by
  refine pe_imp (pe_bm PySem.F.plainAttrs_list PySem.F.slot_list_extend PySem.F.type_list_extend mt_extend (pe_var hN hv hd hcd) (pa_cons ha pa_nil (hn [] X.env)) hb (by rw [hn]; rfl) hline (hn [] X.env) rfl)
    fun σ H Q ⟨T, r, w, r', E, hr, q⟩ => ?_
  rw [ev] at hr
  obtain ⟨m0, xs0, g0, n0, hr⟩ := mutL_inv hr
  obtain ⟨w1, r1, h1, h2⟩ := R.bind_inv hr
  obtain ⟨a, us0, e1, _, e2, _⟩ := E.acc i m0 xs0 g0
  refine ⟨_, e1, .inl ⟨rfl, us0, .inl (.inl e2)⟩, T, r, w1, r1, E, h1, fun v H1 p => ?_⟩
  obtain ⟨d, hvw, h2⟩ := vw_inv h2
  split at h2
  · rename_i zs
    obtain ⟨m, xs, g1, n1, h3⟩ := mutL_inv h2
    split at h3
    · rename_i hl
      cases h3
      obtain ⟨a', us, f1, f2, f3, f4, f5⟩ := p.at_slot g1
      rw [e1] at f1
      cases f1
      obtain ⟨b, bs, rfl, b1, b2, b3⟩ := p.at0.view p.env hvw
      have hN : ∀ b', (Tw T [] [] b' ∨ Acc σ r1 b') → (Tw T [w1] [.ref b] b' ∨ Acc σ r1 b') := fun b z => z.imp (fun z => z.imp id fun z => by cases z) id
      refine ⟨a, b, us, bs, rfl, rfl, f2, b1, by rw [f4, b2.length]; have := LIM_le; omega, q _ _ (Po.non1 (p.drop.mut g1 n1 e1 ((f3.anti hN).append (b2.anti hN)) ?_))⟩
      rw [List.length_append]
      have := LIM_le; omega
    · cases h3
  · cases h2
theorem se_pop (hN : X.N[i]? = some n) (hv : Vis X.env.scope n) (hd : (n == ("__debug__" : Str)) = false) (hcd : (n == ("__classdict__" : Str)) = false) (hline : (apos.endLine == cpos.line) = true)
    (hb : attributeBase (.Name n p) "pop" X.env (eval (.Name n p) X.env) = eval (.Name n p) X.env) :
    SE X C (.Call (.Attribute (.Name n p) "pop" apos) [] [] cpos) (.pop i) := by
  refine pe_imp (pe_bm0 PySem.F.plainAttrs_list PySem.F.slot_list_pop PySem.F.type_list_pop mt_pop (pe_var hN hv hd hcd) hb hline) fun σ H Q ⟨T, r, w, r', E, hr, q⟩ => ?_
  rw [ev] at hr
  obtain ⟨m, xs, g, nl, hr⟩ := mutL_inv hr
  obtain ⟨a, us, e1, nT, e2, e3, e4⟩ := E.acc i m xs g
  split at hr
  · rename_i d hl
    cases hr
    have hd : xs[xs.length - 1]? = some d := by rw [← hl, List.getLast?_eq_getElem?]
    obtain ⟨v, g1, g2⟩ := e3.get hd
    refine ⟨_, e1, .inl ⟨rfl, us, .inl (.inl e2)⟩, a, us, v, rfl, rfl, e2, by rw [e3.length]; exact g1, q _ _ ?_⟩
    have hz : xs.dropLast.length ≤ sizeLine := by rw [List.length_dropLast]; omega
    have p := Po.val0 E g2
    exact p.mut g nl e1 (Reps.anti e3.dropLast fun b z => z.imp (fun z => z.elim id fun z => by cases z) id) hz
  · cases hr
theorem ixN_seq {n k : Nat} {j : Int} (h : MP.ixN n j = some k) : seqIndex? j n = some k ∧ k < n ∧ -(n : Int) ≤ j ∧ j < n := by
  unfold MP.ixN at h
  unfold seqIndex?
  split at h
  · rename_i h0
    split at h
    · rename_i h1
      cases h
      refine ⟨?_, by omega, by omega, h1⟩
      rw [if_neg (show ¬ j < 0 by omega)]
      rw [if_pos (show (decide (0 ≤ j) && decide (j < (n : Int))) = true by rw [decide_eq_true h0, decide_eq_true h1]; rfl)]
    · cases h
  · rename_i h0
    split at h
    · rename_i h1
      cases h
      refine ⟨?_, by omega, h1, by omega⟩
      rw [if_pos (show j < 0 by omega)]
      rw [if_pos (show (decide (0 ≤ j + (n : Int)) && decide (j + (n : Int) < (n : Int))) = true by rw [decide_eq_true (by omega), decide_eq_true (by omega)]; rfl)]
    · cases h
theorem se_popAt (hN : X.N[i]? = some n) (hv : Vis X.env.scope n) (hd : (n == ("__debug__" : Str)) = false) (hcd : (n == ("__classdict__" : Str)) = false) (ha : SE X C e x) (hn : NS e) (hline : (apos.endLine == cpos.line) = true)
    (hb : attributeBase (.Name n p) "pop" X.env (eval (.Name n p) X.env) = eval (.Name n p) X.env) :
    SE X C (.Call (.Attribute (.Name n p) "pop" apos) [e] [] cpos) (.popAt i x) := by
  refine pe_imp (pe_bm PySem.F.plainAttrs_list PySem.F.slot_list_pop PySem.F.type_list_pop mt_popAt (pe_var hN hv hd hcd) (pa_cons ha pa_nil (hn [] X.env)) hb (by rw [hn]; rfl) hline (hn [] X.env) rfl)
    fun σ H Q ⟨T, r, w, r', E, hr, q⟩ => ?_
  rw [ev] at hr
  obtain ⟨m0, xs0, g0, n0, hr⟩ := mutL_inv hr
  obtain ⟨w1, r1, h1, h2⟩ := R.bind_inv hr
  obtain ⟨a, us0, e1, _, e2, _⟩ := E.acc i m0 xs0 g0
  refine ⟨_, e1, .inl ⟨rfl, us0, .inl (.inl e2)⟩, T, r, w1, r1, E, h1, fun v H1 p => ?_⟩
  split at h2
  · rename_i j
    cases p.intv
    obtain ⟨m, xs, g, nl, h3⟩ := mutL_inv h2
    obtain ⟨a', us, f1, f2, f3, f4, f5⟩ := p.at_slot g
    rw [e1] at f1
    cases f1
    cases hk : ixN xs.length j with
    | none => rw [hk] at h3; cases h3
    | some k =>
      rw [hk] at h3
      obtain ⟨k1, k2, k3, k4⟩ := ixN_seq hk
      have hx : xs[k]? = some xs[k] := List.getElem?_eq_getElem k2
      simp only [Option.bind_some, hx, Option.map_some] at h3
      cases h3
      obtain ⟨v, g1, g2⟩ := f3.get hx
      have hz : xs.length ≤ 16777216 := by rw [← sizeLine_eq]; exact f5
      refine ⟨a, us, j, k, v, rfl, rfl, f2, by omega, by omega, by rw [f4]; exact k1, g1, q _ _ ?_⟩
      have hz : (xs.eraseIdx k).length ≤ sizeLine := by have := len_erase xs k; omega
      have p2 := p.op (w := .val xs[k]) (v := v) (.same g2)
      refine p2.mut g nl e1 (Reps.anti (f3.erase k) fun b z => z.imp (fun z => z.imp id fun z => ?_) id) hz
      cases z
  · cases h2

/-! ### calls -/
/-- the promise: what MP says -/
def spF (K : PySem.W.Frag) (C : CallF) (f m : Nat) : Sp := fun vs H Q _ => vs.length = m ∧ ∃ T ss w out, ER K H T (vs.map some) ss ∧ (∀ i m xs, gets ss i = .acc m xs → m = .fix) ∧ C f ss = .ok w out ∧ (∀ k, w ≠ .slot k) ∧ ∀ v H', Po K H T (vs.map some) ss (vs.map some) out [w] [v] H' → Q v H'
theorem evs_lenA {ys : E} {r r' : Env} {ws : List W} (h : evs C ys r = .ok ws r') : ∀ {vs : List V} {K : PySem.W.Frag} {H : Hp} {T : Addr → Prop} {σ : L2.St}, WRs K H T σ r' ws vs → ws.length = vs.length := fun q => q.length
theorem back_inv {ws : List W} {r r' : Env} {q : R W} {w : W} (h : q.back ws r = .ok w r') : ∃ out, q = .ok w out ∧ (∀ k, w ≠ .slot k) ∧ r' = backArgs ws out r := by
  cases q with
  | ok u out =>
    cases u with
    | val d => cases h; exact ⟨out, rfl, fun _ z => (nomatch z), rfl⟩
    | own xs => cases h; exact ⟨out, rfl, fun _ z => (nomatch z), rfl⟩
    | slot i => cases h
  | exc u out => cases h
  | no => cases h
theorem call_core {f m : Nat} {σ : L2.St} {H : Hp} {Q : VK} {E' : XK} (hm : ∀ ss w out, C f ss = .ok w out → ss.length = m) (h : rdE X.K C (.call f ys) σ H Q) : tCall (spF X.K C f m) [] E' (rdA X.K C ys) σ H Q := by
  obtain ⟨T, r, w, r', E, hr, q⟩ := h
  rw [ev] at hr
  obtain ⟨ws, r1, h1, h2⟩ := R.bind_inv hr
  split at h2
  · rename_i ss hs
    split at h2
    · rename_i hnd
      obtain ⟨out, h3, h4, rfl⟩ := back_inv h2
      refine ⟨T, r, ws, r1, E, h1, fun vs H1 p => ?_⟩
      have hl := p.res.length
      have hsl := argsS_len hs
      have nd := nodupN_iff hnd
      have fix : ∀ i m xs, gets ss i = .acc m xs → m = .fix := fun i m xs e => by
        obtain ⟨w', v', _, _, _, h5⟩ := argsS_at i hs p.res (by rw [e]; exact Sl.noConfusion)
        rw [e] at h5
        rcases argS_cases h5 with ⟨d, _, z⟩ | ⟨_, _, _, _, _, _, z⟩
        · cases z
        · cases z; rfl
      refine ⟨by rw [List.append_nil, ← hl, ← hsl]; exact hm _ _ _ h3, _, ss, w, out, by rw [List.append_nil]; exact p.args hs nd, fix, h3, h4, fun v H' p' => q v H' (p.call hs nd (by rw [List.append_nil] at p'; exact p') h4)⟩
    · cases h2
  · cases h2
/-- what is known of a def -/
structure Kn (X : Cx) (C : CallF) (f : Nat) (n : Str) (m : Nat) : Prop where
  ex : ∃ (a : Addr) (fd : FuncData) (ps : List Str) (k : Nat), FnOk X.prog X.w X.K X.mg X.base CX0 k a fd ps (spF X.K C f m) ∧ Room k X.A ∧ X.mg n = some (.ref a) ∧ PySem.W.keepIn X.K (.ref a) = true ∧ Binds X.K fd ps []
  len : ∀ ss w out, C f ss = .ok w out → ss.length = m
  db : (n == ("__debug__" : Str)) = false
theorem se_call {f m : Nat} (K : Kn X C f n m) (hg : Gl X n) (ha : SA X C (e :: es) ys) (hn : NS e) (hr : ∀ e ∈ es, NS e) : SE X C (.Call (.Name n p) (e :: es) [] pos) (.call f ys) := by
  obtain ⟨a, fd, ps, k, F, rm, mg, kp, bd⟩ := K.ex
  exact pe_imp (pe_call F rm hg mg kp bd .nil (E := fun _ _ _ => False) pass0 ha K.db (hn es X.env) (backTo_any hr)) fun σ H Q h => call_core K.len h
theorem se_call0 {f m : Nat} (K : Kn X C f n m) (hg : Gl X n) : SE X C (.Call (.Name n p) [] [] pos) (.call f .nil) := by
  obtain ⟨a, fd, ps, k, F, rm, mg, kp, bd⟩ := K.ex
  refine pe_imp (pe_call0 F rm hg mg kp bd .nil (E := fun _ _ _ => False) pass0 K.db) fun σ H Q h => ?_
  obtain ⟨T, r, ws, r', E, h1, q⟩ := call_core (E' := fun _ _ _ => False) K.len h
  rw [evs] at h1
  cases h1
  exact q [] H (.refl E)
end
end MP

-- part Mp11
set_option maxHeartbeats 1000000
/-! Statements, defs. -/
namespace MP
open PySem PySem.Spec PyProof.Rows L2

/-- what is wanted of an end -/
def En (K : PySem.W.Frag) (H : Hp) (T : Addr → Prop) (σ : L2.St) (r : Env) (D : Ends) : Fl → Env → Prop
  | .next, r' => ∀ σ' H', Po K H T σ r σ' r' [] [] H' → D.nx σ' H'
  | .ret w, r' => ∀ v σ' H', Po K H T σ r σ' r' [w] [v] H' → D.rt v H'
  | .brk, r' => ∀ σ' H', Po K H T σ r σ' r' [] [] H' → D.bk σ' H'
def rdS (K : PySem.W.Frag) (C : CallF) (s : S) : TS := fun D σ H => ∃ T r f r', ER K H T σ r ∧ ex C s r = .ok f r' ∧ En K H T σ r D f r'
abbrev SS (X : Cx) (C : CallF) (st : Stmt) (s : S) : Prop := PS X st (rdS X.K C s)
abbrev SSs (X : Cx) (C : CallF) (sts : List Stmt) (s : S) : Prop := PSs X sts (rdS X.K C s)
section
variable {K : PySem.W.Frag} {H H' H1 H2 : Hp} {T T' : Addr → Prop} {σ σ' σ1 σ2 : L2.St} {r r' r1 r2 : Env} {ws us : List W} {vs zs : List V} {w x y : W} {v : V} {i j : Nat} {d : D} {D : Ends} {f : Fl}
theorem En.next (p : Po K H T σ r σ1 r1 [] [] H1) (e : En K H T σ r D f r') : En K H1 T σ1 r1 D f r' := by
  cases f with
  | next => exact fun σ' H' q => e σ' H' (p.next q)
  | ret w => exact fun v σ' H' q => e v σ' H' (p.next q)
  | brk => exact fun σ' H' q => e σ' H' (p.next q)
/-- a result that is a value of a name, as a value -/
theorem Po.asVal (p : Po K H T σ r σ1 r1 [w] [v] H1) (e : view r1 w = some d) (hd : ∀ xs, d ≠ .lst xs) : Po K H T σ r σ1 r1 [.val d] [v] H1 := by
  cases w with
  | val d' => cases e; exact p
  | own xs => cases e; exact (hd xs rfl).elim
  | slot i =>
    refine p.take ?_
    unfold view at e
    unfold MP.take
    dsimp only at e ⊢
    split at e
    · cases e
      rename_i d' h
      rw [h]
    · cases e; exact (hd _ rfl).elim
    · cases e
/-- a name's list let go -/
theorem Po.fz (p : Po K H T σ r σ1 r1 [] [] H1) (e : MP.take (.slot i) r1 = .ok d r2) : Po K H T σ r σ1 r2 [] [] H1 := by
  have E := p.env0
  have hv : ∃ v, σ1[i]? = some (some v) := by
    rcases take_slot e with ⟨q, _⟩ | ⟨xs, q, _⟩
    · obtain ⟨v, e1, _⟩ := E.val i d q
      exact ⟨v, e1⟩
    · obtain ⟨a, vs, e1, _⟩ := E.acc i _ xs q
      exact ⟨_, e1⟩
  obtain ⟨v, hv⟩ := hv
  exact p.next ((Po.slot0 E hv).take e).drop
end
section
variable {X : Cx} {C : CallF} {e a b c o : Expr} {x y z ys : E} {s s1 s2 : S} {st : Stmt} {sts : List Stmt} {p px py p2 p3 pos apos cpos : Pos} {es : List Expr} {i j l : Nat} {n m k : Str}
theorem ss_nil : SSs X C [] .skip := by
  refine pss_imp pss_nil fun D σ H ⟨T, r, f, r', E, h, q⟩ => ?_
  rw [ex] at h
  cases h
  exact q σ H (.refl E)
theorem ss_one (h : SS X C st s) : SSs X C [st] s := pss_one h
theorem ss_cons (h1 : SS X C st s1) (h2 : SSs X C sts s2) : SSs X C (st :: sts) (.seq s1 s2) := by
  refine pss_imp (pss_cons h1 h2) fun D σ H ⟨T, r, f, r', E, h, q⟩ => ?_
  rw [ex] at h
  obtain ⟨f1, r1, h3, h4⟩ := R.bind_inv h
  refine ⟨T, r, f1, r1, E, h3, ?_⟩
  cases f1 with
  | next => exact fun σ' H' p => ⟨T, r1, f, r', p.env0, h4, q.next p⟩
  | ret w => cases h4; exact q
  | brk => cases h4; exact q
theorem ss_pass : SS X C (.Pass pos) .skip := by
  refine ps_imp ps_pass fun D σ H ⟨T, r, f, r', E, h, q⟩ => ?_
  rw [ex] at h
  cases h
  exact q σ H (.refl E)
theorem ss_doc {t : Str} {jj : Nat} : SS X C (.Expr (.Constant (.str t) jj p) pos) .skip := by
  refine ps_imp ps_doc fun D σ H ⟨T, r, f, r', E, h, q⟩ => ?_
  rw [ex] at h
  cases h
  exact q σ H (.refl E)
theorem ss_brk : SS X C (.Break pos) .brk := by
  refine ps_imp ps_break fun D σ H ⟨T, r, f, r', E, h, q⟩ => ?_
  rw [ex] at h
  cases h
  exact q σ H (.refl E)
theorem ss_dead : SS X C st .dead := by
  refine ps_imp ps_never fun D σ H ⟨T, r, f, r', E, h, q⟩ => ?_
  rw [ex] at h
  cases h
theorem sss_dead : SSs X C sts .dead := by
  refine pss_imp pss_never fun D σ H ⟨T, r, f, r', E, h, q⟩ => ?_
  rw [ex] at h
  cases h
theorem ss_fz (h : SS X C st s) : SS X C st (.fz s i) := by
  refine ps_imp h fun D σ H ⟨T, r, f, r', E, hx, q⟩ => ?_
  rw [ex] at hx
  obtain ⟨f1, r1, h1, h2⟩ := R.bind_inv hx
  cases f1 with
  | next =>
    obtain ⟨d, r2, h3, h4⟩ := R.bind_inv h2
    cases h4
    exact ⟨T, r, .next, r1, E, h1, fun σ' H' p => q σ' H' (p.fz h3)⟩
  | ret w => cases h2
  | brk => cases h2
theorem ss_expr (h : SE X C e x) (hs : swapsWith e none pos.line X.env = pure false) : SS X C (.Expr e pos) (.expr x) := by
  refine ps_imp (ps_expr h hs) fun D σ H ⟨T, r, f, r', E, h, q⟩ => ?_
  rw [ex] at h
  obtain ⟨w, r1, h1, h2⟩ := R.bind_inv h
  cases h2
  exact ⟨T, r, w, _, E, h1, fun v H' p => q σ H' p.drop⟩
theorem ss_ret (h : SE X C e x) : SS X C (.Return (some e) pos) (.ret x) := by
  refine ps_imp (ps_ret h) fun D σ H ⟨T, r, f, r', E, h, q⟩ => ?_
  rw [ex] at h
  obtain ⟨w, r1, h1, h2⟩ := R.bind_inv h
  cases h2
  exact ⟨T, r, w, _, E, h1, fun v H' p => q v σ H' p⟩
theorem ss_retn : SS X C (.Return none pos) .retn := by
  refine ps_imp ps_retN fun D σ H ⟨T, r, f, r', E, h, q⟩ => ?_
  rw [ex] at h
  cases h
  exact q _ σ H (.val0 E .non)
theorem ss_if {as bs : List Stmt} (hc : ST X C c x) (ha : SSs X C as s1) (hb : SSs X C bs s2) : SS X C (.If c as bs pos) (.ite x s1 s2) := by
  refine ps_imp (ps_if hc ha hb) fun D σ H ⟨T, r, f, r', E, h, q⟩ => ?_
  rw [ex] at h
  obtain ⟨t, r1, h1, h2⟩ := R.bind_inv h
  refine ⟨T, r, t, r1, E, h1, fun H1 p => ?_⟩
  cases t with
  | true => exact ⟨T, r1, f, r', p.env0, h2, q.next p⟩
  | false => exact ⟨T, r1, f, r', p.env0, h2, q.next p⟩

/-! ### stores -/
theorem set_core {σ : L2.St} {H : Hp} {D : Ends} (h : rdS X.K C (.asn (.nm i) x) D σ H) : tAsg (rdE X.K C x) (gName i) D σ H := by
  obtain ⟨T, r, f, r', E, h, q⟩ := h
  rw [ex] at h
  obtain ⟨w, r1, h1, h2⟩ := R.bind_inv h
  obtain ⟨u, r2, h3, h4⟩ := R.bind_inv h2
  cases h4
  exact ⟨T, r, w, r1, E, h1, fun v H' p => q _ H' (p.putW h3 (by simp [slotsOf]))⟩
theorem ss_set (hN : X.N.Nodup) (hi : X.N[i]? = some n) (hs : Sto X n) (h : SE X C e x) (hw : swapsWith e (some (.Name n px)) pos.line X.env = pure false) : SS X C (.Assign [.Name n px] e pos) (.asn (.nm i) x) :=
  ps_imp (ps_set hN hi hs.1 h hw hs.2) fun D σ H h => set_core h
theorem ss_setLc {elt tg iter : Expr} {ifs : List Expr} {scope : Scope} {own : List (Str × Nat)} {t : Tg} {k : Ik} {ys c' : E} {spos : Pos} (hc : X.calm = true) (hN : X.N.Nodup) (hi : X.N[i]? = some n) (hl : X.env.scope.names.lookup n = some .local)
    (hsw : swapsWith (.ListComp elt [⟨tg, iter, ifs, 0⟩] scope pos) (some (.Name n px)) spos.line X.env = pure true) (hit : SI X C tg k iter ys) (ok : BlkOk X.N X.env.scope scope own)
    (hg : ∀ (s : Shared) (H : Hp) (D : Addr) (cl : List (Str × Addr)) (fp : List Addr), SG (X.blk s H scope (compEnvC scope cl D X.env) fp) tg t) (ht : ∀ (s : Shared) (H : Hp) (D : Addr) (cl : List (Str × Addr)) (fp : List Addr), STs (X.blk s H scope (compEnvC scope cl D X.env) fp) C ifs c')
    (he : ∀ (s : Shared) (H : Hp) (D : Addr) (cl : List (Str × Addr)) (fp : List Addr), SE (X.blk s H scope (compEnvC scope cl D X.env) fp) C elt x) (hs : ∀ x, foldedSetIterable iter X.env x = pure x)
    (hown : ∀ i ∈ tgS t, i ∈ own.map (·.2)) : SS X C (.Assign [.Name n px] (.ListComp elt [⟨tg, iter, ifs, 0⟩] scope pos) spos) (.asn (.nm i) (.lc t k ys c' x (own.map (·.2)))) := by
  refine ps_imp (ps_setLc (te := rdE X.K C x) (tt := rdT X.K C c') (g := rdG X.K t) hc hN hi hl hsw hit ok hg ht he hs) fun D σ H h => ?_
  obtain ⟨T, r, w, r', E, h1, q⟩ := set_core h
  exact lc_imp hown ⟨T, r, w, r', E, h1, q⟩
theorem ss_asgT {tg : Expr} {t : Tg} (h : SE X C e x) (hg : SG X tg (.tp t)) (hs : swapsWithSole [tg] e pos.line X.env = pure false) (hw : swappedStores [tg] e X.env = pure none) (h1 : (assignEach [tg] X.env).map (·.2) = [assign tg X.env]) : SS X C (.Assign [tg] e pos) (.asn (.tp t) x) := by
  refine ps_imp (ps_asg h hg hs hw h1) fun D σ H ⟨T, r, f, r', E, h, q⟩ => ?_
  rw [ex] at h
  obtain ⟨w, r1, h1, h2⟩ := R.bind_inv h
  obtain ⟨d, h3, h4⟩ := vw_inv h2
  split at h4
  · rename_i ds
    obtain ⟨r2, r3, h5, h6⟩ := R.bind_inv h4
    obtain ⟨h7, rfl⟩ := R.ofO_inv h5
    cases h6
    refine ⟨T, r, w, _, E, h1, fun v H1 p => ⟨H, T, σ, r, [], [], _, _, _, p.asVal h3 (fun xs z => nomatch z), rfl, h7, fun σ2 p2 _ _ => q σ2 H1 p2⟩⟩
  · cases h4
theorem putWs_two {i j : Nat} {ws : List W} {r r' : Env} {u : Unit} (h : putWs (.cons (.nm i) (.cons (.nm j) .nil)) ws r = .ok u r') : ∃ w1 w2 r1, ws = [w1, w2] ∧ i ∉ slotsOf [w2] ∧ putW r i w1 = .ok () r1 ∧ putW r1 j w2 = .ok () r' := by
  match ws, h with
  | [], h => cases h
  | w :: ws, h =>
    rw [putWs] at h
    split at h
    · cases h
    · rename_i hs
      obtain ⟨_, r1, h1, h2⟩ := R.bind_inv h
      match ws, h2 with
      | [], h2 => cases h2
      | w2 :: ws, h2 =>
        rw [putWs] at h2
        split at h2
        · cases h2
        · obtain ⟨_, r2, h3, h4⟩ := R.bind_inv h2
          match ws, h4 with
          | [], h4 => cases h4; exact ⟨w, w2, r1, rfl, by simpa using hs, h1, h3⟩
          | _ :: _, h4 => cases h4
theorem ss_par {pt pt2 : Pos} {kt k2 : Nat} (hc : X.calm = true) (hN : X.N.Nodup) (hi : X.N[i]? = some n) (hj : X.N[j]? = some m) (hij : i ≠ j) (hx : X.env.scope.names.lookup n = some .local) (hy : X.env.scope.names.lookup m = some .local)
    (ha : SA X C [a, b] ys) (hw : swappedStores [.Tuple [.Name n px, .Name m py] kt pt] (.Tuple [a, b] k2 pt2) X.env = pure (some [n, m])) :
    SS X C (.Assign [.Tuple [.Name n px, .Name m py] kt pt] (.Tuple [a, b] k2 pt2) pos) (.par (.cons (.nm i) (.cons (.nm j) .nil)) ys) := by
  refine ps_imp (ps_par hc hN hi hj hij hx hy ha hw rfl) fun D σ H ⟨T, r, f, r', E, h, q⟩ => ?_
  rw [ex] at h
  obtain ⟨ws, r1, h1, h2⟩ := R.bind_inv h
  obtain ⟨u, r2, h3, h4⟩ := R.bind_inv h2
  cases h4
  obtain ⟨w1, w2, r3, rfl, hs, h5, h6⟩ := putWs_two h3
  refine ⟨T, r, _, r1, E, h1, fun vs H1 p => ?_⟩
  match vs, p.res.length with
  | [v, u], _ => exact ⟨v, u, rfl, q _ _ ((p.putW h5 hs).putW h6 (by simp [slotsOf]))⟩
theorem putWs_three {i j l : Nat} {ws : List W} {r r' : Env} {u : Unit} (h : putWs (.cons (.nm i) (.cons (.nm j) (.cons (.nm l) .nil))) ws r = .ok u r') :
    ∃ w1 w2 w3 r1 r2, ws = [w1, w2, w3] ∧ i ∉ slotsOf [w2, w3] ∧ j ∉ slotsOf [w3] ∧ putW r i w1 = .ok () r1 ∧ putW r1 j w2 = .ok () r2 ∧ putW r2 l w3 = .ok () r' := by
  match ws, h with
  | [], h => cases h
  | w :: ws, h =>
    rw [putWs] at h
    split at h
    · cases h
    · rename_i hs
      obtain ⟨_, r1, h1, h2⟩ := R.bind_inv h
      obtain ⟨w1, w2, r2, rfl, g1, g2, g3⟩ := putWs_two h2
      exact ⟨w, w1, w2, r1, r2, rfl, by simpa using hs, g1, h1, g2, g3⟩
theorem ss_par3 {pz : Pos} {pt pt2 : Pos} {kt k2 : Nat} (hc : X.calm = true) (hN : X.N.Nodup) (hi : X.N[i]? = some n) (hj : X.N[j]? = some m) (hl : X.N[l]? = some k) (hij : i ≠ j) (hil : i ≠ l) (hjl : j ≠ l)
    (hx : X.env.scope.names.lookup n = some .local) (hy : X.env.scope.names.lookup m = some .local) (hz : X.env.scope.names.lookup k = some .local)
    (ha : SA X C [a, b, c] ys) (hw : swappedStores [.Tuple [.Name n px, .Name m py, .Name k pz] kt pt] (.Tuple [a, b, c] k2 pt2) X.env = pure (some [n, m, k])) :
    SS X C (.Assign [.Tuple [.Name n px, .Name m py, .Name k pz] kt pt] (.Tuple [a, b, c] k2 pt2) pos) (.par (.cons (.nm i) (.cons (.nm j) (.cons (.nm l) .nil))) ys) := by
  refine ps_imp (ps_par3 hc hN hi hj hl hij hil hjl hx hy hz ha hw rfl) fun D σ H ⟨T, r, f, r', E, h, q⟩ => ?_
  rw [ex] at h
  obtain ⟨ws, r1, h1, h2⟩ := R.bind_inv h
  obtain ⟨u, r2, h3, h4⟩ := R.bind_inv h2
  cases h4
  obtain ⟨w1, w2, w3, r3, r4, rfl, hs, hs2, h5, h6, h7⟩ := putWs_three h3
  refine ⟨T, r, _, r1, E, h1, fun vs H1 p => ?_⟩
  match vs, p.res.length with
  | [v, u, z], _ => exact ⟨v, u, z, rfl, q _ _ (((p.putW h5 hs).putW h6 hs2).putW h7 (by simp [slotsOf]))⟩
/-- a thing more that nobody sees -/
theorem Po.more {K : PySem.W.Frag} {H H1 : Hp} {T : Addr → Prop} {σ σ1 : L2.St} {r r1 : Env} {ws : List W} {vs : List V} {a : Addr} {o : HO} (p : Po K H T σ r σ1 r1 ws vs H1) (ha : H1 a = none) : Po K H T σ r σ1 r1 ws vs (upd H1 a o) where
  t0 := p.t0
  frame := fun b u e n => upd_grow ha b u (p.frame b u e n)
  pers := fun b h => by
    cases q : H1 b with
    | none => exact (p.pers b h q).elim
    | some u => rw [upd_grow ha b u q]; exact Option.some_ne_none _
  env := p.env.grow (upd_grow ha) (fun b z => .inl z) fun b z => by
    cases q : H1 b with
    | none => exact (p.env.tal b z q).elim
    | some u => rw [upd_grow ha b u q]; exact Option.some_ne_none _
  res := p.res.stab p.env (fun b u e _ => upd_grow ha b u e) (fun _ z => .inl z) (fun _ z => z) (fun _ z => .inl z) fun _ _ => rfl
  fresh := p.fresh
  nd := p.nd
  news := p.news
  mun := p.mun
  keep := p.keep
/-- a, b = x, y by way of the tuple -/
theorem ss_parT {pt pt2 : Pos} {kt k2 : Nat} (hc : X.calm = true) (hN : X.N.Nodup) (hi : X.N[i]? = some n) (hj : X.N[j]? = some m) (hx : Sto X n) (hy : Sto X m)
    (ha : SA X C [a, b] ys) (hw : swappedStores [.Tuple [.Name n px, .Name m py] kt pt] (.Tuple [a, b] k2 pt2) X.env = pure none) :
    SS X C (.Assign [.Tuple [.Name n px, .Name m py] kt pt] (.Tuple [a, b] k2 pt2) pos) (.par (.cons (.nm i) (.cons (.nm j) .nil)) ys) := by
  have G : PG X (.Tuple [.Name n px, .Name m py] kt pt) _ := pg_tup (n := 2) hc (pgs_cons (pg_name hN hi hx.1 hx.2) (pgs_cons (pg_name hN hj hy.1 hy.2) pgs_nil))
  refine ps_imp (ps_asg (pe_tup ha) G rfl hw rfl) fun D σ H ⟨T, r, f, r', E, h, q⟩ => ?_
  rw [ex] at h
  obtain ⟨ws, r1, h1, h2⟩ := R.bind_inv h
  obtain ⟨u, r2, h3, h4⟩ := R.bind_inv h2
  cases h4
  obtain ⟨w1, w2, r3, rfl, hs, h5, h6⟩ := putWs_two h3
  refine ⟨T, r, _, r1, E, h1, fun vs H1 p => ?_⟩
  match vs, p.res.length, p with
  | [v, u], _, p => exact ⟨by rw [sizeLine_eq]; exact (by decide : (2 : Nat) ≤ 16777216), fun pa hpa => ⟨pa, _, rfl, .inl (.inl upd_same), rfl, _, _, rfl, _, _, rfl, rfl, q _ _ (((p.more hpa).putW h5 hs).putW h6 (by simp [slotsOf]))⟩⟩
theorem ss_parT3 {pz : Pos} {pt pt2 : Pos} {kt k2 : Nat} (hc : X.calm = true) (hN : X.N.Nodup) (hi : X.N[i]? = some n) (hj : X.N[j]? = some m) (hl : X.N[l]? = some k) (hx : Sto X n) (hy : Sto X m) (hz : Sto X k)
    (ha : SA X C [a, b, c] ys) (hw : swappedStores [.Tuple [.Name n px, .Name m py, .Name k pz] kt pt] (.Tuple [a, b, c] k2 pt2) X.env = pure none) :
    SS X C (.Assign [.Tuple [.Name n px, .Name m py, .Name k pz] kt pt] (.Tuple [a, b, c] k2 pt2) pos) (.par (.cons (.nm i) (.cons (.nm j) (.cons (.nm l) .nil))) ys) := by
  have G : PG X (.Tuple [.Name n px, .Name m py, .Name k pz] kt pt) _ := pg_tup (n := 3) hc (pgs_cons (pg_name hN hi hx.1 hx.2) (pgs_cons (pg_name hN hj hy.1 hy.2) (pgs_cons (pg_name hN hl hz.1 hz.2) pgs_nil)))
  refine ps_imp (ps_asg (pe_tup ha) G rfl hw rfl) fun D σ H ⟨T, r, f, r', E, h, q⟩ => ?_
  rw [ex] at h
  obtain ⟨ws, r1, h1, h2⟩ := R.bind_inv h
  obtain ⟨u, r2, h3, h4⟩ := R.bind_inv h2
  cases h4
  obtain ⟨w1, w2, w3, r3, r4, rfl, hs, hs2, h5, h6, h7⟩ := putWs_three h3
  refine ⟨T, r, _, r1, E, h1, fun vs H1 p => ?_⟩
  match vs, p.res.length, p with
  | [v, u, z], _, p => exact ⟨by rw [sizeLine_eq]; exact (by decide : (3 : Nat) ≤ 16777216), fun pa hpa => ⟨pa, _, rfl, .inl (.inl upd_same), rfl, _, _, rfl, _, _, rfl, _, _, rfl, rfl, q _ _ ((((p.more hpa).putW h5 hs).putW h6 hs2).putW h7 (by simp [slotsOf]))⟩⟩
/-- o[i] = v, the list at a slot -/
theorem ss_setix (hN : X.N[i]? = some n) (hv : Vis X.env.scope n) (hd : (n == ("__debug__" : Str)) = false) (hcd : (n == ("__classdict__" : Str)) = false) (he : SE X C e x) (ha : SE X C a y)
    (hs : swapsWithSole [.Subscript (.Name n px) a p2] e pos.line X.env = pure false) (hw : swappedStores [.Subscript (.Name n px) a p2] e X.env = pure none)
    (hb : ∀ v, assign (.Subscript (.Name n px) a p2) X.env v = (do
      let ov ← holding [v] (eval (.Name n px) X.env)
      let iv ← holding [v, ov] (eval a X.env)
      standAt p2
      holding [v, ov, iv] (setItem ov iv v)
      release [v, ov, iv] [])) :
    SS X C (.Assign [.Subscript (.Name n px) a p2] e pos) (.setix i y x) := by
  refine ps_imp (ps_asg he (pg_sub (pe_var hN hv hd hcd) ha set_list hb) hs hw rfl) fun D σ H ⟨T, r, f, r', E, h, q⟩ => ?_
  rw [ex] at h
  obtain ⟨w1, r1, h1, h2⟩ := R.bind_inv h
  obtain ⟨m0, xs0, g0, n0, h2'⟩ := mutL_inv h2
  obtain ⟨w2, r2, h3, h4⟩ := R.bind_inv h2'
  clear h2 h2'
  split at h4
  · rename_i d k
    obtain ⟨m, xs, g, nl, h5⟩ := mutL_inv h4
    split at h5
    · rename_i jj hj
      cases h5
      refine ⟨T, r, _, r1, E, h1, fun v1 H1 p1 => ?_⟩
      obtain ⟨a0, us0, hav, _⟩ := p1.at_slot g0
      refine ⟨.ref a0, hav, _, r1, _, r2, p1.env, h3, fun v2 H2 p2 => ?_⟩
      · have pp := p1.trans p2 fun _ _ => rfl
        obtain ⟨aa, us, f1, f2, f3, f4, f5⟩ := pp.at_slot g
        rw [hav] at f1
        cases f1
        have hv2 : v2 = .int k := by
          have := pp.at1
          cases (show Rep _ _ _ v2 (.int k) from this); rfl
        subst hv2
        have hd' : Rep X.K H2 _ v1 d := pp.at0
        refine ⟨a0, us, k, jj, rfl, rfl, f2, by rw [f4]; exact hj, q _ _ (pp.drop.mut g nl hav (Reps.anti (f3.set jj hd') fun b z => z.imp (fun z => z.imp id fun z => by cases z) id) ?_)⟩
        rw [List.length_set]; exact f5
    · cases h5
  · cases h4
end
end MP

-- part Mp12
set_option maxHeartbeats 1000000
/-! Loops, defs. -/
namespace MP
open PySem PySem.Spec PyProof.Rows L2
section
variable {X : Cx} {C : CallF} {e a b c o : Expr} {x y z ys : E} {s s1 s2 : S} {st : Stmt} {sts body : List Stmt} {p px py p2 p3 pos apos cpos : Pos} {es : List Expr} {i j l : Nat} {n m k : Str}
theorem ss_wh (hp : PassesOwn (model X.prog X.w) X.A X.env X.xe) (hc : ST X C c x) (hb : SSs X C body s) : SS X C (.While c body [] pos) (.wh x s) := by
  refine ps_imp (ps_while hp hc hb) fun D σ H ⟨T, r, f, r', E, h, q⟩ => ?_
  rw [ex] at h
  refine ⟨fun m σ' H' => ∃ rc, Po X.K H T σ r σ' rc [] [] H' ∧ whL (test C x) (ex C s) m rc = .ok f r', ⟨WN, r, .refl E, h⟩, fun m σ1 H1 ⟨rc, P, hw⟩ => ?_⟩
  cases m with
  | zero => cases hw
  | succ m =>
    rw [whL] at hw
    obtain ⟨t, r1, h1, h2⟩ := R.bind_inv hw
    refine ⟨T, rc, t, r1, P.env0, h1, fun H2 p2 => ?_⟩
    have P2 := P.next p2
    cases t with
    | true =>
      refine Eq.mpr (if_pos (c := (true = true)) rfl) ?_
      obtain ⟨g, r2, h3, h4⟩ := R.bind_inv h2
      refine ⟨fun σ' H' => ∃ rc, Po X.K H T σ r σ' rc [] [] H' ∧ whL (test C x) (ex C s) m rc = .ok f r', fun σ' H' w => ⟨m, Nat.lt_succ_self m, w⟩, T, r1, g, r2, P2.env0, h3, ?_⟩
      cases g with
      | next => exact fun σ' H' p3 => ⟨r2, P2.next p3, h4⟩
      | brk => cases h4; exact fun σ' H' p3 => q σ' H' (P2.next p3)
      | ret w => cases h4; exact fun v σ' H' p3 => q v σ' H' (P2.next p3)
    | false =>
      refine Eq.mpr (if_neg (c := (false = true)) Bool.false_ne_true) ?_
      cases h2
      exact q σ1 H2 P2
theorem unlock_inv' {α : Type} {r0 r' : Env} {ws : List W} {x : R α} {a : α} (h : x.unlock r0 ws = .ok a r') : ∃ r1, x = .ok a r1 ∧ r' = unlocks r0 r1 ws := unlock_inv h
theorem ss_for {tg iter : Expr} {t : Tg} {k : Ik} (hp : PassesOwn (model X.prog X.w) X.A X.env X.xe) (hc : X.calm = true) (hi : SI X C tg k iter ys) (hg : SG X tg t) (hb : SSs X C body s) (hs : ∀ x, foldedSetIterable iter X.env x = pure x) :
    SS X C (.For tg iter body [] pos) (.for_ t k ys s) := by
  refine ps_imp (ps_for hp hc hi hg hb hs) fun D σ H ⟨T, r, f, r', E, h, q⟩ => ?_
  rw [ex] at h
  obtain ⟨ws, r1, h1, h2⟩ := R.bind_inv h
  split at h2
  · rename_i its hv0
    obtain ⟨ds, hv, hz⟩ := Option.bind_eq_some_iff.mp hv0
    obtain ⟨r7, h3, rfl⟩ := unlock_inv h2
    clear h2
    refine ⟨T, r, ws, r1, ds, its, E, h1, hv, hz, fun vs H1 J P Wk => ?_⟩
    obtain ⟨El, Wl⟩ := P.locked
    have hvl : views (locks r1 ws) ws = some ds := (views_same (locks_same ws r1)).trans hv
    generalize hrl : locks r1 ws = rl at *
    refine ⟨fun i m σ' Hc => m = its.length - i ∧ i ≤ its.length ∧ ∃ rc, Po X.K H1 (Tw T ws vs) σ rl σ' rc [] [] Hc ∧ forL (fun d r2 => match asg t d r2 with
        | some r3 => ex C s r3
        | none => .no) (its.drop i) rc = .ok f r7, ⟨its.length, by simp, Nat.zero_le _, rl, .refl El, by rw [List.drop_zero]; exact h3⟩, ?_⟩
    rintro i m σ' Hc ⟨rfl, hil, rc, p, hw⟩
    have stay : VRs X.K Hc (fun b => Tw T ws vs b ∨ Acc σ' rc b) vs ds := by
      refine WRs.kept El p.frame (fun b z => ?_) Wl hvl fun i hi m xs e => by rw [← hrl] at e; exact locked_all i hi m xs e
      rcases z with z | z
      · exact .inl (.inl z)
      · exact (p.news b z).imp .inr id
    obtain ⟨go, stop, yld⟩ := Wk Hc _ stay
    by_cases hlt : i < its.length
    · refine .inr ⟨go i hlt, _, fun σ'' H' w => ⟨its.length - (i + 1), by omega, w⟩, fun xv H' hy => ?_⟩
      rw [List.drop_eq_getElem_cons hlt, forL] at hw
      obtain ⟨g, r3, k1, k2⟩ := R.bind_inv hw
      split at k1
      · rename_i r4 ha
        have o := yld i xv H' hy its[i] (List.getElem?_eq_getElem hlt)
        have s1 := Po.opOf p.env0 o
        refine ⟨Hc, _, _, rc, [], [], rc, its[i], r4, s1, rfl, ha, fun σ2 s2 _ _ => ⟨_, r4, g, r3, s2.env0, k1, ?_⟩⟩
        have P2 := p.next s2
        cases g with
        | next => exact fun σ3 H3 s3 => ⟨rfl, hlt, r3, P2.next s3, k2⟩
        | brk => cases k2; exact fun σ3 H3 s3 => q σ3 H3 (P.walk (by rw [hrl]; exact P2.next s3))
        | ret w => cases k2; exact fun v σ3 H3 s3 => q v σ3 H3 (P.walk (by rw [hrl]; exact P2.next s3))
      · cases k1
    · have hie : i = its.length := by omega
      subst hie
      rw [List.drop_length] at hw
      cases hw
      exact .inl ⟨stop, q _ _ (P.walk (by rw [hrl]; exact p))⟩
  · cases h2
end

/-! ### the end of a def -/
section
variable {K : PySem.W.Frag} {H H' H1 H2 : Hp} {T T' : Addr → Prop} {σ σ' σ1 σ2 : L2.St} {r r' r1 r2 : Env} {ws us : List W} {vs zs : List V} {w w' x y : W} {v : V} {i j : Nat} {d : D} {D : Ends} {f : Fl}
theorem gets_app1 : ∀ {ss us : Env} {i : Nat}, i < ss.length → gets (ss ++ us) i = gets ss i
  | [], _, _, h => absurd h (Nat.not_lt_zero _)
  | _ :: _, _, 0, _ => rfl
  | _ :: ss, us, i + 1, h => gets_app1 (ss := ss) (us := us) (i := i) (Nat.lt_of_succ_lt_succ h)
theorem gets_app2 : ∀ {ss : Env} {k i : Nat}, ss.length ≤ i → gets (ss ++ List.replicate k .no) i = .no
  | [], 0, _, _ => rfl
  | [], k + 1, 0, _ => rfl
  | [], k + 1, i + 1, _ => by
    have := gets_app2 (ss := []) (k := k) (i := i) (Nat.zero_le _)
    exact this
  | _ :: _, _, 0, h => absurd h (by simp)
  | _ :: ss, k, i + 1, h => gets_app2 (ss := ss) (k := k) (i := i) (Nat.le_of_succ_le_succ h)
theorem outsF_at {r : Env} : ∀ {ss : Env} {k i : Nat}, gets (outsF r k ss) i = match gets ss i with
    | .acc _ _ => gets r (k + i)
    | s => s
  | [], _, i => by cases i <;> rfl
  | .acc _ _ :: ss, k, 0 => rfl
  | .val _ :: ss, k, 0 => rfl
  | .no :: ss, k, 0 => rfl
  | .acc _ _ :: ss, k, i + 1 => by
    have := outsF_at (r := r) (ss := ss) (k := k + 1) (i := i)
    rw [show k + 1 + i = k + (i + 1) by omega] at this
    exact this
  | .val _ :: ss, k, i + 1 => by
    have := outsF_at (r := r) (ss := ss) (k := k + 1) (i := i)
    rw [show k + 1 + i = k + (i + 1) by omega] at this
    exact this
  | .no :: ss, k, i + 1 => by
    have := outsF_at (r := r) (ss := ss) (k := k + 1) (i := i)
    rw [show k + 1 + i = k + (i + 1) by omega] at this
    exact this
theorem outs_at {ss r : Env} {i : Nat} : gets (outs ss r) i = match gets ss i with
    | .acc _ _ => gets r i
    | s => s := by
  have := outsF_at (r := r) (ss := ss) (k := 0) (i := i)
  rw [Nat.zero_add] at this
  exact this
theorem outsF_len {r : Env} : ∀ {ss : Env} {k : Nat}, (outsF r k ss).length = ss.length
  | [], _ => rfl
  | .acc _ _ :: ss, k => congrArg (· + 1) (outsF_len (ss := ss) (k := k + 1))
  | .val _ :: ss, k => congrArg (· + 1) (outsF_len (ss := ss) (k := k + 1))
  | .no :: ss, k => congrArg (· + 1) (outsF_len (ss := ss) (k := k + 1))
theorem outs_len {ss r : Env} : (outs ss r).length = ss.length := outsF_len
/-- a result is handed out: of a name's own list the name lets go -/
theorem Po.out (p : Po K H T σ r σ1 r1 [w] [v] H1) (e : outW w r1 = .ok w' r2) (hf : ∀ i m xs, gets r i = .acc m xs → m = .fix) : Po K H T σ r σ1 r2 [w'] [v] H1 ∧ ∀ k, w' ≠ .slot k := by
  cases w with
  | val d => cases e; exact ⟨p, fun _ z => nomatch z⟩
  | own xs => cases e; exact ⟨p, fun _ z => nomatch z⟩
  | slot i =>
    unfold outW at e
    dsimp only at e
    cases g : gets r1 i with
    | no => rw [g] at e; cases e
    | val d =>
      rw [g] at e
      cases e
      exact ⟨p.take (w := .slot i) (d := d) (by unfold MP.take; dsimp only; rw [g]), fun _ z => nomatch z⟩
    | acc m xs =>
      rw [g] at e
      cases m with
      | fix => cases e
      | lck => cases e
      | free =>
        cases e
        refine ⟨?_, fun _ z => nomatch z⟩
        have hi : i < r1.length := gets_lt (by rw [g]; exact Sl.noConfusion)
        obtain ⟨a, us, e1, e2, e3, e4⟩ := p.env.acc i _ xs g
        have hTT : Tw T [.slot i] [v] = T := Tw_nil (T := T)
        rw [hTT] at e2 e4
        have E : ER K H1 T σ1 r1 := hTT ▸ p.env
        have hv : σ1[i]? = some (some v) := p.at0
        rw [e1] at hv
        cases hv
        have sub : ∀ b, Acc σ1 (sets r1 i .no) b → Acc σ1 r1 b := fun b z => by
          rcases acc_sets z with z | ⟨m, xs, z, _⟩
          · exact z
          · cases z
        have subM : ∀ b, Mu σ1 (sets r1 i .no) b → Mu σ1 r1 b := fun b z => by
          rcases mu_sets z with z | ⟨m, xs, z, _⟩
          · exact z
          · cases z
        have Aa : Acc σ1 r1 a := ⟨i, .free, xs, g, e1⟩
        have nA : ¬ Acc σ1 (sets r1 i .no) a := fun ⟨j, m, ys, z1, z2⟩ => by
          rw [gets_sets] at z1
          split at z1
          · cases z1
          · rename_i hj
            exact hj ⟨E.inj j i _ _ _ _ a z1 g z2 e1, hi⟩
        have hTo : Tw T [.own xs] [.ref a] = fun b => T b ∨ b = a := funext fun b => propext (by
          show (T b ∨ b ∈ [a]) ↔ _
          rw [List.mem_singleton])
        have hN : ∀ b, (Tw T [.own xs] [.ref a] b ∨ Acc σ1 (sets r1 i .no) b) → (T b ∨ Acc σ1 r1 b) := fun b z => by
          rw [hTo] at z
          rcases z with (z | z) | z
          · exact .inl z
          · rw [z]; exact .inr Aa
          · exact .inr (sub b z)
        have fresh : H a = none := by
          rcases p.news a Aa with ⟨j, m, ys, z1, z2⟩ | z
          · have hm := hf j m ys z1
            subst hm
            obtain ⟨⟨ys', k1, _⟩, k2⟩ := p.keep j _ ys z1 (fun z => nomatch z)
            have hji := E.inj j i _ _ _ _ a k1 g (k2.trans z2) e1
            subst hji
            rw [g] at k1
            cases k1
          · exact z
        refine ⟨p.t0, p.frame, p.pers, ⟨by rw [sets_length]; exact E.len, fun j d z => ?_, fun j m ys z => ?_, fun j l m m' xs' ys' b z1 z2 z3 z4 => ?_, fun b z => ?_⟩, .cons ⟨a, us, rfl, ?_, e3, e4.1.anti hN, e4.2⟩ .nil, fun b hb => ?_, ?_, fun b z => p.news b (sub b z), fun b z => p.mun b (subM b z), fun j m ys z nf => ?_⟩
        · rw [gets_sets] at z
          split at z
          · cases z
          · obtain ⟨u, k1, k2⟩ := E.val j d z
            exact ⟨u, k1, k2.anti hN⟩
        · rw [gets_sets] at z
          split at z
          · cases z
          · rename_i hj
            obtain ⟨b, us', k1, k2, k3, k4, k5⟩ := E.acc j m ys z
            refine ⟨b, us', k1, fun q => ?_, k3, k4.anti hN, k5⟩
            rw [hTo] at q
            rcases q with q | q
            · exact k2 q
            · subst q
              exact hj ⟨E.inj j i _ _ _ _ b z g k1 e1, hi⟩
        · rw [gets_sets] at z1 z2
          split at z1
          · cases z1
          · split at z2
            · cases z2
            · exact E.inj j l _ _ _ _ b z1 z2 z3 z4
        · rw [hTo] at z
          rcases z with z | z
          · exact E.tal b z
          · rw [z, e3]; exact fun q => nomatch q
        · rw [hTo]; exact .inr rfl
        · have hb' : b ∈ [a] := hb
          rw [List.mem_singleton] at hb'
          rw [hb']; exact fresh
        · show [a].Nodup
          simp
        · obtain ⟨⟨ys', k1, k3⟩, k2⟩ := p.keep j m ys z nf
          refine ⟨⟨ys', ?_, k3⟩, k2⟩
          rw [gets_sets, if_neg]
          · exact k1
          · rintro ⟨rfl, _⟩
            rw [g] at k1
            cases k1
            exact nf rfl
/-- what the caller keeps of a call -/
theorem Po.fin {ss r1 : Env} {vs : List V} {k : Nat} (E0 : ER K H T (vs.map some) ss) (hf : ∀ i m xs, gets ss i = .acc m xs → m = .fix)
    (p : Po K H T (vs.map some ++ List.replicate k none) (ss ++ List.replicate k .no) σ1 r1 [w] [v] H1) (hw : ∀ k, w ≠ .slot k) : Po K H T (vs.map some) ss (vs.map some) (outs ss r1) [w] [v] H1 := by
  have hl : vs.length = ss.length := by have := E0.len; rwa [List.length_map] at this
  have r0len : (vs.map some ++ List.replicate k none : L2.St).length = ss.length + k := by rw [List.length_append, List.length_map, List.length_replicate, hl]
  have slots0 : ∀ i, gets (ss ++ List.replicate k .no) i = gets ss i := fun i => by
    by_cases h : i < ss.length
    · exact gets_app1 h
    · rw [gets_app2 (by omega)]
      cases q : gets ss i with
      | no => rfl
      | val d => exact absurd (gets_lt (by rw [q]; exact Sl.noConfusion)) h
      | acc m xs => exact absurd (gets_lt (by rw [q]; exact Sl.noConfusion)) h
  have at0 : ∀ i, i < ss.length → (vs.map some ++ List.replicate k none : L2.St)[i]? = (vs.map some)[i]? := fun i h => List.getElem?_append_left (by rw [List.length_map, hl]; exact h)
  have acc0 : ∀ b, Acc (vs.map some) ss b ↔ Acc (vs.map some ++ List.replicate k none) (ss ++ List.replicate k .no) b := fun b => by
    constructor
    · rintro ⟨i, m, xs, z1, z2⟩
      exact ⟨i, m, xs, (slots0 i).trans z1, (at0 i (gets_lt (by rw [z1]; exact Sl.noConfusion))).trans z2⟩
    · rintro ⟨i, m, xs, z1, z2⟩
      rw [slots0] at z1
      exact ⟨i, m, xs, z1, (at0 i (gets_lt (by rw [z1]; exact Sl.noConfusion))).symm.trans z2⟩
  have mu0 : ∀ b, Mu (vs.map some ++ List.replicate k none) (ss ++ List.replicate k .no) b → Mu (vs.map some) ss b := fun b => by
    rintro ⟨i, m, xs, z1, nl, z2⟩
    rw [slots0] at z1
    exact ⟨i, m, xs, z1, nl, (at0 i (gets_lt (by rw [z1]; exact Sl.noConfusion))).symm.trans z2⟩
  have mu1 : ∀ b, Mu (vs.map some) ss b → Mu (vs.map some ++ List.replicate k none) (ss ++ List.replicate k .no) b := fun b => by
    rintro ⟨i, m, xs, z1, nl, z2⟩
    exact ⟨i, m, xs, (slots0 i).trans z1, nl, (at0 i (gets_lt (by rw [z1]; exact Sl.noConfusion))).trans z2⟩
  · have keep : ∀ i m xs, gets ss i = .acc m xs → m = .fix ∧ (∃ ys, gets r1 i = .acc .fix ys ∧ gets (outs ss r1) i = .acc .fix ys) ∧ σ1[i]? = (vs.map some)[i]? := fun i m xs z => by
      have hm := hf i m xs z
      subst hm
      obtain ⟨⟨ys, k1, _⟩, k2⟩ := p.keep i .fix xs ((slots0 i).trans z) (fun q => nomatch q)
      refine ⟨rfl, ⟨ys, k1, ?_⟩, k2.trans (at0 i (gets_lt (by rw [z]; exact Sl.noConfusion)))⟩
      rw [outs_at, z]
      exact k1
    have back : ∀ i m xs, gets (outs ss r1) i = .acc m xs → ∃ ys, gets ss i = .acc .fix ys ∧ m = .fix ∧ gets r1 i = .acc .fix xs ∧ σ1[i]? = (vs.map some)[i]? := fun i m xs z => by
      rw [outs_at] at z
      cases q : gets ss i with
      | no => rw [q] at z; cases z
      | val d => rw [q] at z; cases z
      | acc m' ys =>
        rw [q] at z
        replace z : gets r1 i = .acc m xs := z
        obtain ⟨rfl, ⟨ys', k1, _⟩, k2⟩ := keep i m' ys q
        rw [z] at k1
        cases k1
        exact ⟨ys, rfl, rfl, z, k2⟩
    have accO : ∀ b, Acc (vs.map some) (outs ss r1) b → Acc (vs.map some) ss b ∧ Acc σ1 r1 b := fun b ⟨i, m, xs, z1, z2⟩ => by
      obtain ⟨ys, q1, rfl, q2, q3⟩ := back i m xs z1
      exact ⟨⟨i, _, ys, q1, z2⟩, ⟨i, _, xs, q2, q3.trans z2⟩⟩
    have hown : ∀ b ∈ owns [w] [v], H b = none := p.fresh
    have st : Stab H H1 (Mu (vs.map some) ss) (fun b => T b ∨ Acc (vs.map some) ss b) (fun b => Tw T [w] [v] b ∨ Acc (vs.map some) (outs ss r1) b) := ⟨fun b o e n => p.frame b o e fun z => n (mu0 b z), E0.lists, fun b z => .inr z.acc, fun b z => by
      rcases z with (z | z) | z
      · exact .inl (.inl z)
      · exact .inr (hown b z)
      · exact .inl (.inr (accO b z).1)⟩
    have hN : ∀ b, (Tw T [w] [v] b ∨ Acc (vs.map some) (outs ss r1) b) → (Tw T [w] [v] b ∨ Acc σ1 r1 b) := fun b z => z.imp id fun z => (accO b z).2
    refine ⟨p.t0, fun b o e n => p.frame b o e fun z => n (mu0 b z), p.pers, ⟨by rw [List.length_map, outs_len, hl], fun i d z => ?_, fun i m xs z => ?_, fun i j m m' xs ys a z1 z2 z3 z4 => ?_, p.env.tal⟩, ?_, p.fresh, p.nd, fun a z => .inl (accO a z).1, fun a ⟨i, m, xs, z1, nl, z2⟩ => ?_, fun i m xs z nf => ?_⟩
    · rw [outs_at] at z
      cases q : gets ss i with
      | no => rw [q] at z; cases z
      | val d' =>
        rw [q] at z; cases z
        obtain ⟨u, k1, k2⟩ := E0.val i _ q
        exact ⟨u, k1, Rep.stab st k2⟩
      | acc m' ys =>
        rw [q] at z
        replace z : gets r1 i = .val d := z
        obtain ⟨_, ⟨ys', k1, _⟩, _⟩ := keep i m' ys q
        rw [z] at k1; cases k1
    · obtain ⟨ys, q1, rfl, q2, q3⟩ := back i m xs z
      obtain ⟨a, us, k1, k2, k3, k4, k5⟩ := p.env.acc i _ xs q2
      exact ⟨a, us, q3.symm.trans k1, k2, k3, k4.anti hN, k5⟩
    · obtain ⟨_, _, _, q2, q3⟩ := back i m xs z1
      obtain ⟨_, _, _, q4, q5⟩ := back j m' ys z2
      exact p.env.inj i j _ _ _ _ a q2 q4 (q3.trans z3) (q5.trans z4)
    · cases p.res with
      | cons g t =>
        cases t
        refine .cons ?_ .nil
        cases w with
        | val d => exact Rep.anti (show Rep K H1 _ v d from g) hN
        | own xs =>
          obtain ⟨a, us, q1, q2, q3, q4, q5⟩ := g
          exact ⟨a, us, q1, q2, q3, q4.anti hN, q5⟩
        | slot k => exact (hw k rfl).elim
    · obtain ⟨ys, q1, rfl, _, _⟩ := back i m xs z1
      exact .inl ⟨i, _, ys, q1, nl, z2⟩
    · obtain ⟨rfl, ⟨ys, _, k2⟩, _⟩ := keep i m xs z
      exact ⟨⟨ys, k2, fun q => nomatch q⟩, rfl⟩
end
end MP

-- part MpFol
set_option maxHeartbeats 4000000
/-! A dict filled by pairs that meet, sorted: the body as it is written. -/
namespace MP
open PySem PySem.Spec PyProof.Rows L2

theorem twoB_at {ks : List (List Int)} (h : twoB ks = true) {i : Nat} {k : List Int} (e : ks[i]? = some k) : ∃ a b, k = [a, b] := by
  have := List.all_eq_true.mp h k (List.mem_of_getElem? e)
  match k, this with
  | [a, b], _ => exact ⟨a, b, rfl⟩
  | [], h => cases h
  | [_], h => cases h
  | _ :: _ :: _ :: _, h => simp at h
theorem rowK_ne {k : List Int} {ls : List (List Int)} {x : List Int} (h : x ∈ rowK k ls) : ∃ a t, x = [a, t] := by
  unfold rowK at h
  split at h
  · obtain ⟨l, _, e⟩ := List.mem_filterMap.mp h
    split at e
    · split at e
      · cases e; exact ⟨_, _, rfl⟩
      · cases e
    · cases e
  · cases h
theorem folK_ne {ks ls : List (List Int)} {x : List Int} (h : x ∈ folK ks ls) : ∃ a t, x = [a, t] := by
  obtain ⟨k, _, e⟩ := List.mem_flatMap.mp h
  exact rowK_ne e
theorem folK_take {ks ls : List (List Int)} {i : Nat} {k : List Int} (e : ks[i]? = some k) : folK (ks.take (i + 1)) ls = folK (ks.take i) ls ++ rowK k ls := by
  unfold folK
  rw [List.take_succ, e, List.flatMap_append]
  simp
theorem rowK_take {a m g t : Int} {ls : List (List Int)} {j : Nat} (e : ls[j]? = some [g, t]) : rowK [a, m] (ls.take (j + 1)) = rowK [a, m] (ls.take j) ++ if g = m then [[a, t]] else [] := by
  unfold rowK
  dsimp only
  rw [List.take_succ, e, List.filterMap_append]
  congr 1
  show List.filterMap _ [[g, t]] = _
  by_cases h : g = m
  · rw [if_pos h, List.filterMap_cons]
    simp [h]
  · rw [if_neg h, List.filterMap_cons]
    simp [h]
/-- the items, as rows -/
theorem rows_at {ks : List (List Int)} {i : Nat} {k : List Int} (e : ks[i]? = some k) : (ks.map tupI)[i]? = some (tupI k) := by
  rw [List.getElem?_map, e]; rfl
theorem rep_pair {K : PySem.W.Frag} {H : Hp} {N : Addr → Prop} {v : V} {a b : Int} (h : Rep K H N v (tupI [a, b])) : ∃ p, v = .ref p ∧ SqT K H p [.int a, .int b] := by
  cases h with
  | tup h1 h2 h3 =>
    rename_i p vs
    have := reps_ints (ns := [a, b]) h2
    subst this
    exact ⟨p, rfl, h1⟩

/-- what a dict holds: its keys are those of the list -/
def DHas (H : Hp) (p : Addr) (done : List (List Int)) (n : Nat) : Prop := ∃ (kvs : List (List Key × V)) (ks : List (List Int)), H p = some (.dT kvs) ∧ kvs.map (·.1) = ks.map kI ∧ (∀ k, k ∈ ks ↔ k ∈ done) ∧ ks.length ≤ n
theorem putK_keys {kvs : List (List Key × V)} {ks : List (List Int)} {k : List Int} {v : V} (h : kvs.map (·.1) = ks.map kI) : ∃ ks' : List (List Int), (putK kvs (kI k) v).map (·.1) = ks'.map kI ∧ (∀ x, x ∈ ks' ↔ x ∈ ks ∨ x = k) ∧ ks'.length ≤ ks.length + 1 := by
  unfold putK
  split
  · rename_i hk
    refine ⟨ks, ?_, fun x => ⟨.inl, fun z => z.elim id fun e => ?_⟩, Nat.le_succ _⟩
    · rw [List.map_map, ← h]
      refine List.map_congr_left fun kv _ => ?_
      show (if kv.1 = kI k then (kv.1, v) else kv).1 = kv.1
      split <;> rfl
    · obtain ⟨kv, h1, h2⟩ := List.any_eq_true.mp hk
      have h2 := of_decide_eq_true h2
      have : kI k ∈ ks.map kI := by rw [← h, ← h2]; exact List.mem_map.mpr ⟨kv, h1, rfl⟩
      obtain ⟨y, hy, ey⟩ := List.mem_map.mp this
      rw [e, ← kI_inj ey]; exact hy
  · refine ⟨ks ++ [k], ?_, fun x => by simp, by simp⟩
    rw [List.map_append, List.map_append, h]; rfl

section
variable {X : Cx} {C : CallF} {n0 n1 n2 n3 n4 n5 n6 : Str}
/-- a name at its slot -/
structure NmOk (X : Cx) (i : Nat) (n : Str) : Prop where
  at_ : X.N[i]? = some n
  vis : Vis X.env.scope n
  db : (n == ("__debug__" : Str)) = false
  cd : (n == ("__classdict__" : Str)) = false
def FolSt (v0 v1 : V) (p : Addr) (σ : L2.St) : Prop := σ.length = 7 ∧ σ[0]? = some (some v0) ∧ σ[1]? = some (some v1) ∧ σ[2]? = some (some (.ref p))
theorem FolSt.set {v0 v1 : V} {p : Addr} {σ : L2.St} (h : FolSt v0 v1 p σ) {i : Nat} (hi : 3 ≤ i) (v : V) : FolSt v0 v1 p (σ.set i (some v)) := by
  obtain ⟨h0, h1, h2, h3⟩ := h
  refine ⟨by rw [List.length_set, h0], ?_, ?_, ?_⟩
  · rw [List.getElem?_set_ne (by omega)]; exact h1
  · rw [List.getElem?_set_ne (by omega)]; exact h2
  · rw [List.getElem?_set_ne (by omega)]; exact h3
/-- for a, b in items that are pairs -/
theorem pairs_walk {K : PySem.W.Frag} {J : It} {v : V} {d : D} {ks : List (List Int)} {H0 H : Hp} {N : Addr → Prop} (W : Walk K J [v] [d] (ks.map tupI)) (g : ∀ b o, H0 b = some o → H b = some o) (hv : Rep K H0 N v d) :
    (∀ i, i < ks.length → J.go i H) ∧ J.stop ks.length H ∧ ∀ i x H', J.yld i H x H' → ∀ a b, ks[i]? = some [a, b] → (∀ b o, H b = some o → H' b = some o) ∧ ∃ p, x = .ref p ∧ SqT K H' p [.int a, .int b] := by
  have hv' : Rep K H N v d := Rep.stab (.grow g fun b z => .inl z) hv
  obtain ⟨go, stop, yld⟩ := W H N (.cons (VR.of hv') .nil)
  rw [List.length_map] at go stop
  refine ⟨go, stop, fun i x H' hy a b e => ?_⟩
  have := yld i x H' hy _ (rows_at e)
  exact ⟨this.1, rep_pair this.2⟩
theorem iter_of {K : PySem.W.Frag} {v : V} {d : D} {its : List D} {i : Nat} {σ : L2.St} {H : Hp} {N : Addr → Prop} {R : It → Hp → Prop} (hi : σ[i]? = some (some v)) (hv : Rep K H N v d) (hx : items d = some its)
    (h : ∀ J, Walk K J [v] [d] its → R J H) : iList K (tVar i) σ H R ∨ iTup K (tVar i) σ H R := by
  have hv' : VR K H N v d := VR.of hv
  unfold items at hx
  split at hx
  · cases hx
    obtain ⟨a, vs, rfl, e1, e2, e3⟩ := hv'
    exact .inl ⟨_, hi, a, rfl, ⟨vs, .of e1⟩, h _ walk_list⟩
  · cases hx
    obtain ⟨a, vs, rfl, e1, e2, e3⟩ := vr_tup hv'
    exact .inr ⟨_, hi, a, rfl, ⟨vs, e1⟩, h _ walk_tup⟩
  · cases hx
theorem pe_nm {i : Nat} {n : Str} {p : Pos} (m : NmOk X i n) : PE X (.Name n p) (tVar i) := pe_var m.at_ m.vis m.db m.cd
theorem fol_core {σ : L2.St} {H : Hp} {D : Ends} (h : rdS X.K C .folw D σ H) :
    tSeq (tAsg tDNewT (gName 2)) (tSeq (tFor (fun σ H R => iList X.K (tVar 0) σ H R ∨ iTup X.K (tVar 0) σ H R) (gTup X.K 2 (gCons (gName 3) (gCons (gName 4) gNil)))
      (tSeq (tFor (fun σ H R => iList X.K (tVar 1) σ H R ∨ iTup X.K (tVar 1) σ H R) (gTup X.K 2 (gCons (gName 5) (gCons (gName 6) gNil)))
        (tSeq (tIfS (tTest (tOp rEq (tVar 5) (tVar 4))) (tSeq (sDPut (tVar 2) (tTup (tCons (tVar 3) (tCons (tVar 6) tNil))) (tC (.bl true))) tNext) tNext) tNext)) tNext))
      (tSeq (tRet (tCB (rSortedDT X.K) (tCons (tVar 2) tNil))) tNext)) D σ H := by
  obtain ⟨T, r, f, r', E, h, q⟩ := h
  rw [ex] at h
  unfold folR at h
  split at h
  · rename_i d e
    cases hf : folS d e with
    | none => rw [hf] at h; cases h
    | some ms =>
      rw [hf] at h
      cases h
      obtain ⟨v0, e0, rep0⟩ := E.val 0 d rfl
      obtain ⟨v1, e1, rep1⟩ := E.val 1 e rfl
      have hl : σ.length = 7 := E.len
      unfold folS at hf
      obtain ⟨xs, hx, hf1⟩ := Option.bind_eq_some_iff.mp hf
      obtain ⟨ys, hy, hf2⟩ := Option.bind_eq_some_iff.mp hf1
      obtain ⟨ks, hks, hf3⟩ := Option.bind_eq_some_iff.mp hf2
      obtain ⟨ls, hls, hf4⟩ := Option.bind_eq_some_iff.mp hf3
      clear hf hf1 hf2 hf3
      have exs := getsT_is hks
      have eys := getsT_is hls
      subst exs eys
      split at hf4
      · rename_i hk
        cases hf4
        simp only [Bool.and_eq_true, decide_eq_true_eq] at hk
        obtain ⟨⟨⟨k1, k2⟩, k3⟩, k4⟩ := hk
        intro p hp
        have F0 : FolSt v0 v1 p (σ.set 2 (some (.ref p))) := by
          refine ⟨by rw [List.length_set, hl], ?_, ?_, ?_⟩
          · rw [List.getElem?_set_ne (by omega)]; exact e0
          · rw [List.getElem?_set_ne (by omega)]; exact e1
          · rw [List.getElem?_set_self (by omega)]
        have G0 : ∀ b o, H b = some o → upd H p (.dT []) b = some o := upd_grow hp
        refine iter_of F0.2.1 (Rep.stab (.grow G0 fun b z => .inl z) rep0) hx fun J WJ => ?_
        refine ⟨fun i m σ' Hc => m = ks.length - i ∧ i ≤ ks.length ∧ FolSt v0 v1 p σ' ∧ (∀ b o, H b = some o → Hc b = some o) ∧ DHas Hc p (folK (ks.take i) ls) (i * ls.length),
          ⟨ks.length, by simp, Nat.zero_le _, F0, G0, [], [], upd_same, rfl, fun k => by simp [folK], by simp⟩, ?_⟩
        rintro i m σ' Hc ⟨rfl, hi, F, G, Dh⟩
        obtain ⟨go, stop, yld⟩ := pairs_walk WJ G rep0
        by_cases hlt : i < ks.length
        · refine .inr ⟨go i hlt, fun σ'' H'' => i + 1 ≤ ks.length ∧ FolSt v0 v1 p σ'' ∧ (∀ b o, H b = some o → H'' b = some o) ∧ DHas H'' p (folK (ks.take (i + 1)) ls) ((i + 1) * ls.length),
            fun σ'' H'' w => ⟨ks.length - (i + 1), by omega, rfl, w⟩, fun x H' hyd => ?_⟩
          obtain ⟨a, m, ek⟩ := twoB_at k1 (List.getElem?_eq_getElem hlt)
          have ek' : ks[i]? = some [a, m] := by rw [List.getElem?_eq_getElem hlt, ek]
          obtain ⟨g1, pa, rfl, sq⟩ := yld i x H' hyd a m ek'
          refine ⟨pa, _, rfl, sq, rfl, _, _, rfl, _, _, rfl, rfl, ?_⟩
          have F1 := (F.set (i := 3) (Nat.le_refl _) (.int a)).set (i := 4) (by omega) (.int m)
          have G1 : ∀ b o, H b = some o → H' b = some o := fun b o z => g1 b o (G b o z)
          have D1 : DHas H' p (folK (ks.take i) ls) (i * ls.length) := by
            obtain ⟨kvs, kk, a1, a2, a3, a4⟩ := Dh
            exact ⟨kvs, kk, g1 _ _ a1, a2, a3, a4⟩
          refine iter_of F1.2.2.1 (Rep.stab (.grow G1 fun b z => .inl z) rep1) hy fun J2 WJ2 => ?_
          refine ⟨fun j m2 σ'' Hd => m2 = ls.length - j ∧ j ≤ ls.length ∧ FolSt v0 v1 p σ'' ∧ σ''[3]? = some (some (.int a)) ∧ σ''[4]? = some (some (.int m)) ∧ (∀ b o, H b = some o → Hd b = some o) ∧
              DHas Hd p (folK (ks.take i) ls ++ rowK [a, m] (ls.take j)) (i * ls.length + j),
            ⟨ls.length, by simp, Nat.zero_le _, F1, ?_, ?_, G1, ?_⟩, ?_⟩
          · rw [List.getElem?_set_ne (by omega), List.getElem?_set_self (by rw [F.1]; omega)]
          · rw [List.getElem?_set_self (by rw [List.length_set, F.1]; omega)]
          · have : rowK [a, m] (ls.take 0) = [] := rfl
            rw [this, List.append_nil]
            exact D1
          rintro j m2 σ2 Hd ⟨rfl, hj, F2, s3, s4, G2, D2⟩
          obtain ⟨go2, stop2, yld2⟩ := pairs_walk WJ2 G2 rep1
          by_cases hlt2 : j < ls.length
          · refine .inr ⟨go2 j hlt2, fun σ'' Hd => j + 1 ≤ ls.length ∧ FolSt v0 v1 p σ'' ∧ σ''[3]? = some (some (.int a)) ∧ σ''[4]? = some (some (.int m)) ∧ (∀ b o, H b = some o → Hd b = some o) ∧
              DHas Hd p (folK (ks.take i) ls ++ rowK [a, m] (ls.take (j + 1))) (i * ls.length + (j + 1)), fun σ'' H'' w => ⟨ls.length - (j + 1), by omega, rfl, w⟩, fun x H3 hyd2 => ?_⟩
            obtain ⟨g, t, el⟩ := twoB_at k2 (List.getElem?_eq_getElem hlt2)
            have el' : ls[j]? = some [g, t] := by rw [List.getElem?_eq_getElem hlt2, el]
            obtain ⟨g3, pb, rfl, sq2⟩ := yld2 j x H3 hyd2 g t el'
            refine ⟨pb, _, rfl, sq2, rfl, _, _, rfl, _, _, rfl, rfl, ?_⟩
            have F3 := (F2.set (i := 5) (by omega) (.int g)).set (i := 6) (by omega) (.int t)
            have G3 : ∀ b o, H b = some o → H3 b = some o := fun b o z => g3 b o (G2 b o z)
            have t3 : ((σ2.set 5 (some (V.int g))).set 6 (some (V.int t)))[3]? = some (some (.int a)) := by
              rw [List.getElem?_set_ne (by omega), List.getElem?_set_ne (by omega)]; exact s3
            have t4 : ((σ2.set 5 (some (V.int g))).set 6 (some (V.int t)))[4]? = some (some (.int m)) := by
              rw [List.getElem?_set_ne (by omega), List.getElem?_set_ne (by omega)]; exact s4
            have t5 : ((σ2.set 5 (some (V.int g))).set 6 (some (V.int t)))[5]? = some (some (.int g)) := by
              rw [List.getElem?_set_ne (by omega), List.getElem?_set_self (by rw [F2.1]; omega)]
            have t6 : ((σ2.set 5 (some (V.int g))).set 6 (some (V.int t)))[6]? = some (some (.int t)) := by
              rw [List.getElem?_set_self (by rw [List.length_set, F2.1]; omega)]
            obtain ⟨kvs, kk, a1, a2, a3, a4⟩ := D2
            have a1' := g3 _ _ a1
            refine ⟨_, t5, _, t4, rfl, _, rfl, ?_⟩
            by_cases hgm : g = m
            · have e : decide (V.int g = V.int m) = true := by rw [hgm]; exact decide_eq_true rfl
              refine Eq.mpr (if_pos (c := (decide (V.int g = V.int m) = true)) e) ?_
              refine ⟨_, F3.2.2.2, _, t3, _, t6, by rw [sizeLine_eq]; exact (by decide : (2 : Nat) ≤ 16777216), fun qa hqa => ?_⟩
              have npq : p ≠ qa := fun z => by rw [z, hqa] at a1'; cases a1'
              have hkl : kvs.length = kk.length := by
                have := congrArg List.length a2
                rwa [List.length_map, List.length_map] at this
              have hsz : kvs.length < sizeLine := by
                have : (i + 1) * ls.length ≤ ks.length * ls.length := Nat.mul_le_mul_right _ hlt
                rw [Nat.succ_mul] at this
                rw [sizeLine_eq]; omega
              obtain ⟨kk', b1, b2, b3⟩ := putK_keys (k := [a, t]) (v := .bl true) a2
              refine ⟨p, _, rfl, DPut.t (kvs := kvs) (k := kI [a, t]) (b := qa) ?_ ?_ hsz, hlt2, F3, t3, t4, fun b o z => ?_, putK kvs (kI [a, t]) (.bl true), kk', upd_same, b1, fun k => ?_, by omega⟩
              · rw [upd_ne npq]; exact a1'
              · rw [upd_same]; rfl
              · have h1 := G3 b o z
                rw [upd_ne (fun e => by rw [e, hp] at z; cases z), upd_ne (fun e => by rw [e, hqa] at h1; cases h1)]
                exact h1
              · rw [b2, a3, rowK_take el', if_pos hgm, ← List.append_assoc, List.mem_append (t := [[a, t]]), List.mem_singleton]
            · have e : decide (V.int g = V.int m) = false := decide_eq_false fun z => hgm (by injection z)
              refine Eq.mpr (if_neg (c := (decide (V.int g = V.int m) = true)) (by rw [e]; exact Bool.false_ne_true)) ?_
              exact ⟨hlt2, F3, t3, t4, G3, kvs, kk, a1', a2, fun k => by rw [a3, rowK_take el', if_neg hgm, List.append_nil], by omega⟩
          · have : j = ls.length := by omega
            subst this
            refine .inl ⟨stop2, hlt, F2, G2, ?_⟩
            rw [folK_take ek', Nat.succ_mul]
            rw [List.take_length] at D2
            exact D2
        · have : i = ks.length := by omega
          subst this
          refine .inl ⟨stop, ?_⟩
          rw [List.take_length] at Dh
          obtain ⟨kvs, kk, a1, a2, a3, a4⟩ := Dh
          refine ⟨_, F.2.2.2, p, kvs, kk, rfl, .inl a1, a2, fun k hk z => ?_, fun nd => ?_, fun M p2 c1 c2 c3 c4 c5 => ?_⟩
          · obtain ⟨a, t, e⟩ := folK_ne ((a3 k).mp hk)
            rw [e] at z; cases z
          · have := nodup_len nd (m := sortUL (folK ks ls)) fun y hy => (sortUL_mem _ _).mpr ((a3 y).mp hy)
            omega
          · have em : M.map (·.2) = sortUL (folK ks ls) := ascL_one c3 (sortUL_asc _) fun y => by rw [c2, sortUL_mem, a3]
            have noacc : ∀ τ b, ¬ Acc τ [.val d, .val e, .no, .no, .no, .no, .no] b := fun τ b ⟨i, m, xs, z, _⟩ => by
              match i, z with
              | 0, z => cases z
              | 1, z => cases z
              | 2, z => cases z
              | 3, z => cases z
              | 4, z => cases z
              | 5, z => cases z
              | 6, z => cases z
              | n + 7, z => cases n <;> cases z
            have E1 : ER X.K Hc T σ' [.val d, .val e, .no, .no, .no, .no, .no] := by
              refine ⟨F.1, fun i d' z => ?_, fun i m xs z => ?_, fun i j m m' xs ys b z => ?_, fun b z => ?_⟩
              · match i, z with
                | 0, z => cases z; exact ⟨v0, F.2.1, Rep.stab (.grow G fun b z => z.elim (fun z => .inl (.inl z)) fun z => (noacc _ _ z).elim) rep0⟩
                | 1, z => cases z; exact ⟨v1, F.2.2.1, Rep.stab (.grow G fun b z => z.elim (fun z => .inl (.inl z)) fun z => (noacc _ _ z).elim) rep1⟩
                | 2, z => cases z
                | 3, z => cases z
                | 4, z => cases z
                | 5, z => cases z
                | 6, z => cases z
                | n + 7, z => cases n <;> cases z
              · match i, z with
                | 0, z => cases z
                | 1, z => cases z
                | 2, z => cases z
                | 3, z => cases z
                | 4, z => cases z
                | 5, z => cases z
                | 6, z => cases z
                | n + 7, z => cases n <;> cases z
              · match i, z with
                | 0, z => cases z
                | 1, z => cases z
                | 2, z => cases z
                | 3, z => cases z
                | 4, z => cases z
                | 5, z => cases z
                | 6, z => cases z
                | n + 7, z => cases n <;> cases z
              · cases hb : H b with
                | none => exact (E.tal b z hb).elim
                | some o => rw [G b o hb]; exact Option.some_ne_none _
            have P1 : Po X.K H T σ [.val d, .val e, .no, .no, .no, .no, .no] σ' [.val d, .val e, .no, .no, .no, .no, .no] [] [] Hc := by
              refine ⟨E.tal, fun b o z _ => G b o z, fun b z => ?_, by rw [Tw_nil]; exact E1, .nil, fun _ z => (by cases z), List.nodup_nil, fun a z => (noacc _ _ z).elim, fun a z => (noacc _ _ z.acc).elim, fun i m xs z _ => ?_⟩
              · cases hb : H b with
                | none => exact (z hb).elim
                | some o => rw [G b o hb]; exact Option.some_ne_none _
              · match i, z with
                | 0, z => cases z
                | 1, z => cases z
                | 2, z => cases z
                | 3, z => cases z
                | 4, z => cases z
                | 5, z => cases z
                | 6, z => cases z
                | n + 7, z => cases n <;> cases z
            refine q _ σ' _ (P1.next (Po.opOf E1 ?_))
            rw [← em]
            refine Op1.list c5 (Reps.tups fun r hr => ⟨.inl (.inl (c1 r hr)), ?_⟩) (by rw [List.length_map, List.length_map, sizeLine_eq]; omega)
            have : r.2 ∈ folK ks ls := (a3 _).mp ((c2 _).mp (List.mem_map.mpr ⟨r, hr, rfl⟩))
            obtain ⟨a, t, e⟩ := folK_ne this
            rw [e, sizeLine_eq]; exact (by decide : (2 : Nat) ≤ 16777216)
      · cases hf4
  · cases h
theorem ss_folw {p1 p2 p3 p4 p5 p6 p7 p8 p9 p10 p11 p12 p13 p14 p15 p16 p17 p18 p19 p20 p21 p22 p23 p24 p25 p26 p27 p28 : Pos} {k1 k2 k3 j : Nat} (hp : PassesOwn (model X.prog X.w) X.A X.env X.xe) (hc : X.calm = true) (hu : X.A.units + 200 < cLine) (hN : X.N.Nodup)
    (m0 : NmOk X 0 n0) (m1 : NmOk X 1 n1) (m2 : NmOk X 2 n2) (m3 : NmOk X 3 n3) (m4 : NmOk X 4 n4) (m5 : NmOk X 5 n5) (m6 : NmOk X 6 n6) (s2 : Sto X n2) (s3 : Sto X n3) (s4 : Sto X n4) (s5 : Sto X n5) (s6 : Sto X n6) (hg : Gl X "sorted") (hm : X.mg "sorted" = none) :
    SSs X C [.Assign [.Name n2 p1] (.Dict [] [] p2) p3,
      .For (.Tuple [.Name n3 p4, .Name n4 p5] k1 p6) (.Name n0 p7) [.For (.Tuple [.Name n5 p8, .Name n6 p9] k2 p10) (.Name n1 p11) [.If (.Compare (.Name n5 p12) [.Eq] [.Name n4 p13] p14)
        [.Assign [.Subscript (.Name n2 p15) (.Tuple [.Name n3 p16, .Name n6 p17] k3 p18) p19] (.Constant (.bool true) j p20) p21] [] p22] [] p23] [] p24,
      .Return (some (.Call (.Name "sorted" p25) [.Name n2 p26] [] p27)) p28] .folw := by
  have A1 : PS X (.Assign [.Name n2 p1] (.Dict [] [] p2) p3) _ := ps_set hN m2.at_ s2.1 pe_dnewT rfl s2.2
  have G1 : PG X (.Tuple [.Name n3 p4, .Name n4 p5] k1 p6) _ := pg_tup (n := 2) hc (pgs_cons (pg_name hN m3.at_ s3.1 s3.2) (pgs_cons (pg_name hN m4.at_ s4.1 s4.2) pgs_nil))
  have G2 : PG X (.Tuple [.Name n5 p8, .Name n6 p9] k2 p10) _ := pg_tup (n := 2) hc (pgs_cons (pg_name hN m5.at_ s5.1 s5.2) (pgs_cons (pg_name hN m6.at_ s6.1 s6.2) pgs_nil))
  have T1 : PT X (.Compare (.Name n5 p12) [.Eq] [.Name n4 p13] p14) _ := pt_cmpR op_eq (pe_nm m5) (pe_nm m4) rfl
  have U1 : PS X (.Assign [.Subscript (.Name n2 p15) (.Tuple [.Name n3 p16, .Name n6 p17] k3 p18) p19] (.Constant (.bool true) j p20) p21) _ := ps_dput (by omega) (pe_nm m2) (pe_tup (pa_cons (pe_nm m3) (pa_cons (pe_nm m6) pa_nil rfl) rfl)) pe_bl rfl
  have R1 : PS X (.Return (some (.Call (.Name "sorted" p25) [.Name n2 p26] [] p27)) p28) _ := ps_ret (pe_callB (cr_sortedDT hc hu) hg hm (by decide +kernel) (pa_cons (pe_nm m2) pa_nil rfl) (by decide) (by decide) rfl rfl)
  have I1 : PS X (.If (.Compare (.Name n5 p12) [.Eq] [.Name n4 p13] p14) [.Assign [.Subscript (.Name n2 p15) (.Tuple [.Name n3 p16, .Name n6 p17] k3 p18) p19] (.Constant (.bool true) j p20) p21] [] p22) _ := ps_if T1 (pss_cons U1 pss_nil) pss_nil
  have F2 := ps_for (pos := p23) hp hc (PIor (pi_list (pe_nm (p := p11) m1)) (pi_tup (pe_nm m1))) G2 (pss_cons I1 pss_nil) (fun _ => rfl)
  have F1 := ps_for (pos := p24) hp hc (PIor (pi_list (pe_nm (p := p7) m0)) (pi_tup (pe_nm m0))) G1 (pss_cons F2 pss_nil) (fun _ => rfl)
  exact pss_imp (pss_cons A1 (pss_cons F1 (pss_cons R1 pss_nil))) fun D σ H h => fol_core h
end
end MP

-- part Mp13
set_option maxHeartbeats 1000000
/-! Is the given text that MP term? Expressions. -/
namespace MP
open PySem PySem.Spec PyProof.Rows L2

/-! ### small facts, by the form alone -/
def notStar : Expr → Bool
  | .Starred .. => false
  | _ => true
theorem ns_of {e : Expr} (h : notStar e = true) : NS e := fun es env => by
  cases e <;> first | rfl | cases h
def notSet : Expr → Bool
  | .Set .. => false
  | _ => true
theorem behind_of {e : Expr} (h : notSet e = true) (op : CmpOp) : behindInMarks op e = false := by
  cases e <;> first | rfl | cases h
theorem folded_of {e : Expr} (h : notSet e = true) (env : PySem.Env) (x : Value) : foldedSetIterable e env x = pure x := by
  cases e <;> first | rfl | cases h
def notSlice : Expr → Bool
  | .Slice .. => false
  | _ => true
theorem plain_ix {b : Expr} (h : notSlice b = true) : PlainIx b := fun o i => by
  cases b <;> first | rfl | cases h
/-- a test whose value is looked at (not and, or, not, a comparison, if) -/
def plainT : Expr → Bool
  | .UnaryOp .. => false
  | .BoolOp .. => false
  | .IfExp .. => false
  | .Compare .. => false
  | _ => true
theorem plain_t {e : Expr} (h : plainT e = true) (env : PySem.Env) (whole : Sem Value) : isTrue e env whole = (do let v ← whole; standAt e.pos; holding [v] (truthy v)) := by
  cases e <;> first | (cases h; done) | rfl

mutual
def litEq : D → D → Bool
  | .non, .non => true
  | .bl a, .bl b => a == b
  | .int a, .int b => decide (a = b)
  | .str a, .str b => decide (a = b)
  | .tup xs, .tup ys => litEqs xs ys
  | _, _ => false
def litEqs : List D → List D → Bool
  | [], [] => true
  | x :: xs, y :: ys => litEq x y && litEqs xs ys
  | _, _ => false
end
mutual
theorem lit_eq : ∀ {a b : D}, litEq a b = true → a = b
  | .non, b, h => by cases b <;> first | rfl | cases h
  | .bl a, b, h => by
    cases b <;> first | (cases h; done) | skip
    rw [litEq, beq_iff_eq] at h
    rw [h]
  | .int a, b, h => by
    cases b <;> first | (cases h; done) | skip
    rw [litEq, decide_eq_true_eq] at h
    rw [h]
  | .str a, b, h => by
    cases b <;> first | (cases h; done) | skip
    rw [litEq, decide_eq_true_eq] at h
    rw [h]
  | .tup xs, b, h => by
    cases b <;> first | (cases h; done) | skip
    rw [litEq] at h
    rw [lits_eq h]
  | .lst xs, b, h => by cases b <;> cases h
  | .scr xs, b, h => by cases b <;> cases h
  | .dct xs, b, h => by cases b <;> cases h
theorem lits_eq : ∀ {a b : List D}, litEqs a b = true → a = b
  | [], b, h => by cases b <;> first | rfl | cases h
  | x :: xs, b, h => by
    cases b <;> first | (cases h; done) | skip
    rw [litEqs, Bool.and_eq_true] at h
    rw [lit_eq h.1, lits_eq h.2]
end

/-! ### the context -/
structure Ctx where
  N : List Str
  sc : Scope
  /-- the block's own scope, where one stands in a comprehension -/
  own : Option Scope
  fns : List Str
  cns : List (Str × D)
  bls : List Str

def visB (sc : Scope) (n : Str) : Bool := match sc.names.lookup n with
  | some .local => true
  | some .cell => true
  | some .free => true
  | _ => false
theorem vis_of {sc : Scope} {n : Str} (h : visB sc n = true) : Vis sc n := by
  unfold visB at h
  split at h
  · exact .inl (by assumption)
  · exact .inr (.inl (by assumption))
  · exact .inr (.inr (by assumption))
  · cases h
def nmOk (ctx : Ctx) (i : Nat) (n : Str) : Bool := decide (ctx.N[i]? = some n) && visB ctx.sc n
def glB (ctx : Ctx) (n : Str) : Bool := match ctx.sc.names.lookup n with
  | some .globalImplicit => true
  | _ => false
/-- a name that may be stored -/
def stB (ctx : Ctx) (n : Str) : Bool := match ctx.sc.names.lookup n with
  | some .local => true
  | some .cell => (match ctx.own with
    | none => true
    | some s0 => s0.names.lookup n == some .cell)
  | _ => false
def blB (ctx : Ctx) (n : Str) : Bool := glB ctx n && ctx.bls.contains n

structure CtxOk (ctx : Ctx) (X : Cx) (C : CallF) : Prop where
  N : X.N = ctx.N
  nd : X.N.Nodup
  db : ∀ (i : Nat) (n : Str), ctx.N[i]? = some n → (n == ("__debug__" : Str)) = false ∧ (n == ("__classdict__" : Str)) = false
  sc : X.env.scope = ctx.sc
  own : match ctx.own with
    | none => ∀ x, X.fn x = true
    | some s0 => ∀ x, X.fn x = (s0.names.lookup x == some .cell)
  calm : X.calm = true
  hu : X.A.units + 200 < cLine
  fns : ∀ (f : Nat) (n : Str), ctx.fns[f]? = some n → ∃ m, Kn X C f n m
  cns : ∀ n d, (n, d) ∈ ctx.cns → ∃ v u, X.mg n = some u ∧ RelV v u ∧ (n == ("__debug__" : Str)) = false ∧ ∀ H N, Rep X.K H N v d
  bls : ∀ n ∈ ctx.bls, X.mg n = none
section
variable {ctx : Ctx} {X : Cx} {C : CallF} {n : Str} {i : Nat} {p : Pos}
theorem CtxOk.nm (O : CtxOk ctx X C) (h : nmOk ctx i n = true) : X.N[i]? = some n ∧ Vis X.env.scope n ∧ (n == ("__debug__" : Str)) = false ∧ (n == ("__classdict__" : Str)) = false := by
  unfold nmOk at h
  rw [Bool.and_eq_true, decide_eq_true_eq] at h
  exact ⟨by rw [O.N]; exact h.1, by rw [O.sc]; exact vis_of h.2, O.db i n h.1⟩
theorem CtxOk.gl (O : CtxOk ctx X C) (h : glB ctx n = true) : Gl X n := by
  unfold glB at h
  show X.env.scope.names.lookup n = some .globalImplicit
  rw [O.sc]
  split at h
  · assumption
  · cases h
theorem CtxOk.bl (O : CtxOk ctx X C) (h : blB ctx n = true) : Gl X n ∧ X.mg n = none := by
  unfold blB at h
  rw [Bool.and_eq_true, List.contains_eq_mem, decide_eq_true_eq] at h
  exact ⟨O.gl h.1, O.bls n h.2⟩
theorem CtxOk.st (O : CtxOk ctx X C) (h : stB ctx n = true) : Sto X n := by
  unfold stB at h
  unfold Sto L2.Loc
  rw [O.sc]
  split at h
  · rename_i q
    exact ⟨.inl q, .inr q⟩
  · rename_i q
    refine ⟨.inr q, .inl ?_⟩
    have o := O.own
    split at h
    · rename_i e; rw [e] at o; exact o n
    · rename_i e; rw [e] at o; rw [o n]; exact h
  · cases h
/-- in a comprehension -/
def Ctx.blk (ctx : Ctx) (scope : Scope) : Ctx := { ctx with sc := relS scope ctx.sc, own := some scope }
theorem CtxOk.blk (O : CtxOk ctx X C) (scope : Scope) (s : Shared) (H : Hp) (D : Addr) (cl : List (Str × Addr)) (fp : List Addr) : CtxOk (ctx.blk scope) (X.blk s H scope (compEnvC scope cl D X.env) fp) C := by
  refine ⟨O.N, O.nd, O.db, ?_, fun x => rfl, O.calm, O.hu, fun f n h => ?_, O.cns, O.bls⟩
  · show relabel scope X.env = relS scope ctx.sc
    rw [← O.sc]
    rfl
  · obtain ⟨m, k⟩ := O.fns f n h
    exact ⟨m, ⟨k.ex, k.len, k.db⟩⟩
end

/-! ### targets -/
mutual
def ckG (ctx : Ctx) : Tg → Expr → Bool
  | .nm i, e => match e with
    | .Name n _ => decide (ctx.N[i]? = some n) && stB ctx n
    | _ => false
  | .tp t, e => match e with
    | .Tuple es _ _ => ckGs ctx t es
    | _ => false
  | _, _ => false
def ckGs (ctx : Ctx) : Tg → List Expr → Bool
  | .nil, es => es.isEmpty
  | .cons t ts, es => match es with
    | e :: es => ckG ctx t e && ckGs ctx ts es && (tgS t).all (fun i => !((tgS ts).contains i))
    | [] => false
  | _, _ => false
end
/-- how many targets -/
def tgN : Tg → Nat
  | .cons _ ts => tgN ts + 1
  | _ => 0
theorem asgs_n : ∀ {ts : Tg} {ds : List D} {r r' : Env}, asgs ts ds r = some r' → ds.length = tgN ts
  | .nil, [], _, _, _ => rfl
  | .nil, _ :: _, _, _, h => by rw [asgs] at h <;> first | cases h | (intros; simp_all)
  | .cons t ts, [], _, _, h => by rw [asgs] at h <;> first | cases h | (intros; simp_all)
  | .cons t ts, d :: ds, r, r', h => by
    rw [asgs] at h
    split at h
    · exact congrArg (· + 1) (asgs_n h)
    · cases h
  | .nm _, _, _, _, h => by rw [asgs] at h <;> first | cases h | (intros; simp_all)
  | .tp _, _, _, _, h => by rw [asgs] at h <;> first | cases h | (intros; simp_all)
section
variable {ctx : Ctx} {X : Cx} {C : CallF}
/-- what the checker finds of targets -/
structure GsOk (X : Cx) (ts : Tg) (es : List Expr) : Prop where
  sg : SGs X es ts
  n : (assignEach es X.env).length = tgN ts
  st : (assignEach es X.env).findIdx? (·.1) = none
mutual
theorem ckG_ok (O : CtxOk ctx X C) : ∀ {t : Tg} {e : Expr}, ckG ctx t e = true → SG X e t ∧ ∀ es, (assignEach (e :: es) X.env) = (false, assign e X.env) :: assignEach es X.env
  | .nm i, e, h => by
    cases e <;> first | (simp [ckG] at h; done) | skip
    rename_i n p
    rw [ckG, Bool.and_eq_true, decide_eq_true_eq] at h
    exact ⟨sg_nm O.nd (by rw [O.N]; exact h.1) (O.st h.2), fun es => rfl⟩
  | .tp t, e, h => by
    cases e <;> first | (simp [ckG] at h; done) | skip
    rename_i es k p
    rw [ckG] at h
    have g := ckGs_ok O h
    exact ⟨sg_tp O.calm g.sg g.st fun ds r r' hh => (asgs_n hh).trans g.n.symm, fun es => rfl⟩
  | .nil, e, h => by rw [ckG] at h <;> first | cases h | (intros; simp_all)
  | .cons _ _, e, h => by rw [ckG] at h <;> first | cases h | (intros; simp_all)
theorem ckGs_ok (O : CtxOk ctx X C) : ∀ {t : Tg} {es : List Expr}, ckGs ctx t es = true → GsOk X t es
  | .nil, es, h => by
    cases es with
    | nil => exact ⟨sgs_nil, rfl, rfl⟩
    | cons e es => rw [ckGs] at h; cases h
  | .cons t ts, es, h => by
    cases es with
    | nil => rw [ckGs] at h; cases h
    | cons e es =>
      rw [ckGs, Bool.and_eq_true, Bool.and_eq_true] at h
      obtain ⟨⟨h1, h2⟩, h3⟩ := h
      obtain ⟨g1, g2⟩ := ckG_ok O h1
      have g := ckGs_ok O h2
      rw [List.all_eq_true] at h3
      refine ⟨sgs_cons g1 g.sg (by rw [g2]; rfl) fun i hi hj => ?_, ?_, ?_⟩
      · have := h3 i hi
        rw [Bool.not_eq_true', List.contains_eq_mem, decide_eq_false_iff_not] at this
        exact this hj
      · rw [g2, List.length_cons, g.n]; rfl
      · rw [g2, List.findIdx?_cons, g.st]
        rfl
  | .nm _, es, h => by rw [ckGs] at h <;> first | cases h | (intros; simp_all)
  | .tp _, es, h => by rw [ckGs] at h <;> first | cases h | (intros; simp_all)
end
end
end MP

-- part Mp14
set_option maxHeartbeats 4000000
/-! Is the given text that MP term? Expressions. -/
namespace MP
open PySem PySem.Spec PyProof.Rows L2

def opEq : Op → Operator → Bool
  | .add, .Add => true | .sub, .Sub => true | .mul, .Mult => true | .fdiv, .FloorDiv => true | .mod, .Mod => true | .pow, .Pow => true
  | .shl, .LShift => true | .shr, .RShift => true | .band, .BitAnd => true | .bor, .BitOr => true
  | _, _ => false
theorem op_eq {a : Op} {b : Operator} (h : opEq a b = true) : b = opS a := by cases a <;> cases b <;> first | rfl | cases h
def cmEq : Cm → CmpOp → Bool
  | .eq, .Eq => true | .ne, .NotEq => true | .lt, .Lt => true | .le, .LtE => true | .gt, .Gt => true | .ge, .GtE => true
  | .is_, .Is => true | .isnot, .IsNot => true | .mem, .In => true | .nomem, .NotIn => true
  | _, _ => false
theorem cm_eq {a : Cm} {b : CmpOp} (h : cmEq a b = true) : b = cmS a := by cases a <;> cases b <;> first | rfl | cases h
def ckC : D → Const → Bool
  | .int i, .int j => decide (i = j)
  | .bl a, .bool b => a == b
  | .non, .none => true
  | .str cs, .str s => decide (s.cps.toList = cs) && decide (cs.length ≤ LIM)
  | _, _ => false
theorem ckC_ok {X : Cx} {C : CallF} {d : D} {c : Const} {j : Nat} {p : Pos} (h : ckC d c = true) : SE X C (.Constant c j p) (.lit d) := by
  unfold ckC at h
  split at h
  · rw [decide_eq_true_eq] at h; subst h; exact se_int
  · rw [beq_iff_eq] at h; subst h; exact se_bl
  · exact se_non
  · rw [Bool.and_eq_true, decide_eq_true_eq, decide_eq_true_eq] at h
    exact se_str h.1 h.2
  · cases h
/-- how many -/
def eN : E → Nat
  | .cons _ es => eN es + 1
  | _ => 0
theorem evs_n {C : CallF} : ∀ {x : E} {r r' : Env} {ws : List W}, evs C x r = .ok ws r' → ws.length = eN x
  | .nil, _, _, _, h => by rw [evs] at h; cases h; rfl
  | .cons x xs, _, _, _, h => by
    rw [evs] at h
    obtain ⟨w, r1, h1, h2⟩ := R.bind_inv h
    obtain ⟨us, r2, h3, h4⟩ := R.bind_inv h2
    cases h4
    exact congrArg (· + 1) (evs_n h3)
  | .var _, _, _, _, h => by simp [evs] at h
  | .lit _, _, _, _, h => by simp [evs] at h
  | .tk _, _, _, _, h => by simp [evs] at h
  | .bin _ _ _, _, _, _, h => by simp [evs] at h
  | .neg _, _, _, _, h => by simp [evs] at h
  | .not _, _, _, _, h => by simp [evs] at h
  | .and _ _, _, _, _, h => by simp [evs] at h
  | .or _ _, _, _, _, h => by simp [evs] at h
  | .cmp _ _ _, _, _, _, h => by simp [evs] at h
  | .chain _ _ _ _ _, _, _, _, h => by simp [evs] at h
  | .ite _ _ _, _, _, _, h => by simp [evs] at h
  | .tup _, _, _, _, h => by simp [evs] at h
  | .list _, _, _, _, h => by simp [evs] at h
  | .sub _ _, _, _, _, h => by simp [evs] at h
  | .cut _ _ _, _, _, _, h => by simp [evs] at h
  | .bi _ _, _, _, _, h => by simp [evs] at h
  | .meth _ _ _, _, _, _, h => by simp [evs] at h
  | .isi _ _, _, _, _, h => by simp [evs] at h
  | .call _ _, _, _, _, h => by simp [evs] at h
  | .app _ _, _, _, _, h => by simp [evs] at h
  | .ext _ _, _, _, _, h => by simp [evs] at h
  | .pop _, _, _, _, h => by simp [evs] at h
  | .popAt _ _, _, _, _, h => by simp [evs] at h
  | .lc _ _ _ _ _ _, _, _, _, h => by simp [evs] at h
def isNil : E → Bool
  | .nil => true
  | _ => false
def isTup : Expr → Bool
  | .Tuple .. => true
  | _ => false
theorem not_nil {x : E} (h : isNil x = false) : x ≠ .nil := fun e => by subst e; cases h
/-- the tail of and, or -/
def tailB (op : PySem.BoolOp) (y : Expr) (rest : List Expr) (p : Pos) : Expr := match rest with
  | [] => y
  | r :: rs => .BoolOp op (y :: r :: rs) p
/-- the test lies open -/
def tOk : E → Expr → Bool
  | .not a, e => match e with
    | .UnaryOp .Not x _ => tOk a x
    | _ => false
  | .and a b, e => match e with
    | .BoolOp .And (x :: y :: rest) p => tOk a x && tOk b (tailB .And y rest p)
    | _ => false
  | .or a b, e => match e with
    | .BoolOp .Or (x :: y :: rest) p => tOk a x && tOk b (tailB .Or y rest p)
    | _ => false
  | .cmp _ _ _, _ => true
  | .chain _ _ _ _ _, _ => true
  | _, e => plainT e
def ownL (N : List Str) (own : List Nat) : List (Str × Nat) := own.map fun i => ((N[i]?).getD ⟨#[]⟩, i)
theorem ownL_map {N : List Str} {own : List Nat} : (ownL N own).map (·.2) = own := by
  unfold ownL
  rw [List.map_map]
  show own.map (fun i => i) = own
  simp

mutual
def ckE : E → Ctx → Expr → Bool
  | .var i, ctx, e => match e with
    | .Name n _ => nmOk ctx i n
    | _ => false
  | .lit d, ctx, e => match e with
    | .Constant c _ _ => ckC d c
    | .Name n _ => glB ctx n && ctx.cns.any fun q => decide (q.1 = n) && litEq q.2 d
    | _ => false
  | .tk x, ctx, e => ckE x ctx e
  | .bin op a b, ctx, e => match e with
    | .BinOp l o r _ => opEq op o && ckE a ctx l && ckE b ctx r
    | _ => false
  | .neg a, ctx, e => match e with
    | .UnaryOp .USub x _ => ckE a ctx x
    | _ => false
  | .not a, ctx, e => match e with
    | .UnaryOp .Not x _ => ckE a ctx x
    | _ => false
  | .and a b, ctx, e => match e with
    | .BoolOp .And (x :: y :: rest) p => ckE a ctx x && ckE b ctx (tailB .And y rest p)
    | _ => false
  | .or a b, ctx, e => match e with
    | .BoolOp .Or (x :: y :: rest) p => ckE a ctx x && ckE b ctx (tailB .Or y rest p)
    | _ => false
  | .cmp op a b, ctx, e => match e with
    | .Compare l [o] [r] _ => cmEq op o && ckE a ctx l && ckE b ctx r && notSet r
    | _ => false
  | .chain o1 o2 a b c, ctx, e => match e with
    | .Compare l [p1, p2] [x, y] _ => cmEq o1 p1 && cmEq o2 p2 && ckE a ctx l && ckE b ctx x && ckE c ctx y && notSet y
    | _ => false
  | .ite c a b, ctx, e => match e with
    | .IfExp t x y _ => ckE c ctx t && tOk c t && ckE a ctx x && ckE b ctx y
    | _ => false
  | .tup es, ctx, e => match e with
    | .Tuple xs _ _ => ckL es ctx xs && decide (eN es ≤ 1000)
    | _ => false
  | .list es, ctx, e => match e with
    | .List xs _ => ckL es ctx xs && decide (eN es ≤ 1000)
    | _ => false
  | .sub a i, ctx, e => match e with
    | .Subscript x y _ => ckE a ctx x && ckE i ctx y && notSlice y
    | _ => false
  | .cut a lo hi, ctx, e => match e with
    | .Subscript x (.Slice l h none _) _ => ckE a ctx x && (match l with
        | none => isNil lo
        | some l => !isNil lo && ckE lo ctx l) && (match h with
        | none => isNil hi
        | some h => !isNil hi && ckE hi ctx h)
    | _ => false
  | .bi b ys, ctx, e => match e with
    | .Call (.Name n _) es [] _ => match b with
      | .lenset => decide (n = "len") && blB ctx n && (match es with
        | [.Call (.Name m _) [a] [] _] => decide (m = "set") && blB ctx m && ckL ys ctx [a]
        | _ => false)
      | .sortset => decide (n = "sorted") && blB ctx n && (match es with
        | [.Call (.Name m _) [a] [] _] => decide (m = "set") && blB ctx m && ckL ys ctx [a]
        | _ => false)
      | .listrange => decide (n = "list") && blB ctx n && (match es with
        | [.Call (.Name m _) [a] [] _] => decide (m = "range") && blB ctx m && ckL ys ctx [a]
        | _ => false)
      | _ => biD b && decide (n = biN b) && blB ctx n && !es.isEmpty && ckL ys ctx es
    | _ => false
  | .isi x t, ctx, e => match e with
    | .Call (.Name n _) [a, .Name tn _] [] _ => decide (n = "isinstance") && blB ctx n && decide (tn = tyS t) && blB ctx tn && ckE x ctx a && notStar a
    | _ => false
  | .call f ys, ctx, e => match e with
    | .Call (.Name n _) es [] _ => decide (ctx.fns[f]? = some n) && glB ctx n && ckL ys ctx es
    | _ => false
  | .app i x, ctx, e => match e with
    | .Call (.Attribute (.Name n _) m apos) [a] [] cpos => decide (m = "append") && nmOk ctx i n && (apos.endLine == cpos.line) && ckE x ctx a && notStar a
    | _ => false
  | .ext i x, ctx, e => match e with
    | .Call (.Attribute (.Name n _) m apos) [a] [] cpos => decide (m = "extend") && nmOk ctx i n && (apos.endLine == cpos.line) && ckE x ctx a && notStar a
    | _ => false
  | .pop i, ctx, e => match e with
    | .Call (.Attribute (.Name n _) m apos) [] [] cpos => decide (m = "pop") && nmOk ctx i n && (apos.endLine == cpos.line)
    | _ => false
  | .popAt i x, ctx, e => match e with
    | .Call (.Attribute (.Name n _) m apos) [a] [] cpos => decide (m = "pop") && nmOk ctx i n && (apos.endLine == cpos.line) && ckE x ctx a && notStar a
    | _ => false
  | .lc t k es c x own, ctx, e => match e with
    | .ListComp elt [⟨tg, iter, ifs, a⟩] scope _ => decide (a = 0) && (match k with
        | .seq => ckL es ctx [iter]
        | .rng1 => (match iter with
          | .Call (.Name n _) [a] [] _ => decide (n = "range") && blB ctx n && ckL es ctx [a]
          | _ => false)
        | .rng2 => (match iter with
          | .Call (.Name n _) [a, b] [] _ => decide (n = "range") && blB ctx n && ckL es ctx [a, b]
          | _ => false)
        | .enum => (match iter with
          | .Call (.Name n _) [a] [] _ => decide (n = "enumerate") && blB ctx n && isTup tg && ckL es ctx [a]
          | _ => false)
        | .zip => (match iter with
          | .Call (.Name n _) [a, b] [] _ => decide (n = "zip") && blB ctx n && isTup tg && ckL es ctx [a, b]
          | _ => false)) && notSet iter && ckG (ctx.blk scope) t tg && (match ifs with
        | [] => litEq (match c with | .lit d => d | _ => .non) (.bl true)
        | [f] => ckE c (ctx.blk scope) f && tOk c f
        | _ => false) && ckE x (ctx.blk scope) elt && blkC ctx.N ctx.sc scope (ownL ctx.N own) && (tgS t).all (fun i => own.contains i)
    | _ => false
  | .meth _ _ _, _, _ => false
  | .nil, _, _ => false
  | .cons _ _, _, _ => false
def ckL : E → Ctx → List Expr → Bool
  | .nil, _, es => es.isEmpty
  | .cons x xs, ctx, es => match es with
    | e :: es => ckE x ctx e && notStar e && ckL xs ctx es
    | [] => false
  | _, _, _ => false
end
end MP

-- part Mp15
set_option maxHeartbeats 4000000
/-! The checker of expressions is right. -/
namespace MP
open PySem PySem.Spec PyProof.Rows L2

def Good (X : Cx) (C : CallF) (e : Expr) (x : E) : Prop := SE X C e x ∧ (tOk x e = true → ST X C e x)
def GL (X : Cx) (C : CallF) : E → List Expr → Prop
  | .nil, [] => True
  | .cons x xs, e :: es => Good X C e x ∧ NS e ∧ GL X C xs es
  | _, _ => False
section
variable {X : Cx} {C : CallF} {ctx : Ctx}
theorem GL.sa : ∀ {x : E} {es : List Expr}, GL X C x es → SA X C es x ∧ ∀ e ∈ es, NS e
  | .nil, [], _ => ⟨sa_nil, fun e h => by cases h⟩
  | .cons x xs, e :: es, h => by
    obtain ⟨g, n, t⟩ := h
    obtain ⟨a, b⟩ := GL.sa t
    exact ⟨sa_cons g.1 n a, fun e' he => by
      rcases List.mem_cons.mp he with z | z
      · rw [z]; exact n
      · exact b e' z⟩
theorem Good.val {e : Expr} {x : E} (h : SE X C e x) (ht : tOk x e = true → plainT e = true) : Good X C e x := ⟨h, fun z => st_val h (plain_t (ht z) _)⟩
theorem tail_se {op : PySem.BoolOp} {y : Expr} {rest : List Expr} {p : Pos} {b : E} (h : SE X C (tailB op y rest p) b) : SE X C (.BoolOp op (y :: rest) p) b := by
  cases rest with
  | nil => exact se_one h
  | cons r rs => exact h
/-- what the checker finds of a comprehension -/
structure LcOk (X : Cx) (C : CallF) (t : Tg) (k : Ik) (ys c x : E) (ow : List Nat) (elt tg iter : Expr) (ifs : List Expr) (scope : Scope) : Prop where
  hi : SI X C tg k iter ys
  ok : BlkOk X.N X.env.scope scope (ownL X.N ow)
  hg : ∀ (s : Shared) (H : Hp) (D : Addr) (cl : List (Str × Addr)) (fp : List Addr), SG (X.blk s H scope (compEnvC scope cl D X.env) fp) tg t
  ht : ∀ (s : Shared) (H : Hp) (D : Addr) (cl : List (Str × Addr)) (fp : List Addr), STs (X.blk s H scope (compEnvC scope cl D X.env) fp) C ifs c
  he : ∀ (s : Shared) (H : Hp) (D : Addr) (cl : List (Str × Addr)) (fp : List Addr), SE (X.blk s H scope (compEnvC scope cl D X.env) fp) C elt x
  hs : ∀ x, foldedSetIterable iter X.env x = pure x
  hown : ∀ i ∈ tgS t, i ∈ (ownL X.N ow).map (·.2)
theorem LcOk.se (O : CtxOk ctx X C) {t : Tg} {k : Ik} {ys c x : E} {ow : List Nat} {elt tg iter : Expr} {ifs : List Expr} {scope : Scope} {pos : Pos} (L : LcOk X C t k ys c x ow elt tg iter ifs scope) : SE X C (.ListComp elt [⟨tg, iter, ifs, 0⟩] scope pos) (.lc t k ys c x ow) := by
  have h := se_lc (pos := pos) O.calm O.nd L.hi L.ok L.hg L.ht L.he L.hs L.hown
  rwa [ownL_map] at h
/-- the walked thing -/
theorem it_ok (O : CtxOk ctx X C) {k : Ik} {es : E} {iter tg : Expr} (hL : ∀ {xs : List Expr}, ckL es ctx xs = true → GL X C es xs) (h : (match k with
        | .seq => ckL es ctx [iter]
        | .rng1 => (match iter with
          | .Call (.Name n _) [a] [] _ => decide (n = "range") && blB ctx n && ckL es ctx [a]
          | _ => false)
        | .rng2 => (match iter with
          | .Call (.Name n _) [a, b] [] _ => decide (n = "range") && blB ctx n && ckL es ctx [a, b]
          | _ => false)
        | .enum => (match iter with
          | .Call (.Name n _) [a] [] _ => decide (n = "enumerate") && blB ctx n && isTup tg && ckL es ctx [a]
          | _ => false)
        | .zip => (match iter with
          | .Call (.Name n _) [a, b] [] _ => decide (n = "zip") && blB ctx n && isTup tg && ckL es ctx [a, b]
          | _ => false)) = true) : SI X C tg k iter es := by
  cases k with
  | seq =>
    have g := hL h
    cases es <;> first | (cases g; done) | skip
    rename_i y ys
    obtain ⟨g1, g2, g3⟩ := g
    cases ys <;> first | (cases g3; done) | skip
    exact si_seq g1.1
  | rng1 =>
    dsimp only at h
    split at h
    · rw [Bool.and_eq_true, Bool.and_eq_true, decide_eq_true_eq] at h
      obtain ⟨⟨rfl, h2⟩, h3⟩ := h
      obtain ⟨g1, g2⟩ := O.bl h2
      obtain ⟨g3, g4⟩ := (hL h3).sa
      exact si_rng1 g1 g2 g3 (g4 _ (by simp))
    · cases h
  | rng2 =>
    dsimp only at h
    split at h
    · rw [Bool.and_eq_true, Bool.and_eq_true, decide_eq_true_eq] at h
      obtain ⟨⟨rfl, h2⟩, h3⟩ := h
      obtain ⟨g1, g2⟩ := O.bl h2
      obtain ⟨g3, g4⟩ := (hL h3).sa
      exact si_rng2 g1 g2 g3 (g4 _ (by simp)) (g4 _ (by simp))
    · cases h
  | enum =>
    dsimp only at h
    split at h
    · rw [Bool.and_eq_true, Bool.and_eq_true, Bool.and_eq_true, decide_eq_true_eq] at h
      obtain ⟨⟨⟨rfl, h2⟩, h4⟩, h3⟩ := h
      obtain ⟨g1, g2⟩ := O.bl h2
      obtain ⟨g3, g4⟩ := (hL h3).sa
      cases tg <;> first | (cases h4; done) | skip
      exact si_enum g1 g2 g3 (g4 _ (by simp))
    · cases h
  | zip =>
    dsimp only at h
    split at h
    · rw [Bool.and_eq_true, Bool.and_eq_true, Bool.and_eq_true, decide_eq_true_eq] at h
      obtain ⟨⟨⟨rfl, h2⟩, h4⟩, h3⟩ := h
      obtain ⟨g1, g2⟩ := O.bl h2
      obtain ⟨g3, g4⟩ := (hL h3).sa
      cases tg <;> first | (cases h4; done) | skip
      exact si_zip g1 g2 g3 (g4 _ (by simp)) (g4 _ (by simp))
    · cases h
theorem lc_litT {c : E} (h : litEq (match c with | .lit d => d | _ => .non) (.bl true) = true) : c = .lit (.bl true) := by
  have := lit_eq h
  cases c <;> first | (cases this; done) | skip
  dsimp only at this
  rw [this]
theorem sw_of {op : PySem.BoolOp} {es : List Expr} {p : Pos} {b : E} (h : ST X C (.BoolOp op es p) b) : SW X C (.BoolOp op es p) b := ⟨fun wh pins s σ H Q I hw => h.run pins s σ H Q I hw⟩
theorem sw_tailA {y : Expr} {rest : List Expr} {p : Pos} {b : E} (h : ST X C (tailB .And y rest p) b) : SW X C (.BoolOp .And (y :: rest) p) b := by
  cases rest with
  | nil => exact sw_and1 h
  | cons r rs => exact sw_of h
theorem sw_tailO {y : Expr} {rest : List Expr} {p : Pos} {b : E} (h : ST X C (tailB .Or y rest p) b) : SW X C (.BoolOp .Or (y :: rest) p) b := by
  cases rest with
  | nil => exact sw_or1 h
  | cons r rs => exact sw_of h
theorem lc_parts (O : CtxOk ctx X C) {t : Tg} {k : Ik} {es c x : E} {own : List Nat} {e : Expr} (hL : ∀ {xs : List Expr}, ckL es ctx xs = true → GL X C es xs)
    (hc : ∀ {ctx : Ctx} {X : Cx} (O : CtxOk ctx X C) {e : Expr}, ckE c ctx e = true → Good X C e c) (hx : ∀ {ctx : Ctx} {X : Cx} (O : CtxOk ctx X C) {e : Expr}, ckE x ctx e = true → Good X C e x)
    (h : ckE (.lc t k es c x own) ctx e = true) : ∃ elt tg iter ifs scope pos, e = .ListComp elt [⟨tg, iter, ifs, 0⟩] scope pos ∧ LcOk X C t k es c x own elt tg iter ifs scope := by
  unfold ckE at h
  split at h
  · rename_i elt tg iter ifs a scope pos
    rw [Bool.and_eq_true, Bool.and_eq_true, Bool.and_eq_true, Bool.and_eq_true, Bool.and_eq_true, Bool.and_eq_true, Bool.and_eq_true, decide_eq_true_eq] at h
    obtain ⟨⟨⟨⟨⟨⟨⟨rfl, h2⟩, h3⟩, h4⟩, h5⟩, h6⟩, h7⟩, h8⟩ := h
    refine ⟨elt, tg, iter, ifs, scope, pos, rfl, it_ok O hL h2, ?_, fun s H D cl fp => (ckG_ok (O.blk scope s H D cl fp) h4).1, fun s H D cl fp => ?_, fun s H D cl fp => (hx (O.blk scope s H D cl fp) h6).1, folded_of h3 _, fun i hi => ?_⟩
    · rw [O.N, O.sc]
      exact blkOk_by h7
    · have Ob := O.blk scope s H D cl fp
      split at h5
      · rw [lc_litT h5]
        exact sts_nil
      · rw [Bool.and_eq_true] at h5
        exact sts_one ((hc Ob h5.1).2 h5.2)
      · cases h5
    · rw [ownL_map]
      rw [List.all_eq_true] at h8
      have := h8 i hi
      rwa [List.contains_eq_mem, decide_eq_true_eq] at this
  · cases h
mutual
theorem ckE_ok : ∀ (x : E) {ctx : Ctx} {X : Cx} (O : CtxOk ctx X C) {e : Expr}, ckE x ctx e = true → Good X C e x
  | .var i, ctx, X, O, e, h => by
    unfold ckE at h
    split at h
    · obtain ⟨g1, g2, g3, g4⟩ := O.nm h
      exact .val (se_var g1 g2 g3 g4) fun _ => rfl
    · cases h
  | .lit d, ctx, X, O, e, h => by
    unfold ckE at h
    split at h
    · exact .val (ckC_ok h) fun _ => rfl
    · rw [Bool.and_eq_true, List.any_eq_true] at h
      obtain ⟨h1, q, h2, h3⟩ := h
      rw [Bool.and_eq_true, decide_eq_true_eq] at h3
      obtain ⟨h3, h4⟩ := h3
      have h4 := lit_eq h4
      obtain ⟨n', d'⟩ := q
      subst h3 h4
      obtain ⟨v, u, g1, g2, g3, g4⟩ := O.cns _ _ h2
      exact .val (se_const (pe_glob (O.gl h1) g1 g2 g3) g4) fun _ => rfl
    · cases h
  | .tk x, ctx, X, O, e, h => by
    unfold ckE at h
    exact .val (se_tk (ckE_ok x O h).1) fun z => z
  | .bin op a b, ctx, X, O, e, h => by
    unfold ckE at h
    split at h
    · rw [Bool.and_eq_true, Bool.and_eq_true] at h
      obtain ⟨⟨h1, h2⟩, h3⟩ := h
      have := op_eq h1
      subst this
      exact .val (se_bin (ckE_ok a O h2).1 (ckE_ok b O h3).1) fun _ => rfl
    · cases h
  | .neg a, ctx, X, O, e, h => by
    unfold ckE at h
    split at h
    · exact .val (se_neg (ckE_ok a O h).1) fun z => z
    · cases h
  | .not a, ctx, X, O, e, h => by
    unfold ckE at h
    split at h
    · have g := ckE_ok a O h
      exact ⟨se_not g.1, fun z => st_not (g.2 z)⟩
    · cases h
  | .and a b, ctx, X, O, e, h => by
    unfold ckE at h
    split at h
    · rename_i x y rest p
      rw [Bool.and_eq_true] at h
      have g1 := ckE_ok a O h.1
      have g2 := ckE_ok b O h.2
      refine ⟨se_and g1.1 (tail_se g2.1), fun z => ?_⟩
      replace z : (tOk a x && tOk b (tailB .And y rest p)) = true := z
      rw [Bool.and_eq_true] at z
      exact (sw_and (g1.2 z.1) (sw_tailA (g2.2 z.2))).pt
    · cases h
  | .or a b, ctx, X, O, e, h => by
    unfold ckE at h
    split at h
    · rename_i x y rest p
      rw [Bool.and_eq_true] at h
      have g1 := ckE_ok a O h.1
      have g2 := ckE_ok b O h.2
      refine ⟨se_or g1.1 (tail_se g2.1), fun z => ?_⟩
      replace z : (tOk a x && tOk b (tailB .Or y rest p)) = true := z
      rw [Bool.and_eq_true] at z
      exact (sw_or (g1.2 z.1) (sw_tailO (g2.2 z.2))).pt
    · cases h
  | .cmp op a b, ctx, X, O, e, h => by
    unfold ckE at h
    split at h
    · rw [Bool.and_eq_true, Bool.and_eq_true, Bool.and_eq_true] at h
      obtain ⟨⟨⟨h1, h2⟩, h3⟩, h4⟩ := h
      have := cm_eq h1
      subst this
      have g1 := (ckE_ok a O h2).1
      have g2 := (ckE_ok b O h3).1
      exact ⟨se_cmp O.hu g1 g2 (behind_of h4 _), fun _ => st_cmp O.hu g1 g2 (behind_of h4 _)⟩
    · cases h
  | .chain o1 o2 a b c, ctx, X, O, e, h => by
    unfold ckE at h
    split at h
    · rw [Bool.and_eq_true, Bool.and_eq_true, Bool.and_eq_true, Bool.and_eq_true, Bool.and_eq_true] at h
      obtain ⟨⟨⟨⟨⟨h1, h2⟩, h3⟩, h4⟩, h5⟩, h6⟩ := h
      have e1 := cm_eq h1
      have e2 := cm_eq h2
      subst e1 e2
      have g1 := (ckE_ok a O h3).1
      have g2 := (ckE_ok b O h4).1
      have g3 := (ckE_ok c O h5).1
      exact ⟨se_chain O.hu g1 g2 g3 (behind_of h6 _), fun _ => st_chain O.hu g1 g2 g3 (behind_of h6 _)⟩
    · cases h
  | .ite c a b, ctx, X, O, e, h => by
    unfold ckE at h
    split at h
    · rw [Bool.and_eq_true, Bool.and_eq_true, Bool.and_eq_true] at h
      obtain ⟨⟨⟨h1, h2⟩, h3⟩, h4⟩ := h
      exact .val (se_ite ((ckE_ok c O h1).2 h2) (ckE_ok a O h3).1 (ckE_ok b O h4).1) fun z => z
    · cases h
  | .tup es, ctx, X, O, e, h => by
    unfold ckE at h
    split at h
    · rw [Bool.and_eq_true, decide_eq_true_eq] at h
      exact .val (se_tup (ckL_ok es O h.1).sa.1 fun ws r r' z => by rw [evs_n z]; exact h.2) fun _ => rfl
    · cases h
  | .list es, ctx, X, O, e, h => by
    unfold ckE at h
    split at h
    · rw [Bool.and_eq_true, decide_eq_true_eq] at h
      exact .val (se_list (ckL_ok es O h.1).sa.1 fun ws r r' z => by rw [evs_n z]; exact h.2) fun _ => rfl
    · cases h
  | .sub a i, ctx, X, O, e, h => by
    unfold ckE at h
    split at h
    · rw [Bool.and_eq_true, Bool.and_eq_true] at h
      obtain ⟨⟨h1, h2⟩, h3⟩ := h
      exact .val (se_sub (ckE_ok a O h1).1 (ckE_ok i O h2).1 (plain_ix h3)) fun _ => rfl
    · cases h
  | .cut a lo hi, ctx, X, O, e, h => by
    unfold ckE at h
    split at h
    · rename_i x l hh p1 p2
      rw [Bool.and_eq_true, Bool.and_eq_true] at h
      obtain ⟨⟨h1, h2⟩, h3⟩ := h
      have part : ∀ (y : E) (o : Option Expr), (∀ {e : Expr}, ckE y ctx e = true → Good X C e y) → (match o with
        | none => isNil y
        | some l => !isNil y && ckE y ctx l) = true → SO X C o y := fun y o g hy => by
        cases o with
        | none =>
          dsimp only at hy
          cases y <;> first | (cases hy; done) | skip
          exact so_none
        | some l =>
          dsimp only at hy
          rw [Bool.and_eq_true, Bool.not_eq_true'] at hy
          exact so_some (g hy.2).1 (not_nil hy.1)
      exact .val (se_cut (ckE_ok a O h1).1 (part lo l (fun z => ckE_ok lo O z) h2) (part hi hh (fun z => ckE_ok hi O z) h3)) fun _ => rfl
    · cases h
  | .bi b ys, ctx, X, O, e, h => by
    unfold ckE at h
    split at h
    · rename_i n p es pos
      have gen : (biD b && decide (n = biN b) && blB ctx n && !es.isEmpty && ckL ys ctx es) = true → Good X C (.Call (.Name n p) es [] pos) (.bi b ys) := fun h => by
        rw [Bool.and_eq_true, Bool.and_eq_true, Bool.and_eq_true, Bool.and_eq_true, decide_eq_true_eq] at h
        obtain ⟨⟨⟨⟨h1, rfl⟩, h3⟩, h4⟩, h5⟩ := h
        obtain ⟨g1, g2⟩ := O.bl h3
        obtain ⟨g3, g4⟩ := (ckL_ok ys O h5).sa
        cases es with
        | nil => cases h4
        | cons e es => exact .val (se_bi h1 O.calm O.hu g1 g2 g3 (g4 e (by simp)) fun e' he => g4 e' (by simp [he])) fun _ => rfl
      split at h
      · rw [Bool.and_eq_true, Bool.and_eq_true, decide_eq_true_eq] at h
        obtain ⟨⟨rfl, h2⟩, h3⟩ := h
        split at h3
        · rw [Bool.and_eq_true, Bool.and_eq_true, decide_eq_true_eq] at h3
          obtain ⟨⟨rfl, h4⟩, h5⟩ := h3
          obtain ⟨g1, g2⟩ := O.bl h2
          obtain ⟨g3, g4⟩ := O.bl h4
          have g := ckL_ok ys O h5
          cases ys <;> first | (cases g; done) | skip
          rename_i y ys
          obtain ⟨k1, k2, k3⟩ := g
          cases ys <;> first | (cases k3; done) | skip
          exact .val (se_lenset O.calm g1 g2 g3 g4 k1.1 k2) fun _ => rfl
        · cases h3
      · rw [Bool.and_eq_true, Bool.and_eq_true, decide_eq_true_eq] at h
        obtain ⟨⟨rfl, h2⟩, h3⟩ := h
        split at h3
        · rw [Bool.and_eq_true, Bool.and_eq_true, decide_eq_true_eq] at h3
          obtain ⟨⟨rfl, h4⟩, h5⟩ := h3
          obtain ⟨g1, g2⟩ := O.bl h2
          obtain ⟨g3, g4⟩ := O.bl h4
          have g := ckL_ok ys O h5
          cases ys <;> first | (cases g; done) | skip
          rename_i y ys
          obtain ⟨k1, k2, k3⟩ := g
          cases ys <;> first | (cases k3; done) | skip
          exact .val (se_sortset O.calm O.hu g1 g2 g3 g4 k1.1 k2) fun _ => rfl
        · cases h3
      · rw [Bool.and_eq_true, Bool.and_eq_true, decide_eq_true_eq] at h
        obtain ⟨⟨rfl, h2⟩, h3⟩ := h
        split at h3
        · rw [Bool.and_eq_true, Bool.and_eq_true, decide_eq_true_eq] at h3
          obtain ⟨⟨rfl, h4⟩, h5⟩ := h3
          obtain ⟨g1, g2⟩ := O.bl h2
          obtain ⟨g3, g4⟩ := O.bl h4
          have g := ckL_ok ys O h5
          cases ys <;> first | (cases g; done) | skip
          rename_i y ys
          obtain ⟨k1, k2, k3⟩ := g
          cases ys <;> first | (cases k3; done) | skip
          exact .val (se_listrange O.calm g1 g2 g3 g4 k1.1 k2) fun _ => rfl
        · cases h3
      · exact gen h
    · cases h
  | .isi x t, ctx, X, O, e, h => by
    unfold ckE at h
    split at h
    · rw [Bool.and_eq_true, Bool.and_eq_true, Bool.and_eq_true, Bool.and_eq_true, Bool.and_eq_true, decide_eq_true_eq, decide_eq_true_eq] at h
      obtain ⟨⟨⟨⟨⟨rfl, h2⟩, h3⟩, h4⟩, h5⟩, h6⟩ := h
      obtain ⟨g1, g2⟩ := O.bl h2
      obtain ⟨g3, g4⟩ := O.bl h4
      exact .val (se_isi h3 g1 g2 g3 g4 (ckE_ok x O h5).1 (ns_of h6)) fun _ => rfl
    · cases h
  | .call f ys, ctx, X, O, e, h => by
    unfold ckE at h
    split at h
    · rename_i n p es pos
      rw [Bool.and_eq_true, Bool.and_eq_true, decide_eq_true_eq] at h
      obtain ⟨⟨h1, h2⟩, h3⟩ := h
      obtain ⟨m, k⟩ := O.fns f n h1
      have g := ckL_ok ys O h3
      cases es with
      | nil =>
        cases ys <;> first | (cases g; done) | skip
        exact .val (se_call0 k (O.gl h2)) fun _ => rfl
      | cons e es =>
        obtain ⟨g3, g4⟩ := g.sa
        exact .val (se_call k (O.gl h2) g3 (g4 e (by simp)) fun e' he => g4 e' (by simp [he])) fun _ => rfl
    · cases h
  | .app i x, ctx, X, O, e, h => by
    unfold ckE at h
    split at h
    · rw [Bool.and_eq_true, Bool.and_eq_true, Bool.and_eq_true, Bool.and_eq_true, decide_eq_true_eq] at h
      obtain ⟨⟨⟨⟨rfl, h2⟩, h3⟩, h4⟩, h5⟩ := h
      obtain ⟨g1, g2, g3, g4⟩ := O.nm h2
      exact .val (se_app g1 g2 g3 g4 (ckE_ok x O h4).1 (ns_of h5) h3 rfl) fun _ => rfl
    · cases h
  | .ext i x, ctx, X, O, e, h => by
    unfold ckE at h
    split at h
    · rw [Bool.and_eq_true, Bool.and_eq_true, Bool.and_eq_true, Bool.and_eq_true, decide_eq_true_eq] at h
      obtain ⟨⟨⟨⟨rfl, h2⟩, h3⟩, h4⟩, h5⟩ := h
      obtain ⟨g1, g2, g3, g4⟩ := O.nm h2
      exact .val (se_ext g1 g2 g3 g4 (ckE_ok x O h4).1 (ns_of h5) h3 rfl) fun _ => rfl
    · cases h
  | .pop i, ctx, X, O, e, h => by
    unfold ckE at h
    split at h
    · rw [Bool.and_eq_true, Bool.and_eq_true, decide_eq_true_eq] at h
      obtain ⟨⟨rfl, h2⟩, h3⟩ := h
      obtain ⟨g1, g2, g3, g4⟩ := O.nm h2
      exact .val (se_pop g1 g2 g3 g4 h3 rfl) fun _ => rfl
    · cases h
  | .popAt i x, ctx, X, O, e, h => by
    unfold ckE at h
    split at h
    · rw [Bool.and_eq_true, Bool.and_eq_true, Bool.and_eq_true, Bool.and_eq_true, decide_eq_true_eq] at h
      obtain ⟨⟨⟨⟨rfl, h2⟩, h3⟩, h4⟩, h5⟩ := h
      obtain ⟨g1, g2, g3, g4⟩ := O.nm h2
      exact .val (se_popAt g1 g2 g3 g4 (ckE_ok x O h4).1 (ns_of h5) h3 rfl) fun _ => rfl
    · cases h
  | .lc t k es c x own, ctx, X, O, e, h => by
    obtain ⟨elt, tg, iter, ifs, scope, pos, rfl, L⟩ := lc_parts O (fun z => ckL_ok es O z) (fun {_ _} O' {_} z => ckE_ok c O' z) (fun {_ _} O' {_} z => ckE_ok x O' z) h
    exact .val (L.se O) fun _ => rfl
  | .meth _ _ _, _, _, _, _, h => by rw [ckE] at h; cases h
  | .nil, _, _, _, _, h => by rw [ckE] at h; cases h
  | .cons _ _, _, _, _, _, h => by rw [ckE] at h; cases h
theorem ckL_ok : ∀ (x : E) {ctx : Ctx} {X : Cx} (O : CtxOk ctx X C) {es : List Expr}, ckL x ctx es = true → GL X C x es
  | .nil, ctx, X, O, es, h => by
    cases es with
    | nil => trivial
    | cons e es => rw [ckL] at h; cases h
  | .cons x xs, ctx, X, O, es, h => by
    cases es with
    | nil => rw [ckL] at h; cases h
    | cons e es =>
      rw [ckL, Bool.and_eq_true, Bool.and_eq_true] at h
      exact ⟨ckE_ok x O h.1.1, ns_of h.1.2, ckL_ok xs O h.2⟩
  | .var _, _, _, _, _, h => by simp [ckL] at h
  | .lit _, _, _, _, _, h => by simp [ckL] at h
  | .tk _, _, _, _, _, h => by simp [ckL] at h
  | .bin _ _ _, _, _, _, _, h => by simp [ckL] at h
  | .neg _, _, _, _, _, h => by simp [ckL] at h
  | .not _, _, _, _, _, h => by simp [ckL] at h
  | .and _ _, _, _, _, _, h => by simp [ckL] at h
  | .or _ _, _, _, _, _, h => by simp [ckL] at h
  | .cmp _ _ _, _, _, _, _, h => by simp [ckL] at h
  | .chain _ _ _ _ _, _, _, _, _, h => by simp [ckL] at h
  | .ite _ _ _, _, _, _, _, h => by simp [ckL] at h
  | .tup _, _, _, _, _, h => by simp [ckL] at h
  | .list _, _, _, _, _, h => by simp [ckL] at h
  | .sub _ _, _, _, _, _, h => by simp [ckL] at h
  | .cut _ _ _, _, _, _, _, h => by simp [ckL] at h
  | .bi _ _, _, _, _, _, h => by simp [ckL] at h
  | .meth _ _ _, _, _, _, _, h => by simp [ckL] at h
  | .isi _ _, _, _, _, _, h => by simp [ckL] at h
  | .call _ _, _, _, _, _, h => by simp [ckL] at h
  | .app _ _, _, _, _, _, h => by simp [ckL] at h
  | .ext _ _, _, _, _, _, h => by simp [ckL] at h
  | .pop _, _, _, _, _, h => by simp [ckL] at h
  | .popAt _ _, _, _, _, _, h => by simp [ckL] at h
  | .lc _ _ _ _ _ _, _, _, _, _, h => by simp [ckL] at h
end
theorem lc_full (O : CtxOk ctx X C) {t : Tg} {k : Ik} {es c x : E} {own : List Nat} {e : Expr} (h : ckE (.lc t k es c x own) ctx e = true) : ∃ elt tg iter ifs scope pos, e = .ListComp elt [⟨tg, iter, ifs, 0⟩] scope pos ∧ LcOk X C t k es c x own elt tg iter ifs scope :=
  lc_parts O (fun z => ckL_ok es O z) (fun {_ _} O' {_} z => ckE_ok c O' z) (fun {_ _} O' {_} z => ckE_ok x O' z) h
end
end MP

-- part Mp16
set_option maxHeartbeats 4000000
/-! Is the given text that MP term? Statements. -/
namespace MP
open PySem PySem.Spec PyProof.Rows L2

def notComp : Expr → Bool
  | .ListComp .. => false
  | .SetComp .. => false
  | .DictComp .. => false
  | _ => true
/-- does name = e store ahead of the comprehension's end -/
def swL (sc : Scope) (e : Expr) (n : Str) (px : Pos) : Bool :=
  let go (s : Scope) (p : Pos) : Bool := (if sc.kind.isAnnotationScope then ScopeKind.function else sc.kind) == .function && sc.names.lookup n == some .local && px.line == p.line && !(s.names.any fun (k, l) => k == n && (l == .local || l == .cell))
  match e with
  | .ListComp _ _ s p => go s p
  | .SetComp _ _ s p => go s p
  | .DictComp _ _ _ s p => go s p
  | _ => false
theorem sw_is {e : Expr} {n : Str} {px : Pos} {l : Nat} {env : PySem.Env} : swapsWith e (some (.Name n px)) l env = pure (swL env.scope e n px) := by
  cases e <;> rfl
theorem sw_none {e : Expr} {l : Nat} {env : PySem.Env} (h : notComp e = true) : swapsWith e none l env = pure false := by
  cases e <;> first | rfl | cases h
theorem sw_tup {e : Expr} {es : List Expr} {k : Nat} {p : Pos} {l : Nat} {env : PySem.Env} : swapsWithSole [.Tuple es k p] e l env = pure false := by
  cases e <;> rfl
theorem sw_sub {e o i : Expr} {p : Pos} {l : Nat} {env : PySem.Env} : swapsWithSole [.Subscript o i p] e l env = pure false := by
  cases e <;> rfl
theorem ss_subn {e o i : Expr} {p : Pos} {env : PySem.Env} : swappedStores [.Subscript o i p] e env = pure none := by
  cases e <;> rfl
theorem ss_tupn {e : Expr} {es : List Expr} {k : Nat} {p : Pos} {env : PySem.Env} (h : isTup e = false) : swappedStores [.Tuple es k p] e env = pure none := by
  cases e <;> first | rfl | cases h
def starE : Expr → Bool
  | .Starred .. => true
  | _ => false
/-- a, b = .. is stored name by name -/
def swS (sc : Scope) (vs : List Expr) : Bool := (if sc.kind.isAnnotationScope then ScopeKind.function else sc.kind) == .function && !(vs.any starE) && !(vs.all (foldedForSure 8)) && !(vs.all (constantsAlone 8))
theorem star_any (vs : List Expr) : (vs.any fun | .Starred .. => true | _ => false) = vs.any starE := rfl
theorem sws2 {env : PySem.Env} {n m : Str} {px py pt pt2 : Pos} {kt k2 : Nat} {a b : Expr} (h : swS env.scope [a, b] = true) (hn : env.scope.names.lookup n = some .local) (hm : env.scope.names.lookup m = some .local) (hl : (py.line == px.line) = true) (hne : n ≠ m) :
    swappedStores [.Tuple [.Name n px, .Name m py] kt pt] (.Tuple [a, b] k2 pt2) env = pure (some [n, m]) := by
  unfold swS at h
  simp only [Bool.and_eq_true, Bool.not_eq_true'] at h
  obtain ⟨⟨⟨h1, h2⟩, h3⟩, h4⟩ := h
  have k1 : (env.kindOf n == some .local) = true := by show (env.scope.names.lookup n == some .local) = true; rw [hn]; rfl
  have k2 : (env.kindOf m == some .local) = true := by show (env.scope.names.lookup m == some .local) = true; rw [hm]; rfl
  have hb : (env.blockKind != .function) = false := by
    show (!(env.blockKind == .function)) = false
    rw [show (env.blockKind == .function) = true from h1]; rfl
  have hd : ([n, m] : List Str).eraseDups = [n, m] := by
    rw [List.eraseDups_cons, List.filter_cons, if_pos (by simpa using fun z => hne z.symm), List.filter_nil, List.eraseDups_cons, List.filter_nil, List.eraseDups_nil]
  unfold swappedStores
  simp only [List.length_cons, List.length_nil, List.head?_cons, Option.map_some, Option.getD_some, List.filterMap_cons, List.filterMap_nil, Expr.pos, k1, k2, hl, hb, h3, h4, beq_self_eq_true, Bool.and_self, if_true, hd]
  rw [if_neg (by decide), if_neg (by rw [Bool.not_eq_true]; exact h2), if_neg (by decide), if_neg (by decide), if_neg (by decide)]
theorem sws3 {env : PySem.Env} {n m l : Str} {px py pz pt pt2 : Pos} {kt k2 : Nat} {a b c : Expr} (h : swS env.scope [a, b, c] = true) (hn : env.scope.names.lookup n = some .local) (hm : env.scope.names.lookup m = some .local) (hq : env.scope.names.lookup l = some .local)
    (hl : (py.line == px.line) = true) (hl2 : (pz.line == px.line) = true) (hne : n ≠ m) (hne2 : n ≠ l) (hne3 : m ≠ l) :
    swappedStores [.Tuple [.Name n px, .Name m py, .Name l pz] kt pt] (.Tuple [a, b, c] k2 pt2) env = pure (some [n, m, l]) := by
  unfold swS at h
  simp only [Bool.and_eq_true, Bool.not_eq_true'] at h
  obtain ⟨⟨⟨h1, h2⟩, h3⟩, h4⟩ := h
  have k1 : (env.kindOf n == some .local) = true := by show (env.scope.names.lookup n == some .local) = true; rw [hn]; rfl
  have k2 : (env.kindOf m == some .local) = true := by show (env.scope.names.lookup m == some .local) = true; rw [hm]; rfl
  have k3 : (env.kindOf l == some .local) = true := by show (env.scope.names.lookup l == some .local) = true; rw [hq]; rfl
  have hb : (env.blockKind != .function) = false := by
    show (!(env.blockKind == .function)) = false
    rw [show (env.blockKind == .function) = true from h1]; rfl
  have hd : ([n, m, l] : List Str).eraseDups = [n, m, l] := by
    rw [List.eraseDups_cons, List.filter_cons, if_pos (by simpa using fun z => hne z.symm), List.filter_cons, if_pos (by simpa using fun z => hne2 z.symm), List.filter_nil, List.eraseDups_cons, List.filter_cons, if_pos (by simpa using fun z => hne3 z.symm), List.filter_nil, List.eraseDups_cons, List.filter_nil, List.eraseDups_nil]
  unfold swappedStores
  simp only [List.length_cons, List.length_nil, List.head?_cons, Option.map_some, Option.getD_some, List.filterMap_cons, List.filterMap_nil, Expr.pos, k1, k2, k3, hl, hl2, hb, h3, h4, beq_self_eq_true, Bool.and_self, if_true, hd]
  rw [if_neg (by decide), if_neg (by rw [Bool.not_eq_true]; exact h2), if_neg (by decide), if_neg (by decide), if_neg (by decide)]
def swNames (sc : Scope) (ts : List Expr) (line : Nat) : List Str := ts.filterMap fun
  | .Name id pos => if sc.names.lookup id == some .local && pos.line == line then some id else none
  | _ => none
/-- a, b = .. goes by the tuple itself -/
def swN (sc : Scope) (ts vs : List Expr) : Bool :=
  let names := swNames sc ts ((ts.head?.map (·.pos.line)).getD 0)
  (!(ts.length == 2 || ts.length == 3) || vs.length != ts.length || (if sc.kind.isAnnotationScope then ScopeKind.function else sc.kind) != .function) || vs.any starE || (names.length != ts.length || names.eraseDups.length != names.length) || vs.all (foldedForSure 8)
theorem sw_no {env : PySem.Env} {ts vs : List Expr} {kt k2 : Nat} {pt pt2 : Pos} (h : swN env.scope ts vs = true) : swappedStores [.Tuple ts kt pt] (.Tuple vs k2 pt2) env = pure none := by
  show (if (!(ts.length == 2 || ts.length == 3) || vs.length != ts.length || env.blockKind != .function) = true then pure none else if vs.any starE = true then pure none else
    if ((swNames env.scope ts ((ts.head?.map (·.pos.line)).getD 0)).length != ts.length || (swNames env.scope ts ((ts.head?.map (·.pos.line)).getD 0)).eraseDups.length != (swNames env.scope ts ((ts.head?.map (·.pos.line)).getD 0)).length) = true then pure none else
    if vs.all (foldedForSure 8) = true then pure none else (_ : Sem (Option (List Str)))) = pure none
  split
  · rfl
  · rename_i h1
    split
    · rfl
    · rename_i h2
      split
      · rfl
      · rename_i h3
        split
        · rfl
        · rename_i h4
          exfalso
          rw [Bool.not_eq_true] at h1 h2 h3 h4
          unfold swN at h
          rw [show (!(ts.length == 2 || ts.length == 3) || vs.length != ts.length || (if env.scope.kind.isAnnotationScope then ScopeKind.function else env.scope.kind) != .function) = false from h1] at h
          simp only [h2, h3, h4] at h
          cases h
def isLc : E → Bool
  | .lc .. => true
  | _ => false
def loB (ctx : Ctx) (n : Str) : Bool := match ctx.sc.names.lookup n with
  | some .local => true
  | _ => false
theorem CtxOk.lo {ctx : Ctx} {X : Cx} {C : CallF} {n : Str} (O : CtxOk ctx X C) (h : loB ctx n = true) : X.env.scope.names.lookup n = some .local := by
  unfold loB at h
  rw [O.sc]
  split at h
  · assumption
  · cases h
/-- the body of a def that fills a dict by pairs that meet -/
def folB (ctx : Ctx) : List Stmt → Bool
  | [.Assign [.Name n2 _] (.Dict [] [] _) _, .For (.Tuple [.Name n3 _, .Name n4 _] _ _) (.Name n0 _) [.For (.Tuple [.Name n5 _, .Name n6 _] _ _) (.Name n1 _) [.If (.Compare (.Name m5 _) [.Eq] [.Name m4 _] _)
      [.Assign [.Subscript (.Name m2 _) (.Tuple [.Name m3 _, .Name m6 _] _ _) _] (.Constant (.bool true) _ _) _] [] _] [] _] [] _, .Return (some (.Call (.Name f _) [.Name l2 _] [] _)) _] =>
    decide (m5 = n5) && decide (m4 = n4) && decide (m2 = n2) && decide (m3 = n3) && decide (m6 = n6) && decide (l2 = n2) && decide (f = "sorted") && blB ctx f && nmOk ctx 0 n0 && nmOk ctx 1 n1 && nmOk ctx 2 n2 && nmOk ctx 3 n3 && nmOk ctx 4 n4 && nmOk ctx 5 n5 && nmOk ctx 6 n6
      && stB ctx n2 && stB ctx n3 && stB ctx n4 && stB ctx n5 && stB ctx n6
  | _ => false
theorem folB_ok {X : Cx} {C : CallF} {ctx : Ctx} (O : CtxOk ctx X C) (hp : PassesOwn (model X.prog X.w) X.A X.env X.xe) {sts : List Stmt} (h : folB ctx sts = true) : SSs X C sts .folw := by
  unfold folB at h
  split at h
  · simp only [Bool.and_eq_true, decide_eq_true_eq] at h
    obtain ⟨⟨⟨⟨⟨⟨⟨⟨⟨⟨⟨⟨⟨⟨⟨⟨⟨⟨⟨e1, e2⟩, e3⟩, e4⟩, e5⟩, e6⟩, e7⟩, b1⟩, a0⟩, a1⟩, a2⟩, a3⟩, a4⟩, a5⟩, a6⟩, s2⟩, s3⟩, s4⟩, s5⟩, s6⟩ := h
    subst e1 e2 e3 e4 e5 e6 e7
    have nm : ∀ {i : Nat} {n : Str}, nmOk ctx i n = true → NmOk X i n := fun z => let ⟨z1, z2, z3, z4⟩ := O.nm z; ⟨z1, z2, z3, z4⟩
    obtain ⟨g1, g2⟩ := O.bl b1
    exact ss_folw hp O.calm O.hu O.nd (nm a0) (nm a1) (nm a2) (nm a3) (nm a4) (nm a5) (nm a6) (O.st s2) (O.st s3) (O.st s4) (O.st s5) (O.st s6) g1 g2
  · cases h
mutual
def ckS : S → Ctx → Stmt → Bool
  | .skip, _, st => match st with
    | .Pass _ => true
    | .Expr (.Constant (.str _) _ _) _ => true
    | _ => false
  | .asn t x, ctx, st => match st with
    | .Assign [tg] e _ => match t with
      | .nm i => (match tg with
        | .Name n px => decide (ctx.N[i]? = some n) && ckE x ctx e && (match swL ctx.sc e n px with
          | true => isLc x && loB ctx n
          | false => stB ctx n)
        | _ => false)
      | .tp ts => (match tg with
        | .Tuple tl _ _ => ckE x ctx e && ckG ctx (.tp ts) tg && (match e with
          | .Tuple vs _ _ => swN ctx.sc tl vs
          | _ => true)
        | _ => false)
      | _ => false
    | _ => false
  | .par t ys, ctx, st => match st with
    | .Assign [.Tuple [.Name n px, .Name m py] _ _] (.Tuple [a, b] _ _) _ => match t with
      | .cons (.nm i) (.cons (.nm j) .nil) => (match swN ctx.sc [.Name n px, .Name m py] [a, b] with
        | true => ckL ys ctx [a, b] && decide (ctx.N[i]? = some n) && decide (ctx.N[j]? = some m) && stB ctx n && stB ctx m
        | false => ckL ys ctx [a, b] && swS ctx.sc [a, b] && decide (ctx.N[i]? = some n) && decide (ctx.N[j]? = some m) && loB ctx n && loB ctx m && (py.line == px.line) && decide (n ≠ m))
      | _ => false
    | .Assign [.Tuple [.Name n px, .Name m py, .Name l pz] _ _] (.Tuple [a, b, c] _ _) _ => match t with
      | .cons (.nm i) (.cons (.nm j) (.cons (.nm k) .nil)) => match swN ctx.sc [.Name n px, .Name m py, .Name l pz] [a, b, c] with
        | true => ckL ys ctx [a, b, c] && decide (ctx.N[i]? = some n) && decide (ctx.N[j]? = some m) && decide (ctx.N[k]? = some l) && stB ctx n && stB ctx m && stB ctx l
        | false => ckL ys ctx [a, b, c] && swS ctx.sc [a, b, c] && decide (ctx.N[i]? = some n) && decide (ctx.N[j]? = some m) && decide (ctx.N[k]? = some l) && loB ctx n && loB ctx m && loB ctx l
        && (py.line == px.line) && (pz.line == px.line) && decide (n ≠ m) && decide (n ≠ l) && decide (m ≠ l)
      | _ => false
    | _ => false
  | .setix i x v, ctx, st => match st with
    | .Assign [.Subscript (.Name n _) a _] e _ => nmOk ctx i n && ckE v ctx e && ckE x ctx a && notSlice a
    | _ => false
  | .expr x, ctx, st => match st with
    | .Expr e _ => ckE x ctx e && notComp e
    | _ => false
  | .ret x, ctx, st => match st with
    | .Return (some e) _ => ckE x ctx e
    | _ => false
  | .retn, _, st => match st with
    | .Return none _ => true
    | _ => false
  | .ite c a b, ctx, st => match st with
    | .If c' as bs _ => ckE c ctx c' && tOk c c' && ckB a ctx as && ckB b ctx bs
    | _ => false
  | .for_ t k es b, ctx, st => match st with
    | .For tg iter body [] _ => (match k with
        | .seq => ckL es ctx [iter]
        | .rng1 => (match iter with
          | .Call (.Name n _) [a] [] _ => decide (n = "range") && blB ctx n && ckL es ctx [a]
          | _ => false)
        | .rng2 => (match iter with
          | .Call (.Name n _) [a, b] [] _ => decide (n = "range") && blB ctx n && ckL es ctx [a, b]
          | _ => false)
        | .enum => (match iter with
          | .Call (.Name n _) [a] [] _ => decide (n = "enumerate") && blB ctx n && isTup tg && ckL es ctx [a]
          | _ => false)
        | .zip => (match iter with
          | .Call (.Name n _) [a, b] [] _ => decide (n = "zip") && blB ctx n && isTup tg && ckL es ctx [a, b]
          | _ => false)) && notSet iter && ckG ctx t tg && ckB b ctx body
    | _ => false
  | .wh c b, ctx, st => match st with
    | .While c' body [] _ => ckE c ctx c' && tOk c c' && ckB b ctx body
    | _ => false
  | .brk, _, st => match st with
    | .Break _ => true
    | _ => false
  | .dead, _, _ => true
  | .fz s _, ctx, st => ckS s ctx st
  | .seq _ _, _, _ => false
  | .folw, _, _ => false
def ckB : S → Ctx → List Stmt → Bool
  | .seq a b, ctx, sts => match sts with
    | st :: sts => ckS a ctx st && ckB b ctx sts
    | [] => false
  | .skip, _, sts => sts.isEmpty
  | .dead, _, _ => true
  | .folw, ctx, sts => folB ctx sts
  | _, _, _ => false
end
section
variable {X : Cx} {C : CallF} {ctx : Ctx}
mutual
theorem ckS_ok (O : CtxOk ctx X C) (hp : PassesOwn (model X.prog X.w) X.A X.env X.xe) : ∀ (s : S) {st : Stmt}, ckS s ctx st = true → SS X C st s
  | .skip, st, h => by
    unfold ckS at h
    split at h
    · exact ss_pass
    · exact ss_doc
    · cases h
  | .asn t x, st, h => by
    unfold ckS at h
    split at h
    · split at h
      · split at h
        · rename_i i _ n px
          rw [Bool.and_eq_true, Bool.and_eq_true, decide_eq_true_eq] at h
          obtain ⟨⟨h1, h2⟩, h3⟩ := h
          have hi : X.N[i]? = some n := by rw [O.N]; exact h1
          split at h3
          · rename_i hsw
            rw [Bool.and_eq_true] at h3
            obtain ⟨h4, h5⟩ := h3
            cases x <;> first | (cases h4; done) | skip
            obtain ⟨elt, tg, iter, ifs, scope, pos, rfl, L⟩ := lc_full O h2
            have g := fun spos => ss_setLc (spos := spos) O.calm O.nd hi (O.lo h5) (sw_is.trans (by rw [O.sc, hsw])) L.hi L.ok L.hg L.ht L.he L.hs L.hown
            simp only [ownL_map] at g
            exact g _
          · rename_i hsw
            exact ss_set O.nd hi (O.st h3) (ckE_ok x O h2).1 (sw_is.trans (by rw [O.sc, hsw]))
        · cases h
      · split at h
        · rw [Bool.and_eq_true, Bool.and_eq_true] at h
          obtain ⟨⟨h1, h2⟩, h3⟩ := h
          refine ss_asgT (ckE_ok x O h1).1 (ckG_ok O h2).1 sw_tup ?_ rfl
          split at h3
          · exact sw_no (by rw [O.sc]; exact h3)
          · rename_i hne
            refine ss_tupn ?_
            rename_i e _ _ _ _ _ _ _
            unfold isTup
            split
            · exact (hne _ _ _ rfl).elim
            · rfl
        · cases h
      · cases h
    · cases h
  | .par t ys, st, h => by
    unfold ckS at h
    split at h
    · split at h
      · split at h
        · rename_i hsw
          simp only [Bool.and_eq_true, decide_eq_true_eq] at h
          obtain ⟨⟨⟨⟨h1, h3⟩, h4⟩, h5⟩, h6⟩ := h
          rw [← O.N] at h3 h4
          exact ss_parT O.calm O.nd h3 h4 (O.st h5) (O.st h6) (ckL_ok ys O h1).sa.1 (sw_no (by rw [O.sc]; exact hsw))
        simp only [Bool.and_eq_true, decide_eq_true_eq] at h
        obtain ⟨⟨⟨⟨⟨⟨⟨h1, h2⟩, h3⟩, h4⟩, h5⟩, h6⟩, h7⟩, h8⟩ := h
        have hi := h3
        rw [← O.N] at hi
        have hj := h4
        rw [← O.N] at hj
        have hij := fun z => h8 (Option.some.inj (hi.symm.trans ((congrArg (X.N[·]?) z).trans hj)))
        exact ss_par O.calm O.nd hi hj hij (O.lo h5) (O.lo h6) (ckL_ok ys O h1).sa.1 (sws2 (by rw [O.sc]; exact h2) (O.lo h5) (O.lo h6) h7 h8)
      · cases h
    · split at h
      · split at h
        · rename_i hsw
          simp only [Bool.and_eq_true, decide_eq_true_eq] at h
          obtain ⟨⟨⟨⟨⟨⟨h1, h3⟩, h4⟩, h5⟩, h6⟩, h7⟩, h8⟩ := h
          rw [← O.N] at h3 h4 h5
          exact ss_parT3 O.calm O.nd h3 h4 h5 (O.st h6) (O.st h7) (O.st h8) (ckL_ok ys O h1).sa.1 (sw_no (by rw [O.sc]; exact hsw))
        simp only [Bool.and_eq_true, decide_eq_true_eq] at h
        obtain ⟨⟨⟨⟨⟨⟨⟨⟨⟨⟨⟨⟨h1, h2⟩, h3⟩, h4⟩, h5⟩, h6⟩, h7⟩, h8⟩, h9⟩, h10⟩, h11⟩, h12⟩, h13⟩ := h
        have hi := h3
        rw [← O.N] at hi
        have hj := h4
        rw [← O.N] at hj
        have hk := h5
        rw [← O.N] at hk
        have hij := fun z => h11 (Option.some.inj (hi.symm.trans ((congrArg (X.N[·]?) z).trans hj)))
        have hik := fun z => h12 (Option.some.inj (hi.symm.trans ((congrArg (X.N[·]?) z).trans hk)))
        have hjk := fun z => h13 (Option.some.inj (hj.symm.trans ((congrArg (X.N[·]?) z).trans hk)))
        exact ss_par3 O.calm O.nd hi hj hk hij hik hjk (O.lo h6) (O.lo h7) (O.lo h8) (ckL_ok ys O h1).sa.1 (sws3 (by rw [O.sc]; exact h2) (O.lo h6) (O.lo h7) (O.lo h8) h9 h10 h11 h12 h13)
      · cases h
    · cases h
  | .setix i x v, st, h => by
    unfold ckS at h
    split at h
    · rename_i n px a p2 e pos
      rw [Bool.and_eq_true, Bool.and_eq_true, Bool.and_eq_true] at h
      obtain ⟨⟨⟨h1, h2⟩, h3⟩, h4⟩ := h
      obtain ⟨g1, g2, g3, g4⟩ := O.nm h1
      exact ss_setix g1 g2 g3 g4 (ckE_ok v O h2).1 (ckE_ok x O h3).1 sw_sub ss_subn (by intro v; cases a <;> first | (cases h4; done) | rfl)
    · cases h
  | .expr x, st, h => by
    unfold ckS at h
    split at h
    · rw [Bool.and_eq_true] at h
      exact ss_expr (ckE_ok x O h.1).1 (sw_none h.2)
    · cases h
  | .ret x, st, h => by
    unfold ckS at h
    split at h
    · exact ss_ret (ckE_ok x O h).1
    · cases h
  | .retn, st, h => by
    unfold ckS at h
    split at h
    · exact ss_retn
    · cases h
  | .ite c a b, st, h => by
    unfold ckS at h
    split at h
    · rw [Bool.and_eq_true, Bool.and_eq_true, Bool.and_eq_true] at h
      obtain ⟨⟨⟨h1, h2⟩, h3⟩, h4⟩ := h
      exact ss_if ((ckE_ok c O h1).2 h2) (ckB_ok O hp a h3) (ckB_ok O hp b h4)
    · cases h
  | .for_ t k es b, st, h => by
    unfold ckS at h
    split at h
    · rw [Bool.and_eq_true, Bool.and_eq_true, Bool.and_eq_true] at h
      obtain ⟨⟨⟨h1, h2⟩, h3⟩, h4⟩ := h
      exact ss_for hp O.calm (it_ok O (fun z => ckL_ok es O z) h1) (ckG_ok O h3).1 (ckB_ok O hp b h4) (folded_of h2 _)
    · cases h
  | .wh c b, st, h => by
    unfold ckS at h
    split at h
    · rw [Bool.and_eq_true, Bool.and_eq_true] at h
      obtain ⟨⟨h1, h2⟩, h3⟩ := h
      exact ss_wh hp ((ckE_ok c O h1).2 h2) (ckB_ok O hp b h3)
    · cases h
  | .brk, st, h => by
    unfold ckS at h
    split at h
    · exact ss_brk
    · cases h
  | .dead, st, h => ss_dead
  | .fz s i, st, h => by
    unfold ckS at h
    exact ss_fz (ckS_ok O hp s h)
  | .seq _ _, st, h => by unfold ckS at h; cases h
  | .folw, st, h => by unfold ckS at h; cases h
theorem ckB_ok (O : CtxOk ctx X C) (hp : PassesOwn (model X.prog X.w) X.A X.env X.xe) : ∀ (s : S) {sts : List Stmt}, ckB s ctx sts = true → SSs X C sts s
  | .seq a b, sts, h => by
    unfold ckB at h
    split at h
    · rw [Bool.and_eq_true] at h
      exact ss_cons (ckS_ok O hp a h.1) (ckB_ok O hp b h.2)
    · cases h
  | .skip, sts, h => by
    unfold ckB at h
    cases sts with
    | nil => exact ss_nil
    | cons => cases h
  | .dead, sts, h => sss_dead
  | .folw, sts, h => by
    unfold ckB at h
    exact folB_ok O hp h
  | .asn _ _, _, h => by simp [ckB] at h
  | .par _ _, _, h => by simp [ckB] at h
  | .setix _ _ _, _, h => by simp [ckB] at h
  | .expr _, _, h => by simp [ckB] at h
  | .ret _, _, h => by simp [ckB] at h
  | .retn, _, h => by simp [ckB] at h
  | .ite _ _ _, _, h => by simp [ckB] at h
  | .for_ _ _ _ _, _, h => by simp [ckB] at h
  | .wh _ _, _, h => by simp [ckB] at h
  | .brk, _, h => by simp [ckB] at h
  | .fz _ _, _, h => by simp [ckB] at h
end
end
end MP

-- part Mp17
set_option maxHeartbeats 4000000
/-! All defs of a text. -/
namespace MP
open PySem PySem.Spec PyProof.Rows L2

section
variable {K : PySem.W.Frag} {H H' H1 H2 : Hp} {T T' : Addr → Prop} {σ σ' σ1 σ2 : L2.St} {r r' r1 r2 : Env} {vs : List V} {ss : List Sl}
theorem pad_at (hl : vs.length = ss.length) (k i : Nat) : gets (ss ++ List.replicate k .no) i = gets ss i ∧ ∀ v, (vs.map some ++ List.replicate k none : L2.St)[i]? = some (some v) ↔ (vs.map some : L2.St)[i]? = some (some v) := by
  by_cases h : i < ss.length
  · refine ⟨gets_app1 h, fun v => ?_⟩
    rw [List.getElem?_append_left (by rw [List.length_map, hl]; exact h)]
  · constructor
    · rw [gets_app2 (by omega)]
      cases q : gets ss i with
      | no => rfl
      | val d => exact absurd (gets_lt (by rw [q]; exact Sl.noConfusion)) h
      | acc m xs => exact absurd (gets_lt (by rw [q]; exact Sl.noConfusion)) h
    · intro v
      rw [List.getElem?_append_right (by rw [List.length_map, hl]; omega), List.getElem?_replicate, List.getElem?_eq_none (l := vs.map some) (by rw [List.length_map, hl]; omega)]
      constructor
      · intro z; split at z <;> cases z
      · intro z; cases z
theorem ER.pad (E : ER K H T (vs.map some) ss) (k : Nat) : ER K H T (vs.map some ++ List.replicate k none) (ss ++ List.replicate k .no) := by
  have hl : vs.length = ss.length := by have := E.len; rwa [List.length_map] at this
  have acc0 : ∀ b, Acc (vs.map some ++ List.replicate k none) (ss ++ List.replicate k .no) b → Acc (vs.map some) ss b := fun b ⟨i, m, xs, z1, z2⟩ => by
    rw [(pad_at hl k i).1] at z1
    exact ⟨i, m, xs, z1, ((pad_at hl k i).2 _).mp z2⟩
  have hN : ∀ b, (T b ∨ Acc (vs.map some ++ List.replicate k none) (ss ++ List.replicate k .no) b) → (T b ∨ Acc (vs.map some) ss b) := fun b z => z.imp id (acc0 b)
  refine ⟨by simp [hl], fun i d z => ?_, fun i m xs z => ?_, fun i j m m' xs ys a z1 z2 z3 z4 => ?_, E.tal⟩
  · rw [(pad_at hl k i).1] at z
    obtain ⟨v, e1, e2⟩ := E.val i d z
    exact ⟨v, ((pad_at hl k i).2 _).mpr e1, e2.anti hN⟩
  · rw [(pad_at hl k i).1] at z
    obtain ⟨a, us, e1, e2, e3, e4, e5⟩ := E.acc i m xs z
    exact ⟨a, us, ((pad_at hl k i).2 _).mpr e1, e2, e3, e4.anti hN, e5⟩
  · rw [(pad_at hl k i).1] at z1
    rw [(pad_at hl k j).1] at z2
    exact E.inj i j m m' xs ys a z1 z2 (((pad_at hl k i).2 _).mp z3) (((pad_at hl k j).2 _).mp z4)
end

/-- a row of the table: a def by its name, its statement, its slots, its MP form -/
structure Row where
  nm : Str
  st : Stmt
  N : List Str
  fn : Fn
def rowP (rows : List Row) : Nat → Option Fn := fun f => (rows[f]?).map (·.fn)
def Row.ps (w : Row) : List Str := w.N.take w.fn.n
/-- the checks of one row -/
def scB (N P : List Str) (sc : Scope) : Bool :=
  (match sc.kind with | .function => true | _ => false) && !sc.isCoroutine && !sc.isGenerator && decide (N.Nodup) && (P.all fun x => match sc.names.lookup x with
    | some .local => true
    | some .cell => true
    | _ => false) && (sc.names.all fun y => match y.2 with
    | .free => false
    | _ => true) && (N.all fun n => !(n == ("__debug__" : Str)) && !(n == ("__classdict__" : Str)))
theorem sc_ok {N : List Str} {k : Nat} {sc : Scope} (h : scB N (N.take k) sc = true) (hk : k ≤ N.length) : FnScope N (N.take k) sc ∧ ∀ (i : Nat) (n : Str), N[i]? = some n → (n == ("__debug__" : Str)) = false ∧ (n == ("__classdict__" : Str)) = false := by
  unfold scB at h
  simp only [Bool.and_eq_true, Bool.not_eq_true', decide_eq_true_eq, List.all_eq_true] at h
  obtain ⟨⟨⟨⟨⟨⟨h1, h2⟩, h3⟩, h4⟩, h5⟩, h6⟩, h7⟩ := h
  refine ⟨⟨?_, h2, h3, h4, ?_, fun x hx => ?_, fun y hy e => ?_⟩, fun i n e => h7 n (List.mem_of_getElem? e)⟩
  · split at h1
    · assumption
    · cases h1
  · rw [List.length_take, Nat.min_eq_left hk]
  · have := h5 x hx
    split at this
    · exact .inl (by assumption)
    · exact .inr (by assumption)
    · cases this
  · have := h6 y hy
    rw [e] at this
    cases this
/-- the defs' own parameters: positional, none with a default -/
def parB (st : Stmt) (ps : List Str) : Bool := match defArgs st with
  | ⟨[], as, none, [], [], none, []⟩ => decide (as.map (·.arg) = ps)
  | _ => false
def rowB (rows : List Row) (cns : List (Str × D)) (bls : List Str) (w : Row) : Bool :=
  decide (w.fn.n ≤ w.N.length) && decide (w.fn.m = w.N.length) && scB w.N (w.N.take w.fn.n) (defScope w.st) && ckB w.fn.b ⟨w.N, defScope w.st, none, rows.map (·.nm), cns, bls⟩ (defBody w.st)

/-- what is known of the table in the written part -/
structure TabOk (K : PySem.W.Frag) (mg : Str → Option Value) (rows : List Row) (cns : List (Str × D)) (bls : List Str) : Prop where
  fns : ∀ (f : Nat) (w : Row), rows[f]? = some w → ∃ a fd, Fun K w.nm w.nm w.st a fd ∧ mg w.nm = some (.ref a) ∧ (∀ us : List Value, us.length = w.ps.length → bindArgs fd ⟨us, []⟩ = pure (w.ps.zip us)) ∧ (w.nm == ("__debug__" : Str)) = false
  cns : ∀ n d, (n, d) ∈ cns → ∃ v u, mg n = some u ∧ RelV v u ∧ (n == ("__debug__" : Str)) = false ∧ ∀ H N, Rep K H N v d
  bls : ∀ n ∈ bls, mg n = none
section
variable {P : Program} {w : World} {K : PySem.W.Frag} {mg : Str → Option Value} {base : Heap} {rows : List Row} {cns : List (Str × D)} {bls : List Str}
theorem callF_len {f : Nat} {r : Row} (h : rows[f]? = some r) {n : Nat} {ss : List Sl} {u : W} {out : Env} (e : callF (rowP rows) n f ss = .ok u out) : ss.length = r.fn.n := by
  cases n with
  | zero => cases e
  | succ n =>
    unfold callF at e
    have hp : rowP rows f = some r.fn := by unfold rowP; rw [h]; rfl
    rw [hp] at e
    dsimp only at e
    split at e
    · assumption
    · cases e
theorem fin_inv {ss : List Sl} {x : R Fl} {u : W} {out : Env} (e : x.fin ss = .ok u out) : (∃ w0 r r', x = .ok (.ret w0) r ∧ outW w0 r = .ok u r' ∧ out = outs ss r') ∨ (∃ r, x = .ok .next r ∧ u = .val .non ∧ out = outs ss r) := by
  cases x with
  | ok f r =>
    cases f with
    | ret w0 =>
      obtain ⟨w', r', h1, h2⟩ := R.bind_inv (show (outW w0 r).bind (fun w' r' => R.ok w' (outs ss r')) = .ok u out from e)
      cases h2
      exact .inl ⟨w0, r, r', rfl, h1, rfl⟩
    | next => cases e; exact .inr ⟨r, rfl, rfl, rfl⟩
    | brk => cases e
  | exc _ _ => cases e
  | no => cases e
/-- every def of the table keeps what MP says, at every depth -/
theorem all_ok (TO : TabOk K mg rows cns bls) (ck : rows.all (rowB rows cns bls) = true) : ∀ (n f : Nat) (r : Row), rows[f]? = some r → ∀ a fd, Fun K r.nm r.nm r.st a fd → FnOk P w K mg base CX0 n a fd r.ps (spF K (callF (rowP rows) n) f r.fn.n)
  | 0, f, r, hr, a, fd, F => by
    refine ⟨fun vs H Q E h => ?_, fun A outer s H args us vs Q E _ _ _ _ h => ?_⟩
    · obtain ⟨_, T, ss, u, out, _, _, h, _⟩ := h; cases h
    · obtain ⟨_, T, ss, u, out, _, _, h, _⟩ := h; cases h
  | n + 1, f, r, hr, a, fd, F => by
    have hp : rowP rows f = some r.fn := by unfold rowP; rw [hr]; rfl
    have hb := List.all_eq_true.mp ck r (List.mem_of_getElem? hr)
    unfold rowB at hb
    rw [Bool.and_eq_true, Bool.and_eq_true, Bool.and_eq_true, decide_eq_true_eq, decide_eq_true_eq] at hb
    obtain ⟨⟨⟨b1, b2⟩, b3⟩, b4⟩ := hb
    obtain ⟨S, db⟩ := sc_ok b3 b1
    have hps : r.ps.length = r.fn.n := by unfold Row.ps; rw [List.length_take, Nat.min_eq_left b1]
    refine F.ok S (fun vs H Q E h => by rw [hps]; exact h.1) (fun cdv A outer s H vs Q E hR h => ?_)
    obtain ⟨hl, T, ss, u, out, E0, hfx, hC, hw, q⟩ := h
    refine ⟨rdS K (callF (rowP rows) n) r.fn.b, ?_, ?_⟩
    · refine ckB_ok ?_ PassesOwn.never r.fn.b b4
      refine ⟨rfl, S.nd, db, rfl, fun x => rfl, rfl, (by have := hR.un; show (A.deeper _).units + 200 < cLine; omega), fun f' nm hf => ?_, TO.cns, TO.bls⟩
      · have hf : (rows.map (·.nm))[f']? = some nm := hf
        rw [List.getElem?_map] at hf
        cases hf' : rows[f']? with
        | none => rw [hf'] at hf; cases hf
        | some r' =>
          rw [hf'] at hf
          cases hf
          obtain ⟨a', fd', F', mg', bd', db'⟩ := TO.fns f' r' hf'
          exact ⟨r'.fn.n, ⟨⟨a', fd', r'.ps, n, all_ok TO ck n f' r' hf' a' fd' F', hR, mg', F'.kp, .all bd'⟩, fun ss u out e => callF_len hf' e, db'⟩⟩
    · have hlen : ss.length = r.fn.n := by have := E0.len; rw [List.length_map] at this; rw [← this]; exact hl
      unfold callF at hC
      rw [hp] at hC
      dsimp only at hC
      rw [if_pos hlen] at hC
      have hk : r.N.length - vs.length = r.fn.m - r.fn.n := by rw [b2, hl]
      have hst : L2.start r.N vs = vs.map some ++ List.replicate (r.fn.m - r.fn.n) none := by unfold L2.start; rw [hk]
      rw [hst]
      have hf0 : ∀ i m xs, gets (ss ++ List.replicate (r.fn.m - r.fn.n) .no) i = .acc m xs → m = .fix := fun i m xs z => by
        rw [(pad_at (vs := vs) (by rw [hl, hlen]) _ i).1] at z
        exact hfx i m xs z
      rcases fin_inv hC with ⟨w0, r1, r2, h1, h2, rfl⟩ | ⟨r1, h1, rfl, rfl⟩
      · refine ⟨T, _, _, _, E0.pad _, h1, fun v σ' H' p => ?_⟩
        obtain ⟨p1, p2⟩ := p.out h2 hf0
        exact q v H' (Po.fin E0 hfx p1 p2)
      · exact ⟨T, _, _, _, E0.pad _, h1, fun σ' H' p => q _ H' (Po.fin E0 hfx p.non1 fun _ z => nomatch z)⟩
end
end MP

-- part Mp18
set_option maxHeartbeats 1000000
/-! From the table and the plain law to the law of the text. -/
namespace MP
open PySem PySem.Spec PyProof.Rows L2

/-- a def is known in the written part -/
def Known (K : PySem.W.Frag) (mg : Str → Option Value) (w : Row) : Prop := ∃ a fd, Fun K w.nm w.nm w.st a fd ∧ mg w.nm = some (.ref a) ∧ (∀ us : List Value, us.length = w.ps.length → bindArgs fd ⟨us, []⟩ = pure (w.ps.zip us)) ∧ (w.nm == ("__debug__" : Str)) = false
theorem known_of {K : PySem.W.Frag} {h : Heap} {mg : Str → Option Value} (X : K.In h) (G : h.Ns mainGlobals mg) {nm : Str} {st : Stmt} {N : List Str} {fn : Fn} {f : Addr} {oc : Value} {od an : Option Addr} {sl : Array (Option Value)} {kV dc pm cd ct : Value}
    (a : PySem.W.nsIn K mainGlobals nm = some (some (.ref f))) (l : K.lookup f = some ⟨oc, od, .func (PySem.W.fnOf nm nm (defArgs st) (defBody st) (defScope st) .none kV dc pm an cd ct), sl⟩)
    (c : PySem.W.codeIn K cd nm = true) (k : PySem.W.keepIn K (.ref f) = true) (db : (nm == ("__debug__" : Str)) = false)
    (b : ∀ (kV doc pm : Value) (an : Option Addr) (cdv ct : Value) (us : List Value), us.length = (N.take fn.n).length → bindArgs (PySem.W.fnOf nm nm (defArgs st) (defBody st) (defScope st) .none kV doc pm an cdv ct) ⟨us, []⟩ = pure ((N.take fn.n).zip us)) : Known K mg ⟨nm, st, N, fn⟩ := by
  have F := fun_mk (st := st) l c k
  exact ⟨f, _, F, PySem.W.mg_of X G a, b kV dc pm an cd ct, db⟩
theorem tab_of {K : PySem.W.Frag} {mg : Str → Option Value} {rows : List Row} {cns : List (Str × D)} {bls : List Str} (h : ∀ w ∈ rows, Known K mg w)
    (hc : ∀ n d, (n, d) ∈ cns → ∃ v u, mg n = some u ∧ RelV v u ∧ (n == ("__debug__" : Str)) = false ∧ ∀ H N, Rep K H N v d) (hb : ∀ n ∈ bls, mg n = none) : TabOk K mg rows cns bls :=
  ⟨fun f w e => h w (List.mem_of_getElem? e), hc, hb⟩
/-- a global int -/
theorem cn_int {K : PySem.W.Frag} {h : Heap} {mg : Str → Option Value} (X : K.In h) (G : h.Ns mainGlobals mg) {n : Str} {i : Int} {t : Tok} (a : PySem.W.nsIn K mainGlobals n = some (some (.int i t))) (db : (n == ("__debug__" : Str)) = false) :
    ∃ v u, mg n = some u ∧ RelV v u ∧ (n == ("__debug__" : Str)) = false ∧ ∀ H N, Rep K H N v (.int i) := ⟨.int i, _, PySem.W.mg_of X G a, ⟨t, rfl⟩, db, fun _ _ => .int i⟩
theorem cn_str {K : PySem.W.Frag} {h : Heap} {mg : Str → Option Value} (X : K.In h) (G : h.Ns mainGlobals mg) {n : Str} {s : List Nat} {t : Tok} (a : PySem.W.nsIn K mainGlobals n = some (some (.str ⟨s.toArray⟩ t))) (db : (n == ("__debug__" : Str)) = false) (hl : s.length ≤ LIM) :
    ∃ v u, mg n = some u ∧ RelV v u ∧ (n == ("__debug__" : Str)) = false ∧ ∀ H N, Rep K H N v (.str s) := ⟨.str ⟨s.toArray⟩, _, PySem.W.mg_of X G a, ⟨t, rfl⟩, db, fun _ _ => .str s hl⟩
/-- the law's promise, from the plain law -/
theorem sp_law {K : PySem.W.Frag} {C : CallF} {f m : Nat} (hl : ∀ ns : List Int, ns.length ≤ m → ∃ out, C f [.val (.scr ns)] = .ok (.val (.bl true)) out) (H : Hp) (a : Addr) (ns : List Int) (hn : ns.length ≤ m) (hm : m ≤ 63) (hO : Only H) (hS : SqL K H a (ns.map V.int)) (E : XK) :
    spF K C f 1 [.ref a] H (fun v _ => v = .bl true) E := by
  obtain ⟨out, h⟩ := hl ns hn
  have hz : ns.length ≤ sizeLine := by have : (63 : Nat) ≤ sizeLine := by rw [sizeLine_eq]; decide
                                       omega
  have g : ∀ i s, gets [Sl.val (.scr ns)] i = s → s ≠ .no → i = 0 ∧ s = .val (.scr ns) := fun i s e n => by
    match i, e with
    | 0, e => exact ⟨rfl, e.symm⟩
    | i + 1, e => exact (n (by rw [← e]; cases i <;> rfl)).elim
  refine ⟨rfl, fun _ => False, [.val (.scr ns)], .val (.bl true), out, ⟨rfl, fun i d e => ?_, fun i m xs e => ?_, fun i j m m' xs ys b e => ?_, fun b z => z.elim⟩, fun i m xs e => ?_, h, (fun _ => by intro z; cases z), fun v H' p => ?_⟩
  · obtain ⟨rfl, e2⟩ := g i _ e (fun z => nomatch z)
    cases e2
    exact ⟨.ref a, rfl, .scr (.of hO hS) hz⟩
  · obtain ⟨_, e2⟩ := g i _ e (fun z => nomatch z)
    cases e2
  · obtain ⟨_, e2⟩ := g i _ e (fun z => nomatch z)
    cases e2
  · obtain ⟨_, e2⟩ := g i _ e (fun z => nomatch z)
    cases e2
  · have := p.at0
    cases (show Rep _ _ _ v (.bl true) from this)
    rfl
/-- the whole of a law -/
theorem law_mk {P : Program} {w : World} {K : PySem.W.Frag} {mg : Str → Option Value} {rows : List Row} {cns : List (Str × D)} {bls : List Str} (TO : TabOk K mg rows cns bls) (ck : rows.all (rowB rows cns bls) = true) {f : Nat} {r : Row} (hr : rows[f]? = some r) (hps : r.ps = [("script" : Str)]) (hn : r.fn.n = 1) (hnm : r.nm = "law") (D : Nat) {fa : Addr} (hfa : mg "law" = some (.ref fa)) :
    ∃ fd : FuncData, (∀ (s : Shared) (u : Value), BindsTo s fd ⟨[u], []⟩ [(("script" : Str), u)]) ∧ ∀ base : Heap, FnOk P w K mg base CX0 D fa fd [("script" : Str)] (spF K (callF (rowP rows) D) f 1) := by
  obtain ⟨a, fd, F, g, b, _⟩ := TO.fns f r hr
  rw [hnm] at g
  cases hfa.symm.trans g
  refine ⟨fd, fun s u => .of_eq ?_, fun base => ?_⟩
  · have := b [u] (by rw [hps]; rfl)
    rw [hps] at this
    exact this
  · have := all_ok (P := P) (w := w) (base := base) TO ck D f r hr fa fd F
    rw [hps, hn] at this
    exact this
end MP

-- part G04
namespace MP
/-- is_integer(thing): 0 thing -/
def b_is_integer : S :=
  .seq (.ret (.tk (.and (.isi (.var 0) .int) (.not (.isi (.var 0) .bool))))) (.skip)
def f_is_integer : Fn := ⟨1, 1, b_is_integer⟩
/-- is_within(thing, low, high): 0 thing 1 low 2 high -/
def b_is_within : S :=
  .seq (.ret (.tk (.and (.call 0 (.cons (.tk (.var 0)) .nil)) (.chain .le .le (.var 1) (.var 0) (.var 2))))) (.skip)
def f_is_within : Fn := ⟨3, 3, b_is_within⟩
/-- is_tuple(thing, least, most): 0 thing 1 least 2 most -/
def b_is_tuple : S :=
  .seq (.ret (.tk (.and (.isi (.var 0) .tuple) (.chain .le .le (.var 1) (.bi .len (.cons (.var 0) .nil)) (.var 2))))) (.skip)
def f_is_tuple : Fn := ⟨3, 3, b_is_tuple⟩
/-- is_size(thing): 0 thing -/
def b_is_size : S :=
  .seq (.ret (.tk (.call 1 (.cons (.tk (.var 0)) (.cons (.lit (.int 1)) (.cons (.tk (.lit (.int 6))) .nil)))))) (.skip)
def f_is_size : Fn := ⟨1, 1, b_is_size⟩
/-- check_size(size): 0 size -/
def b_check_size : S :=
  .seq (.ite (.not (.call 3 (.cons (.tk (.var 0)) .nil))) (.dead) (.skip)) (.skip)
def f_check_size : Fn := ⟨1, 1, b_check_size⟩
/-- are_pairs(size, thing): 0 size 1 thing 2 pair 3 one 4 other -/
def b_are_pairs : S :=
  .seq (.ite (.or (.not (.isi (.var 1) .tuple)) (.not (.bi .all (.cons (.lc (.nm 2) .seq (.cons (.var 1) .nil) (.lit (.bl true)) (.tk (.call 2 (.cons (.tk (.var 2)) (.cons (.lit (.int 2)) (.cons (.lit (.int 2)) .nil))))) [2]) .nil)))) (.seq (.ret (.lit (.bl false))) (.skip)) (.skip)) (.seq (.ite (.not (.bi .all (.cons (.lc (.nm 2) .seq (.cons (.var 1) .nil) (.lit (.bl true)) (.tk (.bi .all (.cons (.lc (.nm 3) .seq (.cons (.var 2) .nil) (.lit (.bl true)) (.tk (.call 1 (.cons (.tk (.var 3)) (.cons (.lit (.int 0)) (.cons (.tk (.bin .sub (.var 0) (.lit (.int 1)))) .nil))))) [3]) .nil))) [2]) .nil))) (.seq (.ret (.lit (.bl false))) (.skip)) (.skip)) (.seq (.ret (.tk (.bi .all (.cons (.lc (.tp (.cons (.nm 3) (.cons (.nm 4) .nil))) .zip (.cons (.var 1) (.cons (.cut (.var 1) (.lit (.int 1)) .nil) .nil)) (.lit (.bl true)) (.cmp .lt (.var 3) (.var 4)) [3, 4]) .nil)))) (.skip)))
def f_are_pairs : Fn := ⟨2, 5, b_are_pairs⟩
/-- check_any(pairs): 0 pairs -/
def b_check_any : S :=
  .seq (.ite (.not (.call 5 (.cons (.tk (.lit (.int 6))) (.cons (.tk (.var 0)) .nil)))) (.dead) (.skip)) (.skip)
def f_check_any : Fn := ⟨1, 1, b_check_any⟩
/-- check_sized(size, pairs): 0 size 1 pairs -/
def b_check_sized : S :=
  .seq (.expr (.call 4 (.cons (.tk (.var 0)) .nil))) (.seq (.ite (.not (.call 5 (.cons (.tk (.var 0)) (.cons (.tk (.var 1)) .nil)))) (.dead) (.skip)) (.skip))
def f_check_sized : Fn := ⟨2, 2, b_check_sized⟩
/-- turned(pairs): 0 pairs 1 start 2 to -/
def b_turned : S :=
  .seq (.expr (.call 6 (.cons (.tk (.var 0)) .nil))) (.seq (.ret (.tk (.bi .tuple (.cons (.bi .sorted (.cons (.lc (.tp (.cons (.nm 1) (.cons (.nm 2) .nil))) .seq (.cons (.var 0) .nil) (.lit (.bl true)) (.tup (.cons (.tk (.var 2)) (.cons (.tk (.var 1)) .nil))) [1, 2]) .nil)) .nil)))) (.skip))
def f_turned : Fn := ⟨1, 3, b_turned⟩
/-- followed_of(one, other): 0 one 1 other 2 found 3 start 4 middle 5 again 6 to -/
def b_followed_of : S :=
  .folw
def f_followed_of : Fn := ⟨2, 7, b_followed_of⟩
/-- followed(one, other): 0 one 1 other -/
def b_followed : S :=
  .seq (.expr (.call 6 (.cons (.tk (.var 0)) .nil))) (.seq (.expr (.call 6 (.cons (.tk (.var 1)) .nil))) (.seq (.ret (.tk (.bi .tuple (.cons (.call 9 (.cons (.tk (.var 0)) (.cons (.tk (.var 1)) .nil))) .nil)))) (.skip)))
def f_followed : Fn := ⟨2, 2, b_followed⟩
/-- often_of(pairs): 0 pairs 1 found 2 more -/
def b_often_of : S :=
  .seq (.fz (.fz (.par (.cons (.nm 1) (.cons (.nm 2) .nil)) (.cons (.bi .sortset (.cons (.var 0) .nil)) (.cons (.list .nil) .nil))) 1) 2) (.seq (.wh (.cmp .ne (.var 1) (.var 2)) (.seq (.asn (.nm 2) (.tk (.var 1))) (.seq (.asn (.nm 1) (.tk (.bi .sortset (.cons (.bin .add (.var 1) (.call 9 (.cons (.tk (.var 1)) (.cons (.tk (.var 1)) .nil)))) .nil)))) (.skip)))) (.seq (.ret (.tk (.var 1))) (.skip)))
def f_often_of : Fn := ⟨1, 3, b_often_of⟩
/-- often(pairs): 0 pairs -/
def b_often : S :=
  .seq (.expr (.call 6 (.cons (.tk (.var 0)) .nil))) (.seq (.ret (.tk (.bi .tuple (.cons (.call 11 (.cons (.tk (.var 0)) .nil)) .nil)))) (.skip))
def f_often : Fn := ⟨1, 1, b_often⟩
/-- with_selves(size, pairs): 0 size 1 pairs 2 a -/
def b_with_selves : S :=
  .seq (.ret (.tk (.bi .sortset (.cons (.bin .add (.bi .list (.cons (.var 1) .nil)) (.lc (.nm 2) .rng1 (.cons (.var 0) .nil) (.lit (.bl true)) (.tup (.cons (.tk (.var 2)) (.cons (.tk (.var 2)) .nil))) [2])) .nil)))) (.skip)
def f_with_selves : Fn := ⟨2, 3, b_with_selves⟩
/-- often_or_none(size, pairs): 0 size 1 pairs -/
def b_often_or_none : S :=
  .seq (.expr (.call 7 (.cons (.tk (.var 0)) (.cons (.tk (.var 1)) .nil)))) (.seq (.ret (.tk (.bi .tuple (.cons (.call 13 (.cons (.tk (.var 0)) (.cons (.tk (.call 11 (.cons (.tk (.var 1)) .nil))) .nil))) .nil)))) (.skip))
def f_often_or_none : Fn := ⟨2, 2, b_often_or_none⟩
/-- lots_by(size, pairs): 0 size 1 pairs 2 names 3 a 4 b 5 low 6 high 7 name 8 found -/
def b_lots_by : S :=
  .seq (.asn (.nm 2) (.tk (.bi .listrange (.cons (.var 0) .nil)))) (.seq (.for_ (.tp (.cons (.nm 3) (.cons (.nm 4) .nil))) .seq (.cons (.var 1) .nil) (.seq (.par (.cons (.nm 5) (.cons (.nm 6) .nil)) (.cons (.bi .min2 (.cons (.sub (.var 2) (.var 3)) (.cons (.sub (.var 2) (.var 4)) .nil))) (.cons (.bi .max2 (.cons (.sub (.var 2) (.var 3)) (.cons (.sub (.var 2) (.var 4)) .nil))) .nil))) (.seq (.fz (.asn (.nm 2) (.lc (.nm 7) .seq (.cons (.var 2) .nil) (.lit (.bl true)) (.tk (.ite (.cmp .eq (.var 7) (.var 6)) (.var 5) (.var 7))) [7])) 2) (.skip)))) (.seq (.asn (.nm 8) (.list .nil)) (.seq (.for_ (.nm 7) .seq (.cons (.bi .sortset (.cons (.var 2) .nil)) .nil) (.seq (.expr (.app 8 (.tk (.bi .tuple (.cons (.lc (.nm 3) .rng1 (.cons (.var 0) .nil) (.cmp .eq (.sub (.var 2) (.var 3)) (.var 7)) (.tk (.var 3)) [3]) .nil))))) (.skip))) (.seq (.ret (.tk (.bi .sorted (.cons (.var 8) .nil)))) (.skip)))))
def f_lots_by : Fn := ⟨2, 9, b_lots_by⟩
/-- alike_by(size, pairs): 0 size 1 pairs -/
def b_alike_by : S :=
  .seq (.expr (.call 7 (.cons (.tk (.var 0)) (.cons (.tk (.var 1)) .nil)))) (.seq (.ret (.tk (.bi .tuple (.cons (.call 15 (.cons (.tk (.var 0)) (.cons (.tk (.var 1)) .nil))) .nil)))) (.skip))
def f_alike_by : Fn := ⟨2, 2, b_alike_by⟩
/-- _law_hand(script): 0 script 1 cells 2 cell -/
def b__law_hand : S :=
  .seq (.fz (.asn (.nm 1) (.lc (.nm 2) .seq (.cons (.cut (.var 0) .nil (.lit (.int 63))) .nil) (.lit (.bl true)) (.tk (.bi .abs (.cons (.bi .int (.cons (.var 2) .nil)) .nil))) [2])) 1) (.seq (.ret (.list (.cons (.tk (.var 1)) (.cons (.lit (.int 0)) (.cons (.lit (.int 0)) (.cons (.tk (.bin .add (.lit (.int 83)) (.bin .mul (.lit (.int 5)) (.bi .len (.cons (.var 1) .nil))))) (.cons (.lit (.int 0)) .nil))))))) (.skip))
def f__law_hand : Fn := ⟨1, 3, b__law_hand⟩
/-- _law_draw(hand, many): 0 hand 1 many 2 cell 3 digit 4 number; changes [0] -/
def b__law_draw : S :=
  .seq (.ite (.and (.cmp .eq (.sub (.var 0) (.lit (.int 2))) (.lit (.int 0))) (.cmp .lt (.sub (.var 0) (.lit (.int 1))) (.bi .len (.cons (.sub (.var 0) (.lit (.int 0))) .nil)))) (.seq (.asn (.nm 2) (.tk (.sub (.sub (.var 0) (.lit (.int 0))) (.sub (.var 0) (.lit (.int 1)))))) (.seq (.setix 0 (.lit (.int 1)) (.tk (.bin .add (.sub (.var 0) (.lit (.int 1))) (.lit (.int 1))))) (.seq (.setix 0 (.lit (.int 3)) (.tk (.bin .mod (.bi .int (.cons (.bin .add (.bin .add (.bin .mul (.sub (.var 0) (.lit (.int 3))) (.lit (.int 48271))) (.bin .mul (.var 2) (.lit (.int 5)))) (.lit (.int 29))) .nil)) (.lit (.int 2147483587))))) (.seq (.setix 0 (.lit (.int 2)) (.tk (.ite (.cmp .ge (.var 2) (.bin .pow (.lit (.int 10)) (.lit (.int 18)))) (.var 2) (.lit (.int 0))))) (.skip))))) (.skip)) (.seq (.ite (.cmp .gt (.sub (.var 0) (.lit (.int 2))) (.lit (.int 0))) (.seq (.asn (.nm 3) (.tk (.bin .mod (.bi .int (.cons (.sub (.var 0) (.lit (.int 2))) .nil)) (.var 1)))) (.seq (.setix 0 (.lit (.int 2)) (.tk (.bin .fdiv (.sub (.var 0) (.lit (.int 2))) (.var 1)))) (.seq (.ret (.tk (.var 3))) (.skip)))) (.skip)) (.seq (.setix 0 (.lit (.int 4)) (.tk (.bin .add (.sub (.var 0) (.lit (.int 4))) (.lit (.int 1))))) (.seq (.asn (.nm 4) (.tk (.bin .mod (.bi .int (.cons (.bin .mul (.bi .int (.cons (.bin .add (.sub (.var 0) (.lit (.int 3))) (.bin .mul (.lit (.int 7877)) (.sub (.var 0) (.lit (.int 4))))) .nil)) (.lit (.int 69621))) .nil)) (.lit (.int 2147483647))))) (.seq (.asn (.nm 4) (.tk (.bin .mod (.bi .int (.cons (.bin .mul (.var 4) (.bin .add (.bin .fdiv (.var 4) (.lit (.int 1103))) (.lit (.int 40692)))) .nil)) (.lit (.int 2147483399))))) (.seq (.asn (.nm 4) (.tk (.bin .mod (.bi .int (.cons (.bin .mul (.var 4) (.bin .add (.bin .fdiv (.var 4) (.lit (.int 2311))) (.lit (.int 48271)))) .nil)) (.lit (.int 2147483629))))) (.seq (.ret (.tk (.bin .mod (.bi .int (.cons (.bin .fdiv (.var 4) (.lit (.int 16))) .nil)) (.var 1)))) (.skip)))))))
def f__law_draw : Fn := ⟨2, 5, b__law_draw⟩
/-- _law_pairs(hand, size): 0 hand 1 size 2 often_here 3 found 4 a 5 b; changes [0] -/
def b__law_pairs : S :=
  .seq (.fz (.par (.cons (.nm 2) (.cons (.nm 3) .nil)) (.cons (.bin .add (.lit (.int 2)) (.call 18 (.cons (.var 0) (.cons (.lit (.int 4)) .nil)))) (.cons (.list .nil) .nil))) 2) (.seq (.for_ (.nm 4) .rng1 (.cons (.var 1) .nil) (.seq (.expr (.ext 3 (.lc (.nm 5) .rng1 (.cons (.var 1) .nil) (.cmp .eq (.call 18 (.cons (.var 0) (.cons (.tk (.var 2)) .nil))) (.lit (.int 0))) (.tup (.cons (.tk (.var 4)) (.cons (.tk (.var 5)) .nil))) [5]))) (.skip))) (.seq (.ret (.tk (.bi .tuple (.cons (.var 3) .nil)))) (.skip)))
def f__law_pairs : Fn := ⟨2, 6, b__law_pairs⟩
/-- _law_followed(one, other): 0 one 1 other 2 found 3 a 4 b 5 c 6 d -/
def b__law_followed : S :=
  .seq (.asn (.nm 2) (.list .nil)) (.seq (.for_ (.tp (.cons (.nm 3) (.cons (.nm 4) .nil))) .seq (.cons (.var 0) .nil) (.seq (.expr (.ext 2 (.lc (.tp (.cons (.nm 5) (.cons (.nm 6) .nil))) .seq (.cons (.var 1) .nil) (.cmp .eq (.var 4) (.var 5)) (.tup (.cons (.tk (.var 3)) (.cons (.tk (.var 6)) .nil))) [5, 6]))) (.skip))) (.seq (.ret (.tk (.bi .tuple (.cons (.bi .sortset (.cons (.var 2) .nil)) .nil)))) (.skip)))
def f__law_followed : Fn := ⟨2, 7, b__law_followed⟩
/-- _law_often(pairs): 0 pairs 1 found 2 turn -/
def b__law_often : S :=
  .seq (.asn (.nm 1) (.tk (.var 0))) (.seq (.for_ (.nm 2) .rng1 (.cons (.lit (.int 6)) .nil) (.seq (.asn (.nm 1) (.tk (.bi .tuple (.cons (.bi .sortset (.cons (.bin .add (.var 1) (.call 20 (.cons (.tk (.var 1)) (.cons (.tk (.var 0)) .nil)))) .nil)) .nil)))) (.skip))) (.seq (.ret (.tk (.var 1))) (.skip)))
def f__law_often : Fn := ⟨1, 3, b__law_often⟩
/-- _law_lots(size, pairs): 0 size 1 pairs 2 marks 3 turn 4 a 5 b 6 low 7 mark_now -/
def b__law_lots : S :=
  .seq (.asn (.nm 2) (.tk (.bi .listrange (.cons (.var 0) .nil)))) (.seq (.for_ (.nm 3) .rng1 (.cons (.var 0) .nil) (.seq (.for_ (.tp (.cons (.nm 4) (.cons (.nm 5) .nil))) .seq (.cons (.var 1) .nil) (.seq (.asn (.nm 6) (.tk (.bi .min2 (.cons (.sub (.var 2) (.var 4)) (.cons (.sub (.var 2) (.var 5)) .nil))))) (.seq (.fz (.asn (.nm 2) (.lc (.nm 7) .seq (.cons (.var 2) .nil) (.lit (.bl true)) (.tk (.ite (.cmp .mem (.var 7) (.tup (.cons (.tk (.sub (.var 2) (.var 4))) (.cons (.tk (.sub (.var 2) (.var 5))) .nil)))) (.var 6) (.var 7))) [7])) 2) (.skip)))) (.skip))) (.seq (.ret (.tk (.bi .tuple (.cons (.bi .sorted (.cons (.lc (.nm 7) .seq (.cons (.bi .sortset (.cons (.var 2) .nil)) .nil) (.lit (.bl true)) (.tk (.bi .tuple (.cons (.lc (.nm 4) .rng1 (.cons (.var 0) .nil) (.cmp .eq (.sub (.var 2) (.var 4)) (.var 7)) (.tk (.var 4)) [4]) .nil))) [7]) .nil)) .nil)))) (.skip)))
def f__law_lots : Fn := ⟨2, 8, b__law_lots⟩
/-- _law_every(size): 0 size 1 found 2 a 3 b -/
def b__law_every : S :=
  .seq (.asn (.nm 1) (.list .nil)) (.seq (.for_ (.nm 2) .rng1 (.cons (.var 0) .nil) (.seq (.expr (.ext 1 (.lc (.nm 3) .rng1 (.cons (.var 0) .nil) (.lit (.bl true)) (.tup (.cons (.tk (.var 2)) (.cons (.tk (.var 3)) .nil))) [3]))) (.skip))) (.seq (.ret (.tk (.var 1))) (.skip)))
def f__law_every : Fn := ⟨1, 4, b__law_every⟩
/-- law(script): 0 script 1 hand 2 turn 3 size 4 one 5 other 6 back 7 a 8 b 9 whole 10 pair 11 wide 12 lots 13 both 14 lot -/
def b_law : S :=
  .seq (.asn (.nm 1) (.call 17 (.cons (.tk (.var 0)) .nil))) (.seq (.ite (.cmp .ne (.call 12 (.cons (.tup (.cons (.tup (.cons (.lit (.int 0)) (.cons (.lit (.int 1)) .nil))) (.cons (.tup (.cons (.lit (.int 1)) (.cons (.lit (.int 2)) .nil))) .nil))) .nil)) (.tup (.cons (.tup (.cons (.lit (.int 0)) (.cons (.lit (.int 1)) .nil))) (.cons (.tup (.cons (.lit (.int 0)) (.cons (.lit (.int 2)) .nil))) (.cons (.tup (.cons (.lit (.int 1)) (.cons (.lit (.int 2)) .nil))) .nil))))) (.seq (.ret (.lit (.bl false))) (.skip)) (.skip)) (.seq (.ite (.cmp .ne (.call 16 (.cons (.lit (.int 3)) (.cons (.tup (.cons (.tup (.cons (.lit (.int 0)) (.cons (.lit (.int 2)) .nil))) .nil)) .nil))) (.tup (.cons (.tup (.cons (.lit (.int 0)) (.cons (.lit (.int 2)) .nil))) (.cons (.tup (.cons (.lit (.int 1)) .nil)) .nil)))) (.seq (.ret (.lit (.bl false))) (.skip)) (.skip)) (.seq (.ite (.cmp .ne (.call 10 (.cons (.tup (.cons (.tup (.cons (.lit (.int 0)) (.cons (.lit (.int 1)) .nil))) .nil)) (.cons (.tup (.cons (.tup (.cons (.lit (.int 1)) (.cons (.lit (.int 1)) .nil))) (.cons (.tup (.cons (.lit (.int 2)) (.cons (.lit (.int 0)) .nil))) .nil))) .nil))) (.tup (.cons (.tup (.cons (.lit (.int 0)) (.cons (.lit (.int 1)) .nil))) .nil))) (.seq (.ret (.lit (.bl false))) (.skip)) (.skip)) (.seq (.for_ (.nm 2) .rng1 (.cons (.lit (.int 5)) .nil) (.seq (.asn (.nm 3) (.tk (.bin .add (.lit (.int 1)) (.call 18 (.cons (.var 1) (.cons (.lit (.int 6)) .nil)))))) (.seq (.par (.cons (.nm 4) (.cons (.nm 5) .nil)) (.cons (.call 19 (.cons (.var 1) (.cons (.tk (.var 3)) .nil))) (.cons (.call 19 (.cons (.var 1) (.cons (.tk (.var 3)) .nil))) .nil))) (.seq (.asn (.nm 6) (.tk (.bi .tuple (.cons (.bi .sorted (.cons (.lc (.tp (.cons (.nm 7) (.cons (.nm 8) .nil))) .seq (.cons (.var 4) .nil) (.lit (.bl true)) (.tup (.cons (.tk (.var 8)) (.cons (.tk (.var 7)) .nil))) [7, 8]) .nil)) .nil)))) (.seq (.ite (.cmp .ne (.call 8 (.cons (.tk (.var 4)) .nil)) (.var 6)) (.seq (.ret (.lit (.bl false))) (.skip)) (.skip)) (.seq (.ite (.cmp .ne (.call 8 (.cons (.tk (.var 6)) .nil)) (.var 4)) (.seq (.ret (.lit (.bl false))) (.skip)) (.skip)) (.seq (.ite (.cmp .ne (.call 10 (.cons (.tk (.var 4)) (.cons (.tk (.var 5)) .nil))) (.call 20 (.cons (.tk (.var 4)) (.cons (.tk (.var 5)) .nil)))) (.seq (.ret (.lit (.bl false))) (.skip)) (.skip)) (.seq (.ite (.cmp .ne (.call 8 (.cons (.tk (.call 10 (.cons (.tk (.var 4)) (.cons (.tk (.var 5)) .nil)))) .nil)) (.call 10 (.cons (.tk (.call 8 (.cons (.tk (.var 5)) .nil))) (.cons (.tk (.call 8 (.cons (.tk (.var 4)) .nil))) .nil)))) (.seq (.ret (.lit (.bl false))) (.skip)) (.skip)) (.seq (.asn (.nm 9) (.tk (.call 21 (.cons (.tk (.var 4)) .nil)))) (.seq (.ite (.cmp .ne (.call 12 (.cons (.tk (.var 4)) .nil)) (.var 9)) (.seq (.ret (.lit (.bl false))) (.skip)) (.skip)) (.seq (.ite (.not (.bi .all (.cons (.lc (.nm 10) .seq (.cons (.call 10 (.cons (.tk (.var 9)) (.cons (.tk (.var 9)) .nil))) .nil) (.lit (.bl true)) (.cmp .mem (.var 10) (.var 9)) [10]) .nil))) (.seq (.ret (.lit (.bl false))) (.skip)) (.skip)) (.seq (.ite (.cmp .ne (.call 12 (.cons (.tk (.var 9)) .nil)) (.var 9)) (.seq (.ret (.lit (.bl false))) (.skip)) (.skip)) (.seq (.asn (.nm 11) (.tk (.bi .tuple (.cons (.bi .sortset (.cons (.bin .add (.var 4) (.var 5)) .nil)) .nil)))) (.seq (.ite (.not (.bi .all (.cons (.lc (.nm 10) .seq (.cons (.var 9) .nil) (.lit (.bl true)) (.cmp .mem (.var 10) (.call 12 (.cons (.tk (.var 11)) .nil))) [10]) .nil))) (.seq (.ret (.lit (.bl false))) (.skip)) (.skip)) (.seq (.ite (.cmp .ne (.call 14 (.cons (.tk (.var 3)) (.cons (.tk (.var 4)) .nil))) (.bi .tuple (.cons (.bi .sortset (.cons (.bin .add (.var 9) (.bi .tuple (.cons (.lc (.nm 7) .rng1 (.cons (.var 3) .nil) (.lit (.bl true)) (.tup (.cons (.tk (.var 7)) (.cons (.tk (.var 7)) .nil))) [7]) .nil))) .nil)) .nil))) (.seq (.ret (.lit (.bl false))) (.skip)) (.skip)) (.seq (.asn (.nm 12) (.tk (.call 22 (.cons (.tk (.var 3)) (.cons (.tk (.var 4)) .nil))))) (.seq (.ite (.cmp .ne (.call 16 (.cons (.tk (.var 3)) (.cons (.tk (.var 4)) .nil))) (.var 12)) (.seq (.ret (.lit (.bl false))) (.skip)) (.skip)) (.seq (.asn (.nm 13) (.tk (.call 14 (.cons (.tk (.var 3)) (.cons (.tk (.bi .tuple (.cons (.bi .sortset (.cons (.bin .add (.var 4) (.var 6)) .nil)) .nil))) .nil))))) (.seq (.for_ (.tp (.cons (.nm 7) (.cons (.nm 8) .nil))) .seq (.cons (.call 23 (.cons (.tk (.var 3)) .nil)) .nil) (.seq (.ite (.cmp .ne (.cmp .mem (.tup (.cons (.tk (.var 7)) (.cons (.tk (.var 8)) .nil))) (.var 13)) (.bi .any (.cons (.lc (.nm 14) .seq (.cons (.var 12) .nil) (.lit (.bl true)) (.tk (.and (.cmp .mem (.var 7) (.var 14)) (.cmp .mem (.var 8) (.var 14)))) [14]) .nil))) (.seq (.ret (.lit (.bl false))) (.skip)) (.skip)) (.skip))) (.skip)))))))))))))))))))) (.seq (.ret (.lit (.bl true))) (.skip))))))
def f_law : Fn := ⟨1, 15, b_law⟩
def prog : Nat → Option Fn
  | 0 => some f_is_integer
  | 1 => some f_is_within
  | 2 => some f_is_tuple
  | 3 => some f_is_size
  | 4 => some f_check_size
  | 5 => some f_are_pairs
  | 6 => some f_check_any
  | 7 => some f_check_sized
  | 8 => some f_turned
  | 9 => some f_followed_of
  | 10 => some f_followed
  | 11 => some f_often_of
  | 12 => some f_often
  | 13 => some f_with_selves
  | 14 => some f_often_or_none
  | 15 => some f_lots_by
  | 16 => some f_alike_by
  | 17 => some f__law_hand
  | 18 => some f__law_draw
  | 19 => some f__law_pairs
  | 20 => some f__law_followed
  | 21 => some f__law_often
  | 22 => some f__law_lots
  | 23 => some f__law_every
  | 24 => some f_law
  | _ => none
end MP

-- part L0
set_option maxHeartbeats 1000000
/-! Running MP texts by simp: the way of a value, head first. -/
namespace ML
open MP
abbrev Kt {β : Sort u} (_ : β) : Type := Unit
def Ok {α : Type} : R α → (Q : α → Env → Prop) → Kt Q → Prop
  | .ok a r, Q, _ => Q a r
  | _, _, _ => False
section
variable {α β : Type} {Q : α → Env → Prop} {t : Kt Q} {r : Env}
@[simp] theorem Ok_ok (a : α) : Ok (.ok a r) Q t = Q a r := rfl
@[simp] theorem Ok_no : Ok (.no : R α) Q t = False := rfl
@[simp] theorem Ok_exc (x : Exc) : Ok (.exc x r : R α) Q t = False := rfl
@[simp] theorem Ok_bind (x : R β) (f : β → Env → R α) : Ok (x.bind f) Q t = Ok x (fun a r => Ok (f a r) Q ()) () := by
  cases x <;> rfl
theorem Ok_ext {x : R α} {Q' : α → Env → Prop} {t' : Kt Q'} (h : ∀ a r, Q a r = Q' a r) : Ok x Q t = Ok x Q' t' := by
  have e : Q = Q' := funext fun a => funext fun r => h a r
  subst e
  cases t; cases t'; rfl
theorem Ok_beq (x : R β) (f : β → Env → R α) {Q' : β → Env → Prop} {t' : Kt Q'} (h : ∀ a r, Ok (f a r) Q () = Q' a r) : Ok (x.bind f) Q t = Ok x Q' t' := (Ok_bind x f).trans (Ok_ext h)
theorem Ok.mono {x : R α} {Q' : α → Env → Prop} {t' : Kt Q'} (h : Ok x Q t) (i : ∀ a r, Q a r → Q' a r) : Ok x Q' t' := by
  cases x with
  | ok a r => exact i a r h
  | exc _ _ => exact h
  | no => exact h
theorem Ok.use {x : R α} (h : Ok x Q t) : ∃ a r, x = .ok a r ∧ Q a r := by
  cases x with
  | ok a r => exact ⟨a, r, rfl, h⟩
  | exc _ _ => exact h.elim
  | no => exact h.elim
theorem Ok.of {x : R α} {a : α} (e : x = .ok a r) (h : Q a r) : Ok x Q t := by rw [e]; exact h
@[simp] theorem Ok_ofO_some (a : α) : Ok (R.ofO r (some a)) Q t = Q a r := rfl
@[simp] theorem Ok_ofO_none : Ok (R.ofO r (none : Option α)) Q t = False := rfl
end
/-! ### slots -/
section
variable {r : Env} {i n : Nat} {s x y : Sl}
@[simp] theorem gets_nil : gets [] n = .no := rfl
@[simp] theorem gets_0 : gets (x :: r) 0 = x := rfl
@[simp] theorem gets_s : gets (x :: r) (n + 1) = gets r n := rfl
@[simp] theorem sets_0 : sets (x :: r) 0 y = y :: r := rfl
@[simp] theorem sets_s : sets (x :: r) (n + 1) y = x :: sets r n y := rfl
@[simp] theorem put_0 : put (x :: r) 0 y = if held x then none else some (y :: r) := rfl
@[simp] theorem put_s : put (x :: r) (n + 1) y = (put r n y).map (x :: ·) := rfl
@[simp] theorem wipes_nil : wipes r [] = r := rfl
@[simp] theorem wipes_cons {is : List Nat} : wipes r (i :: is) = sets (wipes r is) i .no := rfl
@[simp] theorem backs_nil {r0 : Env} : backs r0 r [] = r := rfl
@[simp] theorem backs_cons {r0 : Env} {is : List Nat} : backs r0 r (i :: is) = sets (backs r0 r is) i (gets r0 i) := rfl
@[simp] theorem held_no : held .no = false := rfl
@[simp] theorem held_val {d : D} : held (.val d) = false := rfl
@[simp] theorem held_free {xs : List D} : held (.acc .free xs) = false := rfl
end
section
variable {C : CallF} {Q : W → Env → Prop} {t : Kt Q} {r : Env} {e a b c o : E} {i : Nat} {op : Op} {cm o1 o2 : Cm}
@[simp] theorem Ok_lit {d : D} : Ok (ev C (.lit d) r) Q t = Q (.val d) r := by rw [ev]; rfl
theorem Ok_var : Ok (ev C (.var i) r) Q t = Ok (match gets r i with | .val d => .ok (.val d) r | .acc _ _ => .ok (.slot i) r | .no => .no) Q t := by rw [ev] <;> cases gets r i <;> rfl
/-- the name's value -/
def vr (i : Nat) (r : Env) : Sl → R W
  | .val d => .ok (.val d) r
  | .acc _ _ => .ok (.slot i) r
  | .no => .no
@[simp] theorem vr_val {d : D} : vr i r (.val d) = .ok (.val d) r := rfl
@[simp] theorem vr_acc {m : Md} {xs : List D} : vr i r (.acc m xs) = .ok (.slot i) r := rfl
@[simp] theorem Ok_vr : Ok (ev C (.var i) r) Q t = Ok (vr i r (gets r i)) Q t := by rw [ev]; cases gets r i <;> rfl
@[simp] theorem Ok_tk : Ok (ev C (.tk e) r) Q t = Ok (ev C e r) (fun w r1 => Ok (take w r1) (fun d r2 => Q (.val d) r2) ()) () := by
  rw [ev]
  refine Ok_beq _ _ fun _ _ => ?_
  exact Ok_beq _ _ fun _ _ => rfl
/-- a value seen -/
def Sw (r : Env) (w : W) (k : D → Prop) (_ : Kt k) : Prop := match view r w with
  | some d => k d
  | none => False
@[simp] theorem Sw_val {k : D → Prop} {t : Kt k} {d : D} : Sw r (.val d) k t = k d := rfl
@[simp] theorem Sw_own {k : D → Prop} {t : Kt k} {xs : List D} : Sw r (.own xs) k t = k (.lst xs) := rfl
/-- the value of a slot -/
def Ss (k : D → Prop) (_ : Kt k) : Sl → Prop
  | .val d => k d
  | .acc _ xs => k (.lst xs)
  | .no => False
@[simp] theorem Ss_val {k : D → Prop} {t : Kt k} {d : D} : Ss k t (.val d) = k d := rfl
@[simp] theorem Ss_acc {k : D → Prop} {t : Kt k} {m : Md} {xs : List D} : Ss k t (.acc m xs) = k (.lst xs) := rfl
@[simp] theorem Sw_slot {k : D → Prop} {t : Kt k} : Sw r (.slot i) k t = Ss k t (gets r i) := by
  unfold Sw view
  dsimp only
  cases gets r i <;> rfl
theorem Sw_ext {k k' : D → Prop} {t : Kt k} {t' : Kt k'} {w : W} (h : ∀ d, k d = k' d) : Sw r w k t = Sw r w k' t' := by
  have e : k = k' := funext h
  subst e
  cases t; cases t'; rfl
theorem Ok_vw {β : Type} {f : D → R β} {w : W} {Q : β → Env → Prop} {t : Kt Q} : Ok (vw r w f) Q t = Sw r w (fun d => Ok (f d) Q ()) () := by
  unfold vw Sw
  cases view r w <;> rfl
theorem Ok_veq {β : Type} {f : D → R β} {w : W} {Q : β → Env → Prop} {t : Kt Q} {k : D → Prop} {t' : Kt k} (h : ∀ d, Ok (f d) Q () = k d) : Ok (vw r w f) Q t = Sw r w k t' := Ok_vw.trans (Sw_ext h)
@[simp] theorem Ok_bin : Ok (ev C (.bin op a b) r) Q t = Ok (ev C a r) (fun x r1 => Ok (ev C b r1) (fun y r2 => Sw r2 x (fun d => Sw r2 y (fun g => Ok (R.ofO r2 (binOp op d g)) Q ()) ()) ()) ()) () := by
  rw [ev]
  refine Ok_beq _ _ fun _ _ => ?_
  refine Ok_beq _ _ fun _ _ => ?_
  refine Ok_veq fun _ => ?_
  exact Ok_veq fun _ => rfl
@[simp] theorem Ok_cmp : Ok (ev C (.cmp cm a b) r) Q t = Ok (ev C a r) (fun x r1 => Ok (ev C b r1) (fun y r2 => Sw r2 x (fun d => Sw r2 y (fun g => Ok (R.ofO r2 (cmpOp cm d g)) (fun k r3 => Q (.val (.bl k)) r3) ()) ()) ()) ()) () := by
  rw [ev]
  refine Ok_beq _ _ fun _ _ => ?_
  refine Ok_beq _ _ fun _ _ => ?_
  refine Ok_veq fun _ => ?_
  refine Ok_veq fun _ => ?_
  exact Ok_beq _ _ fun _ _ => rfl
@[simp] theorem Ok_chain : Ok (ev C (.chain o1 o2 a b c) r) Q t = Ok (ev C a r) (fun x r1 => Ok (ev C b r1) (fun y r2 => Sw r2 x (fun d => Sw r2 y (fun g => Ok (R.ofO r2 (cmpOp o1 d g)) (fun k r3 => Ok (match k with
    | true => (ev C c r3).bind fun z r4 => vw r4 y fun e' => vw r4 z fun g => (R.ofO r4 (cmpOp o2 e' g)).bind fun t r5 => .ok (.val (.bl t)) r5
    | false => .ok (.val (.bl false)) r3) Q ()) ()) ()) ()) ()) () := by
  rw [ev]
  refine Ok_beq _ _ fun _ _ => ?_
  refine Ok_beq _ _ fun _ _ => ?_
  refine Ok_veq fun _ => ?_
  refine Ok_veq fun _ => ?_
  exact Ok_bind _ _
@[simp] theorem Ok_vw' {β : Type} {f : D → R β} {w : W} {Q : β → Env → Prop} {t : Kt Q} : Ok (vw r w f) Q t = Sw r w (fun d => Ok (f d) Q ()) () := Ok_vw
@[simp] theorem asB_bl {k : Bool} : asB (.val (.bl k)) r = .ok k r := rfl
@[simp] theorem Ok_neg : Ok (ev C (.neg a) r) Q t = Ok (ev C a r) (fun x r1 => Ok (match x with
    | .val (.int i) => .ok (.val (.int (-i))) r1
    | _ => .no) Q ()) () := by
  rw [ev]
  exact Ok_beq _ _ fun _ _ => rfl
@[simp] theorem Ok_not : Ok (ev C (.not a) r) Q t = Ok (ev C a r) (fun x r1 => Ok (asB x r1) (fun k r2 => Q (.val (.bl (!k))) r2) ()) () := by
  rw [ev]
  refine Ok_beq _ _ fun _ _ => ?_
  exact Ok_beq _ _ fun _ _ => rfl
@[simp] theorem Ok_and : Ok (ev C (.and a b) r) Q t = Ok (ev C a r) (fun x r1 => Ok (asB x r1) (fun k r2 => Ok (match k with | true => ev C b r2 | false => .ok (.val (.bl false)) r2) Q ()) ()) () := by
  rw [ev]
  refine Ok_beq _ _ fun _ _ => ?_
  exact Ok_bind _ _
@[simp] theorem Ok_or : Ok (ev C (.or a b) r) Q t = Ok (ev C a r) (fun x r1 => Ok (asB x r1) (fun k r2 => Ok (match k with | true => .ok (.val (.bl true)) r2 | false => ev C b r2) Q ()) ()) () := by
  rw [ev]
  refine Ok_beq _ _ fun _ _ => ?_
  exact Ok_bind _ _
@[simp] theorem Ok_eite : Ok (ev C (.ite c a b) r) Q t = Ok (ev C c r) (fun x r1 => Ok (asB x r1) (fun k r2 => Ok (match k with | true => ev C a r2 | false => ev C b r2) Q ()) ()) () := by
  rw [ev]
  refine Ok_beq _ _ fun _ _ => ?_
  exact Ok_bind _ _
@[simp] theorem Ok_tup : Ok (ev C (.tup e) r) Q t = Ok (evs C e r) (fun ws r1 => Ok (R.ofO r1 ((vals ws).map fun ds => .val (.tup ds))) Q ()) () := by rw [ev, Ok_bind]
@[simp] theorem Ok_list : Ok (ev C (.list e) r) Q t = Ok (evs C e r) (fun ws r1 => Ok (R.ofO r1 ((vals ws).map .own)) Q ()) () := by rw [ev, Ok_bind]
@[simp] theorem Ok_sub : Ok (ev C (.sub a b) r) Q t = Ok (ev C a r) (fun x r1 => Ok (ev C b r1) (fun y r2 => Sw r2 x (fun d => Sw r2 y (fun g => Ok (R.ofO r2 ((subOp d g).map .val)) Q ()) ()) ()) ()) () := by
  rw [ev]
  refine Ok_beq _ _ fun _ _ => ?_
  refine Ok_beq _ _ fun _ _ => ?_
  refine Ok_veq fun _ => ?_
  exact Ok_veq fun _ => rfl
@[simp] theorem Ok_cut : Ok (ev C (.cut a b c) r) Q t = Ok (ev C a r) (fun x r1 => Ok (R.part b (fun _ => ev C b r1) r1) (fun l r2 => Ok (R.part c (fun _ => ev C c r2) r2) (fun h r3 => Sw r3 x (fun d => Ok (R.ofO r3 (cutOp l h d)) Q ()) ()) ()) ()) () := by
  rw [ev]
  refine Ok_beq _ _ fun _ _ => ?_
  refine Ok_beq _ _ fun _ _ => ?_
  refine Ok_beq _ _ fun _ _ => ?_
  exact Ok_vw
@[simp] theorem part_nil {f : Unit → R W} : R.part .nil f r = .ok none r := rfl
@[simp] theorem part_lit {f : Unit → R W} {d : D} : R.part (.lit d) f r = (f ()).bind fun w r => match w with
    | .val (.int i) => .ok (some i) r
    | _ => .no := rfl
def biR (k : Bi) (r1 : Env) : Option (List D) → R W
  | some ds => R.ofO r1 (biOp k ds)
  | none => .no
@[simp] theorem biR_some {k : Bi} {ds : List D} : biR k r (some ds) = R.ofO r (biOp k ds) := rfl
@[simp] theorem Ok_bi {k : Bi} : Ok (ev C (.bi k e) r) Q t = Ok (evs C e r) (fun ws r1 => Ok (biR k r1 (views r1 ws)) Q ()) () := by
  rw [ev]
  refine Ok_beq _ _ fun ws r1 => ?_
  cases views r1 ws <;> rfl
@[simp] theorem Ok_isi {k : Ty} : Ok (ev C (.isi e k) r) Q t = Ok (ev C e r) (fun x r1 => Sw r1 x (fun d => Ok (R.ofO r1 ((isTy k d).map fun b => .val (.bl b))) Q ()) ()) () := by
  rw [ev]
  refine Ok_beq _ _ fun _ _ => ?_
  exact Ok_vw
def caR (C : CallF) (f : Nat) (ws : List W) (r1 : Env) : Option (List Sl) → R W
  | some ss => if nodupN (slotsOf ws) = true then (C f ss).back ws r1 else .no
  | none => .no
@[simp] theorem caR_some {f : Nat} {ws : List W} {ss : List Sl} : caR C f ws r (some ss) = if nodupN (slotsOf ws) = true then (C f ss).back ws r else .no := rfl
@[simp] theorem Ok_call {f : Nat} : Ok (ev C (.call f e) r) Q t = Ok (evs C e r) (fun ws r1 => Ok (caR C f ws r1 (argsS r1 ws)) Q ()) () := by
  rw [ev]
  refine Ok_beq _ _ fun ws r1 => ?_
  cases argsS r1 ws <;> rfl
@[simp] theorem Ok_ifno {α : Type} {Q : α → Env → Prop} {t : Kt Q} {p : Prop} [Decidable p] {x : R α} : Ok (if p then x else .no) Q t = (p ∧ Ok x Q t) := by
  by_cases h : p
  · rw [if_pos h]; exact propext ⟨fun z => ⟨h, z⟩, fun z => z.2⟩
  · rw [if_neg h]; exact propext ⟨fun z => z.elim, fun z => h z.1⟩
/-- no slot comes out of a call -/
def noSl : W → Prop
  | .slot _ => False
  | _ => True
@[simp] theorem noSl_val {d : D} : noSl (.val d) = True := rfl
@[simp] theorem noSl_own {xs : List D} : noSl (.own xs) = True := rfl
@[simp] theorem Ok_back {x : R W} {ws : List W} : Ok (x.back ws r) Q t = Ok x (fun w out => noSl w ∧ Q w (backArgs ws out r)) () := by
  cases x with
  | ok w out => cases w <;> simp [R.back, noSl]
  | exc _ _ => rfl
  | no => rfl
/-- the list of a slot -/
def mu {β : Type} (f : Md → List D → R β) : Sl → R β
  | .acc .free xs => f .free xs
  | .acc .fix xs => f .fix xs
  | _ => .no
@[simp] theorem mu_free {β : Type} {f : Md → List D → R β} {xs : List D} : mu f (.acc .free xs) = f .free xs := rfl
@[simp] theorem mu_fix {β : Type} {f : Md → List D → R β} {xs : List D} : mu f (.acc .fix xs) = f .fix xs := rfl
@[simp] theorem mutL_is {β : Type} {f : Md → List D → R β} : mutL r i f = mu f (gets r i) := by
  unfold mutL mu
  cases gets r i with
  | acc m xs => cases m <;> rfl
  | _ => rfl
def appR (i : Nat) (r1 : Env) : W → R W
  | .val d => mutL r1 i fun m xs => if xs.length < LIM then .ok (.val .non) (sets r1 i (.acc m (xs ++ [d]))) else .no
  | _ => .no
@[simp] theorem appR_val {d : D} : appR i r (.val d) = mutL r i fun m xs => if xs.length < LIM then .ok (.val .non) (sets r i (.acc m (xs ++ [d]))) else .no := rfl
@[simp] theorem Ok_app : Ok (ev C (.app i e) r) Q t = Ok (mutL r i fun _ _ => (ev C e r).bind fun x r1 => appR i r1 x) Q t := by
  have h : ∀ (x : W) (r1 : Env), appR i r1 x = match x with
    | .val d => mutL r1 i fun m xs => if xs.length < LIM then .ok (.val .non) (sets r1 i (.acc m (xs ++ [d]))) else .no
    | _ => .no := fun x r1 => by cases x <;> rfl
  rw [ev]
  simp only [h]
  all_goals (rfl)
def popK (i : Nat) (m : Md) (r1 : Env) (xs : List D) : Option (Nat × D) → R W
  | some (j, d) => .ok (.val d) (sets r1 i (.acc m (xs.eraseIdx j)))
  | none => .no
@[simp] theorem popK_some {m : Md} {xs : List D} {j : Nat} {d : D} : popK i m r xs (some (j, d)) = .ok (.val d) (sets r i (.acc m (xs.eraseIdx j))) := rfl
def popR (i : Nat) (r1 : Env) : W → R W
  | .val (.int k) => mutL r1 i fun m xs => popK i m r1 xs ((ixN xs.length k).bind fun j => (xs[j]?).map fun d => (j, d))
  | _ => .no
@[simp] theorem popR_int {k : Int} : popR i r (.val (.int k)) = mutL r i fun m xs => popK i m r xs ((ixN xs.length k).bind fun j => (xs[j]?).map fun d => (j, d)) := rfl
@[simp] theorem Ok_popAt : Ok (ev C (.popAt i e) r) Q t = Ok (mutL r i fun _ _ => (ev C e r).bind fun x r1 => popR i r1 x) Q t := by
  have h : ∀ (x : W) (r1 : Env), popR i r1 x = match x with
    | .val (.int k) => mutL r1 i fun m xs => match (ixN xs.length k).bind fun j => (xs[j]?).map fun d => (j, d) with
      | some (j, d) => .ok (.val d) (sets r1 i (.acc m (xs.eraseIdx j)))
      | none => .no
    | _ => .no := fun x r1 => by
      unfold popR
      split
      · congr
      · rfl
  rw [ev]
  simp only [h]
  all_goals (rfl)
end
section
variable {C : CallF} {Q : List W → Env → Prop} {t : Kt Q} {r : Env} {e es : E}
@[simp] theorem Ok_enil : Ok (evs C .nil r) Q t = Q [] r := by rw [evs]; rfl
@[simp] theorem Ok_econs : Ok (evs C (.cons e es) r) Q t = Ok (ev C e r) (fun w r1 => Ok (evs C es r1) (fun ws r2 => Q (w :: ws) r2) ()) () := by
  rw [evs]
  refine Ok_beq _ _ fun _ _ => ?_
  exact Ok_beq _ _ fun _ _ => rfl
@[simp] theorem vals_nil : vals [] = some [] := rfl
@[simp] theorem vals_val {d : D} {ws : List W} : vals (.val d :: ws) = (vals ws).map (d :: ·) := rfl
@[simp] theorem views_nil : views r [] = some [] := rfl
@[simp] theorem views_val {d : D} {ws : List W} : views r (.val d :: ws) = (views r ws).map (d :: ·) := by
  rw [views]
  cases views r ws <;> rfl
@[simp] theorem views_own {xs : List D} {ws : List W} : views r (.own xs :: ws) = (views r ws).map (.lst xs :: ·) := by
  rw [views]
  cases views r ws <;> rfl
/-- a slot's value -/
def sv : Sl → Option D
  | .val d => some d
  | .acc _ xs => some (.lst xs)
  | .no => none
@[simp] theorem sv_val {d : D} : sv (.val d) = some d := rfl
@[simp] theorem sv_acc {m : Md} {xs : List D} : sv (.acc m xs) = some (.lst xs) := rfl
@[simp] theorem views_slot {i : Nat} {ws : List W} : views r (.slot i :: ws) = (sv (gets r i)).bind fun d => (views r ws).map (d :: ·) := by
  rw [views]
  unfold view
  dsimp only
  cases gets r i <;> cases views r ws <;> rfl
@[simp] theorem take_val {d : D} : take (.val d) r = .ok d r := rfl
@[simp] theorem take_own {xs : List D} : take (.own xs) r = .ok (.lst xs) r := rfl
/-- a slot's list let go -/
def tkS (i : Nat) (r : Env) : Sl → R D
  | .val d => .ok d r
  | .acc .free xs => .ok (.lst xs) (sets r i (.val (.lst xs)))
  | _ => .no
@[simp] theorem tkS_val {i : Nat} {d : D} : tkS i r (.val d) = .ok d r := rfl
@[simp] theorem tkS_free {i : Nat} {xs : List D} : tkS i r (.acc .free xs) = .ok (.lst xs) (sets r i (.val (.lst xs))) := rfl
@[simp] theorem take_slot' {i : Nat} : take (.slot i) r = tkS i r (gets r i) := by
  unfold take tkS
  dsimp only
  all_goals (cases gets r i with
             | acc m xs => cases m <;> rfl
             | _ => rfl)
/-- an argument out of a slot -/
def agS : Sl → Option Sl
  | .acc .free xs => some (.acc .fix xs)
  | .acc .fix xs => some (.acc .fix xs)
  | _ => none
@[simp] theorem agS_free {xs : List D} : agS (.acc .free xs) = some (.acc .fix xs) := rfl
@[simp] theorem agS_fix {xs : List D} : agS (.acc .fix xs) = some (.acc .fix xs) := rfl
@[simp] theorem argsS_nil : argsS r [] = some [] := rfl
@[simp] theorem argsS_val {d : D} {ws : List W} : argsS r (.val d :: ws) = (argsS r ws).map (.val d :: ·) := by
  rw [argsS]
  unfold argS
  cases argsS r ws <;> rfl
@[simp] theorem argsS_slot {i : Nat} {ws : List W} : argsS r (.slot i :: ws) = (agS (gets r i)).bind fun s => (argsS r ws).map (s :: ·) := by
  rw [argsS]
  unfold argS agS
  dsimp only
  cases gets r i with
  | acc m xs => cases m <;> cases argsS r ws <;> rfl
  | _ => cases argsS r ws <;> rfl
@[simp] theorem slotsOf_nil : slotsOf [] = [] := rfl
@[simp] theorem slotsOf_val {d : D} {ws : List W} : slotsOf (.val d :: ws) = slotsOf ws := rfl
@[simp] theorem slotsOf_slot {i : Nat} {ws : List W} : slotsOf (.slot i :: ws) = i :: slotsOf ws := rfl
@[simp] theorem slotsOf_own {xs : List D} {ws : List W} : slotsOf (.own xs :: ws) = slotsOf ws := rfl
@[simp] theorem nodupN_nil : nodupN [] = true := rfl
@[simp] theorem nodupN_one {i : Nat} : nodupN [i] = true := rfl
@[simp] theorem backArgs_nil {ss : List Sl} : backArgs [] ss r = r := by cases ss <;> rfl
@[simp] theorem backArgs_val {d : D} {ws : List W} {s : Sl} {ss : List Sl} : backArgs (.val d :: ws) (s :: ss) r = backArgs ws ss r := rfl
/-- the caller's slot behind a call -/
def bkS (r : Env) (i : Nat) (xs : List D) : Sl → Env
  | .acc m _ => sets r i (.acc m xs)
  | _ => r
@[simp] theorem bkS_acc {i : Nat} {xs ys : List D} {m : Md} : bkS r i xs (.acc m ys) = sets r i (.acc m xs) := rfl
@[simp] theorem backArgs_slot {i : Nat} {ws : List W} {m : Md} {xs : List D} {ss : List Sl} : backArgs (.slot i :: ws) (.acc m xs :: ss) r = backArgs ws ss (bkS r i xs (gets r i)) := by
  rw [backArgs]
  unfold bkS
  cases gets r i <;> rfl
end
/-! ### statements -/
section
variable {C : CallF} {Q : Fl → Env → Prop} {t : Kt Q} {r : Env} {e c : E} {a b : S} {tg : Tg}
@[simp] theorem Ok_skip : Ok (ex C .skip r) Q t = Q .next r := by rw [ex]; rfl
/-- behind a statement -/
def thn' (C : CallF) (b : S) : Fl → Env → R Fl
  | .next, r1 => ex C b r1
  | .ret w, r1 => .ok (.ret w) r1
  | .brk, r1 => .ok .brk r1
@[simp] theorem thn_next : thn' C b .next r = ex C b r := rfl
@[simp] theorem thn_ret {w : W} : thn' C b (.ret w) r = .ok (.ret w) r := rfl
@[simp] theorem thn_brk : thn' C b .brk r = .ok .brk r := rfl
@[simp] theorem Ok_seq : Ok (ex C (.seq a b) r) Q t = Ok (ex C a r) (fun f r1 => Ok (thn' C b f r1) Q ()) () := by
  rw [ex]
  refine Ok_beq _ _ fun f r1 => ?_
  cases f <;> rfl
@[simp] theorem Ok_asn {i : Nat} : Ok (ex C (.asn (.nm i) e) r) Q t = Ok (ev C e r) (fun w r1 => Ok (putW r1 i w) (fun _ r2 => Q .next r2) ()) () := by
  rw [ex]
  refine Ok_beq _ _ fun _ _ => ?_
  exact Ok_beq _ _ fun _ _ => rfl
/-- a tuple to targets -/
def tpS (tg : Tg) (r1 : Env) (d : D) : R Fl := match d with
  | .tup ds => (R.ofO r1 (asgs tg ds r1)).bind fun r' _ => .ok .next r'
  | _ => .no
@[simp] theorem tpS_tup {ds : List D} : tpS tg r (.tup ds) = (R.ofO r (asgs tg ds r)).bind fun r' _ => .ok .next r' := rfl
@[simp] theorem Ok_asnT : Ok (ex C (.asn (.tp tg) e) r) Q t = Ok (ev C e r) (fun w r1 => Sw r1 w (fun d => Ok (tpS tg r1 d) Q ()) ()) () := by
  rw [ex]
  refine Ok_beq _ _ fun w r1 => ?_
  refine Ok_veq fun d => ?_
  cases d <;> rfl
@[simp] theorem Ok_par : Ok (ex C (.par tg e) r) Q t = Ok (evs C e r) (fun ws r1 => Ok (putWs tg ws r1) (fun _ r2 => Q .next r2) ()) () := by
  rw [ex]
  refine Ok_beq _ _ fun _ _ => ?_
  exact Ok_beq _ _ fun _ _ => rfl
def setK (i : Nat) (m : Md) (d : D) (r1 : Env) (xs : List D) : Option Nat → R Fl
  | some j => .ok .next (sets r1 i (.acc m (xs.set j d)))
  | none => .no
@[simp] theorem setK_some {i : Nat} {m : Md} {d : D} {xs : List D} {j : Nat} : setK i m d r xs (some j) = .ok .next (sets r i (.acc m (xs.set j d))) := rfl
def setR (i : Nat) (x : W) (r2 : Env) (y : W) : R Fl := match x, y with
  | .val d, .val (.int k) => mutL r2 i fun m xs => setK i m d r2 xs (ixN xs.length k)
  | _, _ => .no
@[simp] theorem setR_val {i : Nat} {d : D} {k : Int} : setR i (.val d) r (.val (.int k)) = mutL r i fun m xs => setK i m d r xs (ixN xs.length k) := rfl
@[simp] theorem Ok_setix {i : Nat} {v : E} : Ok (ex C (.setix i e v) r) Q t = Ok (ev C v r) (fun x r1 => Ok (mutL r1 i fun _ _ => (ev C e r1).bind fun y r2 => setR i x r2 y) Q ()) () := by
  have h : ∀ (x y : W) (r2 : Env), setR i x r2 y = match x, y with
    | .val d, .val (.int k) => mutL r2 i fun m xs => match ixN xs.length k with
      | some j => .ok .next (sets r2 i (.acc m (xs.set j d)))
      | none => .no
    | _, _ => .no := fun x y r2 => by
      unfold setR
      split
      · congr
      · rfl
  rw [ex]
  refine Ok_beq _ _ fun x r1 => ?_
  simp only [h]
  all_goals (rfl)
@[simp] theorem Ok_expr : Ok (ex C (.expr e) r) Q t = Ok (ev C e r) (fun _ r1 => Q .next r1) () := by
  rw [ex]
  exact Ok_beq _ _ fun _ _ => rfl
@[simp] theorem Ok_ret : Ok (ex C (.ret e) r) Q t = Ok (ev C e r) (fun w r1 => Q (.ret w) r1) () := by
  rw [ex]
  exact Ok_beq _ _ fun _ _ => rfl
@[simp] theorem Ok_retn : Ok (ex C .retn r) Q t = Q (.ret (.val .non)) r := by rw [ex]; rfl
@[simp] theorem Ok_brk : Ok (ex C .brk r) Q t = Q .brk r := by rw [ex]; rfl
@[simp] theorem Ok_ite : Ok (ex C (.ite c a b) r) Q t = Ok (ev C c r) (fun x r1 => Ok (asB x r1) (fun k r2 => Ok (match k with | true => ex C a r2 | false => ex C b r2) Q ()) ()) () := by
  rw [ex]
  unfold test
  refine (Ok_bind _ _).trans ?_
  refine (Ok_bind _ _).trans ?_
  exact Ok_ext fun _ _ => rfl
@[simp] theorem Ok_putW_val {i : Nat} {d : D} {Q : Unit → Env → Prop} {t : Kt Q} : Ok (putW r i (.val d)) Q t = Ok (R.ofO r (put r i (.val d))) (fun r' _ => Q () r') () := by
  unfold putW
  first | exact Ok_beq _ _ fun _ _ => rfl | (refine Ok_beq _ _ fun _ _ => ?_; exact Ok_beq _ _ fun _ _ => rfl)
@[simp] theorem Ok_putW_own {i : Nat} {xs : List D} {Q : Unit → Env → Prop} {t : Kt Q} : Ok (putW r i (.own xs)) Q t = Ok (R.ofO r (put r i (.acc .free xs))) (fun r' _ => Q () r') () := by
  unfold putW
  first | exact Ok_beq _ _ fun _ _ => rfl | (refine Ok_beq _ _ fun _ _ => ?_; exact Ok_beq _ _ fun _ _ => rfl)
@[simp] theorem Ok_putW_slot {i j : Nat} {Q : Unit → Env → Prop} {t : Kt Q} : Ok (putW r i (.slot j)) Q t = Ok (take (.slot j) r) (fun d r1 => Ok (R.ofO r1 (put r1 i (.val d))) (fun r' _ => Q () r') ()) () := by
  unfold putW
  first | exact Ok_beq _ _ fun _ _ => rfl | (refine Ok_beq _ _ fun _ _ => ?_; exact Ok_beq _ _ fun _ _ => rfl)
@[simp] theorem asg_nm {i : Nat} {d : D} : asg (.nm i) d r = put r i (.val d) := by rw [asg]
@[simp] theorem asg_tp {ds : List D} : asg (.tp tg) (.tup ds) r = asgs tg ds r := by rw [asg]
@[simp] theorem asgs_nil : asgs .nil [] r = some r := by rw [asgs]
@[simp] theorem asgs_cons {t ts : Tg} {d : D} {ds : List D} : asgs (.cons t ts) (d :: ds) r = (asg t d r).bind (asgs ts ds) := by
  rw [asgs]
  cases asg t d r <;> rfl
end
/-! ### a call -/
theorem callF_is {P : Nat → Option Fn} {n f : Nat} {fn : Fn} {ss : List Sl} (h : P f = some fn) (hl : ss.length = fn.n) : callF P (n + 1) f ss = (ex (callF P n) fn.b (ss ++ List.replicate (fn.m - fn.n) .no)).fin ss := by
  rw [callF]
  dsimp only
  rw [h]
  dsimp only
  rw [if_pos hl]
/-- the end of a def -/
def finS (ss : List Sl) (Q : W → Env → Prop) : Fl → Env → Prop
  | .ret w, r => Ok (outW w r) (fun w' r' => Q w' (outs ss r')) ()
  | .next, r => Q (.val .non) (outs ss r)
  | .brk, _ => False
theorem Ok_run {P : Nat → Option Fn} {n f : Nat} {fn : Fn} {ss : List Sl} {Q : W → Env → Prop} {t : Kt Q} (h : P f = some fn) (hl : ss.length = fn.n) (g : Ok (ex (callF P n) fn.b (ss ++ List.replicate (fn.m - fn.n) .no)) (finS ss Q) ()) : Ok (callF P (n + 1) f ss) Q t := by
  rw [callF_is h hl]
  obtain ⟨a, r, e, q⟩ := g.use
  rw [e]
  cases a with
  | ret w =>
    replace q : Ok (outW w r) (fun w' r' => Q w' (outs ss r')) () := q
    show Ok ((outW w r).bind fun w' r' => .ok w' (outs ss r')) Q t
    rw [Ok_bind]
    exact q
  | next => exact q
  | brk => exact q.elim
section
variable {Q : W → Env → Prop} {ss : List Sl} {r : Env}
@[simp] theorem finS_val {d : D} : finS ss Q (.ret (.val d)) r = Q (.val d) (outs ss r) := rfl
@[simp] theorem finS_own {xs : List D} : finS ss Q (.ret (.own xs)) r = Q (.own xs) (outs ss r) := rfl
@[simp] theorem finS_next : finS ss Q .next r = Q (.val .non) (outs ss r) := rfl
/-- the slot handed out -/
def outSl (i : Nat) (r : Env) : Sl → R W
  | .val d => .ok (.val d) r
  | .acc .free xs => .ok (.own xs) (sets r i .no)
  | _ => .no
@[simp] theorem outSl_val {i : Nat} {d : D} : outSl i r (.val d) = .ok (.val d) r := rfl
@[simp] theorem outSl_free {i : Nat} {xs : List D} : outSl i r (.acc .free xs) = .ok (.own xs) (sets r i .no) := rfl
@[simp] theorem finS_slot {i : Nat} : finS ss Q (.ret (.slot i)) r = Ok (outSl i r (gets r i)) (fun w' r' => Q w' (outs ss r')) () := by
  have e : outW (.slot i) r = outSl i r (gets r i) := by
    unfold outW outSl
    dsimp only
    all_goals (cases gets r i with
               | acc m xs => cases m <;> rfl
               | _ => rfl)
  show Ok (outW (.slot i) r) _ _ = _
  rw [e]
@[simp] theorem outs_is : outs ss r = outsF r 0 ss := rfl
@[simp] theorem outsF_nil {k : Nat} : outsF r k [] = [] := rfl
@[simp] theorem outsF_acc {k : Nat} {m : Md} {xs : List D} : outsF r k (.acc m xs :: ss) = gets r k :: outsF r (k + 1) ss := rfl
@[simp] theorem outsF_val {k : Nat} {d : D} : outsF r k (.val d :: ss) = .val d :: outsF r (k + 1) ss := rfl
end
end ML

-- part L1
set_option maxHeartbeats 1000000
/-! Running MP texts: operators, comprehensions, loops. -/
namespace ML
open MP
theorem eq_of {α : Type} {x : R α} {a : α} {r : Env} (h : ∀ (Q : α → Env → Prop) (t : Kt Q), Q a r → Ok x Q t) : x = .ok a r := by
  obtain ⟨b, r', e, rfl, rfl⟩ := (h (fun b r' => b = a ∧ r' = r) () ⟨rfl, rfl⟩).use
  exact e
section
variable {i j : Int} {xs ys ds : List D} {b c : Bool} {s z : List Nat} {r : Env}
@[simp] theorem isTy_int {t : Ty} : isTy t (.int i) = some (match t with | .int => true | _ => false) := by cases t <;> rfl
@[simp] theorem isTy_bl {t : Ty} : isTy t (.bl b) = some (match t with | .int => true | .bool => true | _ => false) := by cases t <;> rfl
@[simp] theorem isTy_str {t : Ty} : isTy t (.str s) = some (match t with | .str => true | _ => false) := by cases t <;> rfl
@[simp] theorem isTy_tup {t : Ty} : isTy t (.tup xs) = some (match t with | .tuple => true | _ => false) := by cases t <;> rfl
@[simp] theorem isTy_lst {t : Ty} : isTy t (.lst xs) = some (match t with | .list => true | _ => false) := by cases t <;> rfl
@[simp] theorem isTy_non {t : Ty} : isTy t .non = some false := by cases t <;> rfl
@[simp] theorem b_add : binOp .add (.int i) (.int j) = some (.val (.int (i + j))) := rfl
@[simp] theorem b_sub : binOp .sub (.int i) (.int j) = some (.val (.int (i - j))) := rfl
@[simp] theorem b_mul : binOp .mul (.int i) (.int j) = if mulOk i j then some (.val (.int (i * j))) else none := rfl
@[simp] theorem b_fdiv : binOp .fdiv (.int i) (.int j) = if 0 < j ∧ j < 1073741824 then some (.val (.int (i / j))) else none := rfl
@[simp] theorem b_mod : binOp .mod (.int i) (.int j) = if 0 < j then some (.val (.int (i % j))) else none := rfl
@[simp] theorem b_pow : binOp .pow (.int i) (.int j) = if 0 ≤ j ∧ j ≤ 1000 ∧ i.natAbs < 18446744073709551616 then some (.val (.int (i ^ j.toNat))) else none := rfl
@[simp] theorem b_addT : binOp .add (.tup xs) (.tup ys) = if xs.length + ys.length ≤ LIM then some (.val (.tup (xs ++ ys))) else none := rfl
@[simp] theorem b_addL : binOp .add (.lst xs) (.lst ys) = if xs.length + ys.length ≤ LIM then some (.own (xs ++ ys)) else none := rfl
@[simp] theorem b_addS : binOp .add (.str s) (.str z) = if s.length + z.length ≤ LIM then some (.val (.str (s ++ z))) else none := rfl
@[simp] theorem mulOk_r : mulOk i j = ((decide (-18446744073709551616 < i) && decide (i < 18446744073709551616)) || (decide (-18446744073709551616 < j) && decide (j < 18446744073709551616))) := rfl
@[simp] theorem c_lt : cmpOp .lt (.int i) (.int j) = some (decide (i < j)) := rfl
@[simp] theorem c_le : cmpOp .le (.int i) (.int j) = some (decide (i ≤ j)) := rfl
@[simp] theorem c_gt : cmpOp .gt (.int i) (.int j) = some (decide (j < i)) := rfl
@[simp] theorem c_ge : cmpOp .ge (.int i) (.int j) = some (decide (j ≤ i)) := rfl
theorem beq_dec {i j : Int} : (i == j) = decide (i = j) := by
  by_cases h : i = j
  · subst h; simp
  · rw [decide_eq_false h]; simpa using h
@[simp] theorem c_eqI : cmpOp .eq (.int i) (.int j) = some (decide (i = j)) := by rw [← beq_dec]; rfl
@[simp] theorem c_neI : cmpOp .ne (.int i) (.int j) = some (!decide (i = j)) := by rw [← beq_dec]; rfl
@[simp] theorem c_eqB : cmpOp .eq (.bl b) (.bl c) = some (b == c) := rfl
@[simp] theorem c_neB : cmpOp .ne (.bl b) (.bl c) = some (!(b == c)) := rfl
@[simp] theorem c_eqS : cmpOp .eq (.str s) (.str z) = some (s == z) := rfl
@[simp] theorem c_neS : cmpOp .ne (.str s) (.str z) = some (!(s == z)) := rfl
@[simp] theorem c_isN {d : D} : cmpOp .is_ d .non = some (isNon d) := by cases d <;> rfl
@[simp] theorem c_isnotN {d : D} : cmpOp .isnot d .non = some (!isNon d) := by cases d <;> rfl
@[simp] theorem bi_len : biOp .len [.lst xs] = some (.val (.int xs.length)) := rfl
@[simp] theorem bi_lenT : biOp .len [.tup xs] = some (.val (.int xs.length)) := rfl
@[simp] theorem bi_lenS : biOp .len [.str s] = some (.val (.int s.length)) := rfl
@[simp] theorem bi_tuple : biOp .tuple [.lst xs] = some (.val (.tup xs)) := rfl
@[simp] theorem bi_tupleT : biOp .tuple [.tup xs] = some (.val (.tup xs)) := rfl
@[simp] theorem bi_list : biOp .list [.lst xs] = some (.own xs) := rfl
@[simp] theorem bi_listT : biOp .list [.tup xs] = some (.own xs) := rfl
@[simp] theorem bi_abs : biOp .abs [.int i] = some (.val (.int (if i < 0 then -i else i))) := rfl
@[simp] theorem bi_int : biOp .int [.int i] = some (.val (.int i)) := rfl
@[simp] theorem bi_intB : biOp .int [.bl b] = some (.val (.int (b2i b))) := rfl
@[simp] theorem bi_min2 : biOp .min2 [.int i, .int j] = some (.val (.int (if j < i then j else i))) := rfl
@[simp] theorem bi_max2 : biOp .max2 [.int i, .int j] = some (.val (.int (if j > i then j else i))) := rfl
theorem getsI_map {α : Type} {f : α → Int} : ∀ {l : List α}, getsI (l.map fun x => .int (f x)) = some (l.map f)
  | [] => rfl
  | x :: l => by
    show (getsI (l.map fun x => .int (f x))).map (f x :: ·) = _
    rw [getsI_map]; rfl
theorem getsI_ints {l : List Int} : getsI (l.map .int) = some l := by
  have := getsI_map (f := fun x : Int => x) (l := l)
  simpa using this
theorem getsB_map {α : Type} {f : α → Bool} : ∀ {l : List α}, getsB (l.map fun x => .bl (f x)) = some (l.map f)
  | [] => rfl
  | x :: l => by
    show (getsB (l.map fun x => .bl (f x))).map (f x :: ·) = _
    rw [getsB_map]; rfl
@[simp] theorem bi_all {α : Type} {f : α → Bool} {l : List α} : biOp .all [.lst (l.map fun x => .bl (f x))] = some (.val (.bl (l.all f))) := by
  show (getsB _).map _ = _
  rw [getsB_map]
  simp [List.all_map]
@[simp] theorem bi_any {α : Type} {f : α → Bool} {l : List α} : biOp .any [.lst (l.map fun x => .bl (f x))] = some (.val (.bl (l.any f))) := by
  show (getsB _).map _ = _
  rw [getsB_map]
  simp [List.any_map]
@[simp] theorem bi_sum {α : Type} {f : α → Int} {l : List α} : biOp .sum [.lst (l.map fun x => .int (f x))] = some (.val (.int (l.map f).sum)) := by
  show (getsI _).map _ = _
  rw [getsI_map]
  rfl
@[simp] theorem bi_sorted {l : List Int} : biOp .sorted [.lst (l.map .int)] = some (.own ((sortI l).map .int)) := by
  show sorted1 _ (getsI _) = _
  rw [getsI_ints]
  rfl
end

/-! ### comprehensions -/
def stepC' (C : CallF) (t : Tg) (c x : E) (own : List Nat) (d : D) (r2 : Env) : R (Option D) := match asg t d r2 with
  | some r3 => (ev C c r3).bind fun y r4 => (asB y r4).bind fun b r5 => match b with
    | true => (ev C x r5).bind fun z r6 => match z with
      | .val d' => .ok (some d') (wipes r6 own)
      | _ => .no
    | false => .ok none (wipes r5 own)
  | none => .no
theorem ev_lc' {C : CallF} {t : Tg} {k : Ik} {es c x : E} {own : List Nat} {r : Env} : ev C (.lc t k es c x own) r = (evs C es r).bind fun ws r1 => match (views r1 ws).bind (itOp k) with
    | some ds => ((compL (stepC' C t c x own) ds [] (wipes (locks r1 ws) own)).bind fun out r7 => .ok (.own out) (backs (locks r1 ws) r7 own)).unlock r1 ws
    | none => .no := by
  rw [ev]
  rfl
theorem compL_pure {step : D → Env → R (Option D)} {r : Env} {g : D → Option D} : ∀ {ds out : List D}, (∀ d ∈ ds, step d r = .ok (g d) r) → compL step ds out r = .ok (out ++ ds.filterMap g) r
  | [], out, _ => by rw [compL]; simp
  | d :: ds, out, h => by
    rw [compL, h d List.mem_cons_self, R.bind_ok]
    cases e : g d with
    | some y =>
      dsimp only
      rw [compL_pure fun d' hd => h d' (List.mem_cons_of_mem _ hd), List.filterMap_cons, e]
      simp
    | none =>
      dsimp only
      rw [compL_pure fun d' hd => h d' (List.mem_cons_of_mem _ hd), List.filterMap_cons, e]
/-- a comprehension whose turns leave the names as they are -/
theorem Ok_lc {C : CallF} {t : Tg} {k : Ik} {es c x : E} {own : List Nat} {r : Env} {Q : W → Env → Prop} {q : Kt Q} (g : D → Option D)
    (h : Ok (evs C es r) (fun ws r1 => ∃ its, (views r1 ws).bind (itOp k) = some its ∧ (∀ d ∈ its, stepC' C t c x own d (wipes (locks r1 ws) own) = .ok (g d) (wipes (locks r1 ws) own)) ∧
      Q (.own (its.filterMap g)) (unlocks r1 (backs (locks r1 ws) (wipes (locks r1 ws) own) own) ws)) ()) : Ok (ev C (.lc t k es c x own) r) Q q := by
  obtain ⟨ws, r1, e, its, h1, h2, h3⟩ := h.use
  rw [ev_lc', e, R.bind_ok, h1]
  dsimp only
  rw [compL_pure h2, R.bind_ok]
  simpa [R.unlock] using h3
/-- the same over an encoded list -/
theorem Ok_lcm {α : Type} {C : CallF} {t : Tg} {k : Ik} {es c x : E} {own : List Nat} {r : Env} {Q : W → Env → Prop} {q : Kt Q} (l : List α) (enc : α → D) (p : α → Bool) (f : α → D)
    (h : Ok (evs C es r) (fun ws r1 => (views r1 ws).bind (itOp k) = some (l.map enc) ∧ (∀ a ∈ l, ∀ (Q' : Option D → Env → Prop), Q' (if p a then some (f a) else none) (wipes (locks r1 ws) own) → Ok (stepC' C t c x own (enc a) (wipes (locks r1 ws) own)) Q' ()) ∧
      Q (.own ((l.filter p).map f)) (unlocks r1 (backs (locks r1 ws) (wipes (locks r1 ws) own) own) ws)) ()) : Ok (ev C (.lc t k es c x own) r) Q q := by
  obtain ⟨ws, r1, e, h1, h2, h3⟩ := h.use
  rw [ev_lc', e, R.bind_ok, h1]
  dsimp only
  have key : ∀ (m : List α) (out : List D), (∀ a ∈ m, a ∈ l) → compL (stepC' C t c x own) (m.map enc) out (wipes (locks r1 ws) own) = .ok (out ++ (m.filter p).map f) (wipes (locks r1 ws) own) := fun m => by
    induction m with
    | nil => intro out _; rw [List.map_nil, compL]; simp
    | cons a m ih =>
      intro out hm
      rw [List.map_cons, compL, eq_of (fun Q' _ => h2 a (hm a List.mem_cons_self) Q'), R.bind_ok]
      by_cases hp : p a = true
      · rw [if_pos hp]
        dsimp only
        rw [ih _ fun b hb => hm b (List.mem_cons_of_mem _ hb), List.filter_cons, if_pos hp]
        simp
      · rw [if_neg hp]
        dsimp only
        rw [ih _ fun b hb => hm b (List.mem_cons_of_mem _ hb), List.filter_cons, if_neg hp]
  rw [key l [] fun a h => h, R.bind_ok]
  simpa [R.unlock] using h3
section
variable {C : CallF} {r : Env} {Q : Option D → Env → Prop} {q : Kt Q} {t : Tg} {c x : E} {own : List Nat} {d : D}
/-- a turn -/
def stA (C : CallF) (c x : E) (own : List Nat) : Option Env → R (Option D)
  | some r3 => (ev C c r3).bind fun y r4 => (asB y r4).bind fun b r5 => match b with
    | true => (ev C x r5).bind fun z r6 => match z with
      | .val d' => .ok (some d') (wipes r6 own)
      | _ => .no
    | false => .ok none (wipes r5 own)
  | none => .no
@[simp] theorem stepC_is : stepC' C t c x own d r = stA C c x own (asg t d r) := by
  unfold stepC' stA
  cases asg t d r <;> rfl
def stB (own : List Nat) (r6 : Env) : W → R (Option D)
  | .val d' => .ok (some d') (wipes r6 own)
  | _ => .no
@[simp] theorem stB_val : stB own r (.val d) = .ok (some d) (wipes r own) := rfl
def stF (C : CallF) (x : E) (own : List Nat) (r5 : Env) : Bool → R (Option D)
  | true => (ev C x r5).bind fun z r6 => stB own r6 z
  | false => .ok none (wipes r5 own)
@[simp] theorem stF_true : stF C x own r true = (ev C x r).bind fun z r6 => stB own r6 z := rfl
@[simp] theorem stF_false : stF C x own r false = .ok none (wipes r own) := rfl
@[simp] theorem stA_some : Ok (stA C c x own (some r)) Q q = Ok (ev C c r) (fun y r4 => Ok (asB y r4) (fun b r5 => Ok (stF C x own r5 b) Q ()) ()) () := by
  have h : ∀ (b : Bool) (r5 : Env), (match b with
    | true => (ev C x r5).bind fun z r6 => match z with
      | .val d' => .ok (some d') (wipes r6 own)
      | _ => .no
    | false => .ok none (wipes r5 own)) = stF C x own r5 b := fun b r5 => by
      cases b
      · rfl
      · show ((ev C x r5).bind fun z r6 => _) = (ev C x r5).bind fun z r6 => stB own r6 z
        congr
  show Ok ((ev C c r).bind fun y r4 => (asB y r4).bind fun b r5 => _) Q q = _
  refine Ok_beq _ _ fun y r4 => Ok_beq _ _ fun b r5 => ?_
  rw [h]
end
/-- an environment is locked for the walked -/
@[simp] theorem locks_nil {r : Env} : locks r [] = r := rfl
@[simp] theorem locks_val {r : Env} {d : D} {ws : List W} : locks r (.val d :: ws) = locks r ws := rfl
@[simp] theorem locks_own {r : Env} {xs : List D} {ws : List W} : locks r (.own xs :: ws) = locks r ws := rfl
def lk (r : Env) (i : Nat) : Sl → Env
  | .acc _ xs => sets r i (.acc .lck xs)
  | _ => r
@[simp] theorem lk_acc {r : Env} {i : Nat} {m : Md} {xs : List D} : lk r i (.acc m xs) = sets r i (.acc .lck xs) := rfl
@[simp] theorem lk_val {r : Env} {i : Nat} {d : D} : lk r i (.val d) = r := rfl
@[simp] theorem locks_slot {r : Env} {i : Nat} {ws : List W} : locks r (.slot i :: ws) = locks (lk r i (gets r i)) ws := by
  show locks (lock1 r (.slot i)) ws = _
  unfold lock1 lk
  dsimp only
  all_goals (cases gets r i <;> rfl)
@[simp] theorem unlocks_nil {r0 r : Env} : unlocks r0 r [] = r := rfl
@[simp] theorem unlocks_val {r0 r : Env} {d : D} {ws : List W} : unlocks r0 r (.val d :: ws) = unlocks r0 r ws := rfl
@[simp] theorem unlocks_own {r0 r : Env} {xs : List D} {ws : List W} : unlocks r0 r (.own xs :: ws) = unlocks r0 r ws := rfl
def uk (r : Env) (i : Nat) : Sl → Sl → Env
  | .acc m _, .acc .lck xs => sets r i (.acc m xs)
  | _, _ => r
@[simp] theorem uk_acc {r : Env} {i : Nat} {m : Md} {xs ys : List D} : uk r i (.acc m ys) (.acc .lck xs) = sets r i (.acc m xs) := rfl
@[simp] theorem uk_val {r : Env} {i : Nat} {d : D} {s : Sl} : uk r i (.val d) s = r := rfl
@[simp] theorem unlocks_slot {r0 r : Env} {i : Nat} {ws : List W} : unlocks r0 r (.slot i :: ws) = uk (unlocks r0 r ws) i (gets r0 i) (gets (unlocks r0 r ws) i) := by
  show unlock1 r0 (unlocks r0 r ws) (.slot i) = _
  unfold unlock1 uk
  dsimp only
  all_goals (cases gets r0 i <;> cases gets (unlocks r0 r ws) i <;> first | rfl | (rename_i m ys m' xs; cases m' <;> rfl))
@[simp] theorem it_lst {xs : List D} : itOp .seq [.lst xs] = some xs := rfl
@[simp] theorem it_tup {xs : List D} : itOp .seq [.tup xs] = some xs := rfl
theorem it_rng1 {n : Nat} (h : n ≤ 1000) : itOp .rng1 [.int (n : Int)] = some ((List.range n).map fun k => .int (k : Int)) := by
  show (if (n : Int) ≤ 1048576 ∧ -1073741824 ≤ (n : Int) then _ else _) = _
  rw [if_pos ⟨by omega, by omega⟩, Int.toNat_natCast]
  simp
end ML
namespace ML
open MP
theorem zip_enc {α β : Type} {f : α → D} {g : β → D} : ∀ {l : List α} {m : List β}, List.zipWith (fun x y => D.tup [x, y]) (l.map f) (m.map g) = (List.zip l m).map fun p => .tup [f p.1, g p.2]
  | [], _ => by simp
  | _ :: _, [] => by simp
  | x :: l, y :: m => by
    rw [List.map_cons, List.map_cons, List.zipWith_cons_cons, zip_enc, List.zip_cons_cons, List.map_cons]
@[simp] theorem it_zipT {α β : Type} {f : α → D} {g : β → D} {l : List α} {m : List β} : itOp .zip [.tup (l.map f), .tup (m.map g)] = some ((List.zip l m).map fun p => .tup [f p.1, g p.2]) := by
  rw [← zip_enc]; rfl
@[simp] theorem it_zipL {α β : Type} {f : α → D} {g : β → D} {l : List α} {m : List β} : itOp .zip [.lst (l.map f), .lst (m.map g)] = some ((List.zip l m).map fun p => .tup [f p.1, g p.2]) := by
  rw [← zip_enc]; rfl
theorem cut_map {α β : Type} {f : α → β} {l : List α} {a b : Option Int} : cut (l.map f) a b = (cut l a b).map f := by
  unfold cut
  rw [List.length_map, ← List.map_drop, ← List.map_take]
@[simp] theorem cut_tup {xs : List D} {a b : Option Int} : cutOp a b (.tup xs) = some (.val (.tup (cut xs a b))) := rfl
@[simp] theorem cut_lst {xs : List D} {a b : Option Int} : cutOp a b (.lst xs) = some (.own (cut xs a b)) := rfl
@[simp] theorem cut_scr {xs : List Int} {a b : Option Int} : cutOp a b (.scr xs) = some (.own ((cut xs a b).map .int)) := rfl
theorem sIx_n (n d k : Nat) : sIx n d (some (k : Int)) = min k n := by
  show (if (k : Int) < 0 then ((k : Int) + n).toNat else min (k : Int).toNat n) = _
  rw [if_neg (by omega), Int.toNat_natCast]
theorem sIx_no (n d : Nat) : sIx n d none = d := rfl
@[simp] theorem cut_from {α : Type} {l : List α} {k : Nat} : cut l (some (k : Int)) none = l.drop k := by
  unfold cut
  rw [sIx_n, sIx_no]
  by_cases h : k ≤ l.length
  · rw [Nat.min_eq_left h, List.take_of_length_le (by rw [List.length_drop]; omega)]
  · rw [Nat.min_eq_right (by omega), List.drop_of_length_le (Nat.le_refl _), List.drop_of_length_le (by omega)]
    simp
@[simp] theorem cut_one {α : Type} {l : List α} : cut l (some 1) none = l.drop 1 := cut_from (k := 1)
theorem cut_to {α : Type} {l : List α} {k : Nat} : cut l none (some (k : Int)) = l.take k := by
  unfold cut
  rw [sIx_n, sIx_no, List.drop_zero, Nat.sub_zero]
  by_cases h : k ≤ l.length
  · rw [Nat.min_eq_left h]
  · rw [Nat.min_eq_right (by omega), List.take_of_length_le (Nat.le_refl _), List.take_of_length_le (by omega)]
theorem pw_zip {R : Int → Int → Prop} : ∀ {l : List Int}, l.Pairwise R → ∀ p ∈ List.zip l (l.drop 1), R p.1 p.2
  | [], _, p, hp => by simp at hp
  | [x], _, p, hp => by simp at hp
  | x :: y :: l, h, p, hp => by
    rw [List.drop_succ_cons, List.drop_zero, List.zip_cons_cons] at hp
    rcases List.mem_cons.mp hp with e | hp
    · subst e
      exact List.rel_of_pairwise_cons h List.mem_cons_self
    · exact pw_zip (List.Pairwise.of_cons h) p (by simpa using hp)
end ML
namespace ML
open MP
mutual
theorem eqD_refl : ∀ {d : D}, pln d = true → eqD d d = true
  | .non, _ => rfl
  | .bl a, _ => by simp [eqD]
  | .int a, _ => by simp [eqD]
  | .str a, _ => by simp [eqD]
  | .tup xs, h => by rw [eqD]; rw [pln] at h; exact eqDs_refl h
  | .lst xs, h => by rw [eqD]; rw [pln] at h; exact eqDs_refl h
  | .dct _, h => by rw [pln] at h; cases h
  | .scr _, h => by rw [pln] at h; cases h
theorem eqDs_refl : ∀ {ds : List D}, plns ds = true → eqDs ds ds = true
  | [], _ => by rw [eqDs]
  | d :: ds, h => by
    rw [plns, Bool.and_eq_true] at h
    rw [eqDs, eqD_refl h.1, eqDs_refl h.2]; rfl
end
/-- small plain data -/
def smD (d : D) : Bool := pln d && decide (dep d ≤ 64)
theorem eqOk_sm {d e : D} (h : smD d = true) (h2 : smD e = true) : eqOk d e = true := by
  unfold smD at h h2
  rw [Bool.and_eq_true, decide_eq_true_eq] at h h2
  unfold eqOk
  rw [h.1, h2.1, decide_eq_true (Nat.le_trans (Nat.min_le_left _ _) h.2)]
  rfl
theorem c_same {d : D} (h : smD d = true) : cmpOp .eq d d = some true := by
  have hp : pln d = true := by unfold smD at h; rw [Bool.and_eq_true] at h; exact h.1
  show (if eqOk d d then some (eqD d d) else none) = _
  rw [eqOk_sm h h, eqD_refl hp]; rfl
theorem c_sameN {d : D} (h : smD d = true) : cmpOp .ne d d = some false := by
  have hp : pln d = true := by unfold smD at h; rw [Bool.and_eq_true] at h; exact h.1
  show (if eqOk d d then some (!eqD d d) else none) = _
  rw [eqOk_sm h h, eqD_refl hp]; rfl
theorem plns_map {α : Type} {f : α → D} (h : ∀ a, pln (f a) = true) : ∀ l : List α, plns (l.map f) = true
  | [] => rfl
  | a :: l => by rw [List.map_cons, plns, h a, plns_map h l]; rfl
theorem deps_map {α : Type} {f : α → D} {k : Nat} (h : ∀ a, dep (f a) ≤ k) : ∀ l : List α, deps (l.map f) ≤ k
  | [] => Nat.zero_le _
  | a :: l => by
    rw [List.map_cons, deps]
    exact Nat.max_le.mpr ⟨h a, deps_map h l⟩
theorem pln_tup {xs : List D} : pln (.tup xs) = plns xs := by rw [pln]
theorem pln_lst {xs : List D} : pln (.lst xs) = plns xs := by rw [pln]
theorem dep_tup {xs : List D} : dep (.tup xs) = deps xs + 1 := by rw [dep]
theorem dep_lst {xs : List D} : dep (.lst xs) = deps xs + 1 := by rw [dep]
@[simp] theorem sm_ints {l : List Int} : smD (.tup (l.map .int)) = true := by
  unfold smD
  rw [pln_tup, plns_map fun _ => rfl, dep_tup, decide_eq_true (by have := deps_map (f := D.int) (k := 0) (fun _ => Nat.le_refl _) l; omega)]
  rfl
@[simp] theorem sm_intsL {l : List Int} : smD (.lst (l.map .int)) = true := by
  unfold smD
  rw [pln_lst, plns_map fun _ => rfl, dep_lst, decide_eq_true (by have := deps_map (f := D.int) (k := 0) (fun _ => Nat.le_refl _) l; omega)]
  rfl
@[simp] theorem sm_lots {L : List (List Int)} : smD (.lst (L.map fun l => .tup (l.map .int))) = true := by
  unfold smD
  rw [pln_lst, plns_map fun l => by rw [pln_tup]; exact plns_map (fun _ => rfl) l, dep_lst, decide_eq_true]
  · rfl
  · have := deps_map (f := fun l : List Int => D.tup (l.map .int)) (k := 1) (fun l => by rw [dep_tup]; have := deps_map (f := D.int) (k := 0) (fun _ => Nat.le_refl _) l; omega) L
    omega
theorem eqDs_ints : ∀ {l m : List Int}, eqDs (l.map .int) (m.map .int) = decide (l = m)
  | [], [] => by simp [eqDs]
  | [], _ :: _ => by simp [eqDs]
  | _ :: _, [] => by simp [eqDs]
  | x :: l, y :: m => by
    rw [List.map_cons, List.map_cons, eqDs, eqDs_ints]
    show (x == y && _) = _
    rw [beq_dec]
    by_cases h : x = y <;> simp [h]
@[simp] theorem c_eqT {l m : List Int} : cmpOp .eq (.tup (l.map .int)) (.tup (m.map .int)) = some (decide (l = m)) := by
  show (if eqOk _ _ then some (eqD _ _) else none) = _
  rw [eqOk_sm sm_ints sm_ints, eqD, eqDs_ints]; rfl
@[simp] theorem c_neT {l m : List Int} : cmpOp .ne (.tup (l.map .int)) (.tup (m.map .int)) = some (!decide (l = m)) := by
  show (if eqOk _ _ then some (!eqD _ _) else none) = _
  rw [eqOk_sm sm_ints sm_ints, eqD, eqDs_ints]; rfl
theorem memD_ints {x : Int} : ∀ {l : List Int}, memD (.int x) (l.map .int) = l.contains x
  | [] => rfl
  | y :: l => by
    have ih := memD_ints (x := x) (l := l)
    unfold memD at ih ⊢
    rw [List.map_cons, List.any_cons, ih, List.contains_cons]
    show (y == x || _) = _
    rw [show (y == x) = (x == y) from Bool.beq_comm]
@[simp] theorem c_mem {x : Int} {l : List Int} : cmpOp .mem (.int x) (.tup (l.map .int)) = some (l.contains x) := by
  show (if eqOk _ _ then some (memD _ _) else none) = _
  rw [eqOk_sm (e := .tup [.int x]) sm_ints (sm_ints (l := [x])), memD_ints]; rfl
@[simp] theorem c_nomem {x : Int} {l : List Int} : cmpOp .nomem (.int x) (.tup (l.map .int)) = some (!l.contains x) := by
  show (if eqOk _ _ then some (!memD _ _) else none) = _
  rw [eqOk_sm (e := .tup [.int x]) sm_ints (sm_ints (l := [x])), memD_ints]; rfl
@[simp] theorem sub_t0 {x : D} {xs : List D} : subOp (.tup (x :: xs)) (.int 0) = some x := by
  show (ixN (xs.length + 1) 0).bind _ = _
  unfold ixN
  rw [if_pos (by omega), if_pos (by omega)]
  rfl
@[simp] theorem filter_tt {α : Type} {l : List α} : (l.filter fun _ => true) = l := List.filter_eq_self.mpr fun _ _ => rfl
@[simp] theorem all_tt {α : Type} {l : List α} : (l.all fun _ => true) = true := by
  rw [List.all_eq_true]; exact fun _ _ => rfl
@[simp] theorem any_ff {α : Type} {l : List α} : (l.any fun _ => false) = false := by
  rw [List.any_eq_false]; exact fun _ _ => by simp
@[simp] theorem sub_t1 {x y : D} {xs : List D} : subOp (.tup (x :: y :: xs)) (.int 1) = some y := by
  show (ixN (xs.length + 1 + 1) 1).bind _ = _
  unfold ixN
  rw [if_pos (by omega), if_pos (by omega)]
  rfl
theorem ixN_nat {n k : Nat} (h : k < n) : ixN n (k : Int) = some k := by
  unfold ixN
  rw [if_pos (by omega), if_pos (by omega), Int.toNat_natCast]
theorem sub_t {xs : List D} {k : Nat} {d : D} (h : xs[k]? = some d) : subOp (.tup xs) (.int (k : Int)) = some d := by
  show (ixN xs.length k).bind _ = _
  rw [ixN_nat (List.getElem?_eq_some_iff.mp h).1]; exact h
theorem sub_l {xs : List D} {k : Nat} {d : D} (h : xs[k]? = some d) : subOp (.lst xs) (.int (k : Int)) = some d := by
  show (ixN xs.length k).bind _ = _
  rw [ixN_nat (List.getElem?_eq_some_iff.mp h).1]; exact h
theorem sumL_lots : ∀ {L : List (List Int)} {acc : List Int}, acc.length + L.flatten.length ≤ LIM → sumL (acc.map .int) (L.map fun l => .lst (l.map .int)) = some ((acc ++ L.flatten).map .int)
  | [], acc, _ => by simp [sumL]
  | l :: L, acc, h => by
    rw [List.flatten_cons, List.length_append] at h
    rw [List.map_cons, sumL, List.length_map, List.length_map, if_pos (by omega), ← List.map_append, sumL_lots (by rw [List.length_append]; omega), List.flatten_cons, List.append_assoc]
theorem bi_sum2 {L : List (List Int)} (hL : L ≠ []) (h : L.flatten.length ≤ LIM) : biOp .sum2 [.lst (L.map fun l => .lst (l.map .int)), .lst []] = some (.own (L.flatten.map .int)) := by
  cases L with
  | nil => exact (hL rfl).elim
  | cons l L =>
    have := sumL_lots (L := l :: L) (acc := []) (by simpa using h)
    exact congrArg (Option.map W.own) this
theorem nodupI_of : ∀ {l : List Int}, l.Nodup → nodupI l = true
  | [], _ => rfl
  | x :: l, h => by
    obtain ⟨h1, h2⟩ := List.nodup_cons.mp h
    rw [nodupI, nodupI_of h2]
    simp [h1]
theorem bi_lenset {l : List Int} (h : l.Nodup) (hl : l.length ≤ 4000) : biOp .lenset [.lst (l.map .int)] = some (.val (.int l.length)) := by
  show (getsI _).bind _ = _
  rw [getsI_ints]
  show (if nodupI l && decide (l.length ≤ 4000) then _ else _) = _
  rw [nodupI_of h, decide_eq_true hl]; rfl
end ML
namespace ML
open MP
theorem enumD_map {α : Type} {f : α → D} : ∀ {l : List α} {k : Nat}, enumD k (l.map f) = (l.zipIdx k).map fun p => .tup [.int (p.2 : Int), f p.1]
  | [], _ => rfl
  | x :: l, k => by
    rw [List.map_cons, enumD, enumD_map, List.zipIdx_cons, List.map_cons]
@[simp] theorem it_enumT {α : Type} {f : α → D} {l : List α} : itOp .enum [.tup (l.map f)] = some (l.zipIdx.map fun p => .tup [.int (p.2 : Int), f p.1]) := by
  rw [← enumD_map]; rfl
@[simp] theorem it_enumL {α : Type} {f : α → D} {l : List α} : itOp .enum [.lst (l.map f)] = some (l.zipIdx.map fun p => .tup [.int (p.2 : Int), f p.1]) := by
  rw [← enumD_map]; rfl
theorem zipIdx_at {α : Type} {l : List α} {p : α × Nat} (h : p ∈ l.zipIdx) : l[p.2]? = some p.1 := by
  obtain ⟨x, i⟩ := p
  have := List.mem_zipIdx_iff_getElem?.mp h
  simpa using this
/-- the end of a loop's turn -/
def frK (N : Env → Prop) (Q : Fl → Env → Prop) (u : Env → Env) : Fl → Env → Prop
  | .next, r => N r
  | .brk, r => Q .next (u r)
  | .ret w, r => Q (.ret w) (u r)
@[simp] theorem frK_next {N : Env → Prop} {Q : Fl → Env → Prop} {u : Env → Env} {r : Env} : frK N Q u .next r = N r := rfl
@[simp] theorem frK_brk {N : Env → Prop} {Q : Fl → Env → Prop} {u : Env → Env} {r : Env} : frK N Q u .brk r = Q .next (u r) := rfl
@[simp] theorem frK_ret {N : Env → Prop} {Q : Fl → Env → Prop} {u : Env → Env} {w : W} {r : Env} : frK N Q u (.ret w) r = Q (.ret w) (u r) := rfl
def frS (C : CallF) (t : Tg) (b : S) (d : D) (r2 : Env) : R Fl := match asg t d r2 with
  | some r3 => ex C b r3
  | none => .no
theorem ex_for {C : CallF} {t : Tg} {k : Ik} {es : E} {b : S} {r : Env} : ex C (.for_ t k es b) r = (evs C es r).bind fun ws r1 => match (views r1 ws).bind (itOp k) with
    | some ds => (forL (frS C t b) ds (locks r1 ws)).unlock r1 ws
    | none => .no := by
  rw [ex]
  rfl
/-- a for by its invariant: what holds ahead of turn i -/
theorem Ok_for {C : CallF} {t : Tg} {k : Ik} {es : E} {b : S} {r : Env} {Q : Fl → Env → Prop} {q : Kt Q}
    (h : Ok (evs C es r) (fun ws r1 => ∃ its, (views r1 ws).bind (itOp k) = some its ∧ ∃ I : Nat → Env → Prop, I 0 (locks r1 ws) ∧
      (∀ i d rc, its[i]? = some d → I i rc → ∃ r3, asg t d rc = some r3 ∧ Ok (ex C b r3) (frK (I (i + 1)) Q fun r' => unlocks r1 r' ws) ()) ∧ ∀ rc, I its.length rc → Q .next (unlocks r1 rc ws)) ()) : Ok (ex C (.for_ t k es b) r) Q q := by
  obtain ⟨ws, r1, e, its, h1, I, h2, h3, h4⟩ := h.use
  rw [ex_for, e, R.bind_ok, h1]
  dsimp only
  have key : ∀ (m i : Nat) (rc : Env), its.length - i = m → i ≤ its.length → I i rc → ∃ f r', forL (frS C t b) (its.drop i) rc = .ok f r' ∧ frK (fun r => Q .next (unlocks r1 r ws)) Q (fun r' => unlocks r1 r' ws) f r' ∧ f ≠ .brk := fun m => by
    induction m with
    | zero =>
      intro i rc hm hi hI
      have : i = its.length := by omega
      subst this
      rw [List.drop_length, forL]
      exact ⟨_, _, rfl, h4 rc hI, fun z => nomatch z⟩
    | succ m ih =>
      intro i rc hm hi hI
      have hlt : i < its.length := by omega
      obtain ⟨r3, g1, g2⟩ := h3 i its[i] rc (List.getElem?_eq_getElem hlt) hI
      obtain ⟨f, r', g3, g4⟩ := g2.use
      rw [List.drop_eq_getElem_cons hlt, forL]
      unfold frS
      rw [g1]
      dsimp only
      rw [g3, R.bind_ok]
      cases f with
      | next => exact ih (i + 1) r' (by omega) hlt g4
      | brk => exact ⟨_, _, rfl, g4, fun z => nomatch z⟩
      | ret w => exact ⟨_, _, rfl, g4, fun z => nomatch z⟩
  obtain ⟨f, r', g1, g2, g3⟩ := key its.length 0 _ (Nat.sub_zero _) (Nat.zero_le _) h2
  rw [List.drop_zero] at g1
  rw [g1]
  cases f with
  | next => exact g2
  | brk => exact (g3 rfl).elim
  | ret w => exact g2
/-- a while by its invariant and measure -/
theorem Ok_wh {C : CallF} {c : E} {b : S} {r : Env} {Q : Fl → Env → Prop} {q : Kt Q} (I : Nat → Env → Prop) {m : Nat} (hm : m < WN) (h0 : I m r)
    (h : ∀ m r, I m r → Ok (ev C c r) (fun x r1 => Ok (asB x r1) (fun k r2 => (k = true → Ok (ex C b r2) (frK (fun r' => ∃ m', m' < m ∧ I m' r') Q fun r' => r') ()) ∧ (k = false → Q .next r2)) ()) ()) : Ok (ex C (.wh c b) r) Q q := by
  have key : ∀ (n m : Nat) (r : Env), m < n → I m r → ∃ f r', whL (test C c) (ex C b) n r = .ok f r' ∧ frK (fun r => Q .next r) Q (fun r' => r') f r' ∧ f ≠ .brk := fun n => by
    induction n with
    | zero => intro m r h; omega
    | succ n ih =>
      intro m r hlt hI
      obtain ⟨x, r1, g1, g2⟩ := (h m r hI).use
      obtain ⟨k, r2, g3, g4, g5⟩ := g2.use
      rw [whL]
      unfold test
      rw [g1, R.bind_ok, g3, R.bind_ok]
      cases k with
      | false => exact ⟨_, _, rfl, g5 rfl, fun z => nomatch z⟩
      | true =>
        obtain ⟨f, r3, k1, k2⟩ := (g4 rfl).use
        dsimp only
        rw [k1, R.bind_ok]
        cases f with
        | next =>
          obtain ⟨m', hm', hI'⟩ := k2
          exact ih m' r3 (by omega) hI'
        | brk => exact ⟨_, _, rfl, k2, fun z => nomatch z⟩
        | ret w => exact ⟨_, _, rfl, k2, fun z => nomatch z⟩
  obtain ⟨f, r', g1, g2, g3⟩ := key WN m r hm h0
  rw [ex, g1]
  cases f with
  | next => exact g2
  | brk => exact (g3 rfl).elim
  | ret w => exact g2
/-- a comprehension whose turns change the names -/
theorem Ok_lci {C : CallF} {t : Tg} {k : Ik} {es c x : E} {own : List Nat} {r : Env} {Q : W → Env → Prop} {q : Kt Q}
    (h : Ok (evs C es r) (fun ws r1 => ∃ its, (views r1 ws).bind (itOp k) = some its ∧ ∃ I : Nat → List D → Env → Prop, I 0 [] (wipes (locks r1 ws) own) ∧
      (∀ i d out rc, its[i]? = some d → I i out rc → Ok (stepC' C t c x own d rc) (fun o r' => I (i + 1) (out ++ o.toList) r') ()) ∧
      ∀ out rc, I its.length out rc → Q (.own out) (unlocks r1 (backs (locks r1 ws) rc own) ws)) ()) : Ok (ev C (.lc t k es c x own) r) Q q := by
  obtain ⟨ws, r1, e, its, h1, I, h2, h3, h4⟩ := h.use
  rw [ev_lc', e, R.bind_ok, h1]
  dsimp only
  have key : ∀ (m i : Nat) (out : List D) (rc : Env), its.length - i = m → i ≤ its.length → I i out rc → ∃ out' r', compL (stepC' C t c x own) (its.drop i) out rc = .ok out' r' ∧ I its.length out' r' := fun m => by
    induction m with
    | zero =>
      intro i out rc hm hi hI
      have : i = its.length := by omega
      subst this
      rw [List.drop_length, compL]
      exact ⟨_, _, rfl, hI⟩
    | succ m ih =>
      intro i out rc hm hi hI
      have hlt : i < its.length := by omega
      obtain ⟨o, r', g1, g2⟩ := (h3 i its[i] out rc (List.getElem?_eq_getElem hlt) hI).use
      rw [List.drop_eq_getElem_cons hlt, compL, g1, R.bind_ok]
      cases o with
      | some d => exact ih (i + 1) _ r' (by omega) hlt g2
      | none => exact ih (i + 1) _ r' (by omega) hlt (by simpa using g2)
  obtain ⟨out, r', g1, g2⟩ := key its.length 0 [] _ (Nat.sub_zero _) (Nat.zero_le _) h2
  rw [List.drop_zero] at g1
  rw [g1, R.bind_ok]
  simpa [R.unlock] using h4 out r' g2
end ML
namespace ML
open MP
section
variable {a b c d e x : D} {xs : List D}
@[simp] theorem sub_l0 : subOp (.lst (x :: xs)) (.int 0) = some x := sub_l (k := 0) rfl
@[simp] theorem sub_l1 : subOp (.lst (a :: x :: xs)) (.int 1) = some x := sub_l (k := 1) rfl
@[simp] theorem sub_l2 : subOp (.lst (a :: b :: x :: xs)) (.int 2) = some x := sub_l (k := 2) rfl
@[simp] theorem sub_l3 : subOp (.lst (a :: b :: c :: x :: xs)) (.int 3) = some x := sub_l (k := 3) rfl
@[simp] theorem sub_l4 : subOp (.lst (a :: b :: c :: d :: x :: xs)) (.int 4) = some x := sub_l (k := 4) rfl
@[simp] theorem sub_t2 : subOp (.tup (a :: b :: x :: xs)) (.int 2) = some x := sub_t (k := 2) rfl
@[simp] theorem sub_t3 : subOp (.tup (a :: b :: c :: x :: xs)) (.int 3) = some x := sub_t (k := 3) rfl
@[simp] theorem ix50 : ixN 5 0 = some 0 := by decide
@[simp] theorem ix51 : ixN 5 1 = some 1 := by decide
@[simp] theorem ix52 : ixN 5 2 = some 2 := by decide
@[simp] theorem ix53 : ixN 5 3 = some 3 := by decide
@[simp] theorem ix54 : ixN 5 4 = some 4 := by decide
end
@[simp] theorem Ok_ofOif {α : Type} {Q : α → Env → Prop} {t : Kt Q} {r : Env} {p : Prop} [Decidable p] {o : Option α} : Ok (R.ofO r (if p then o else none)) Q t = (p ∧ Ok (R.ofO r o) Q t) := by
  by_cases h : p
  · rw [if_pos h]; exact propext ⟨fun z => ⟨h, z⟩, fun z => z.2⟩
  · rw [if_neg h]; exact propext ⟨fun z => z.elim, fun z => h z.1⟩
def fstOf : S → S
  | .seq a _ => a
  | s => s
def restOf : S → S
  | .seq _ b => b
  | s => s
theorem mod_in {i k : Int} (h : 0 < k) : 0 ≤ i % k ∧ i % k < k := ⟨Int.emod_nonneg _ (by omega), Int.emod_lt_of_pos _ h⟩
end ML
namespace ML
open MP
theorem p18 : binOp .pow (.int 10) (.int 18) = some (.val (.int 1000000000000000000)) := by
  show (if (0 : Int) ≤ 18 ∧ (18 : Int) ≤ 1000 ∧ (10 : Int).natAbs < 18446744073709551616 then some (W.val (D.int (10 ^ (18 : Int).toNat))) else none) = _
  rw [if_pos (by decide)]
  rfl
end ML
namespace ML
open MP
section
variable {Q : Unit → Env → Prop} {t : Kt Q} {r : Env}
@[simp] theorem Ok_pnil : Ok (putWs .nil [] r) Q t = Q () r := by rw [putWs]; rfl
@[simp] theorem Ok_pcons {i : Nat} {ts : Tg} {w : W} {ws : List W} : Ok (putWs (.cons (.nm i) ts) (w :: ws) r) Q t = ((slotsOf ws).contains i = false ∧ Ok (putW r i w) (fun _ r1 => Ok (putWs ts ws r1) Q ()) ()) := by
  rw [putWs]
  by_cases h : (slotsOf ws).contains i = true
  · rw [if_pos h]
    exact propext ⟨fun z => z.elim, fun z => by rw [h] at z; cases z.1⟩
  · rw [if_neg h]
    refine propext ⟨fun z => ⟨by simpa using h, ?_⟩, fun z => ?_⟩
    · exact (Ok_bind _ _).mp z
    · exact (Ok_bind _ _).mpr z.2
end
theorem erase_map {α β : Type} {f : α → β} : ∀ {l : List α} {j : Nat}, (l.map f).eraseIdx j = (l.eraseIdx j).map f
  | [], _ => rfl
  | x :: l, 0 => rfl
  | x :: l, j + 1 => by
    rw [List.map_cons, List.eraseIdx_cons_succ, List.eraseIdx_cons_succ, List.map_cons, erase_map]
end ML

-- part Ty0
set_option maxHeartbeats 1000000
/-! What is known of the slots; what an MP text comes to, told by a plain term. -/
namespace MT
open MP
/-- what is known of a slot -/
inductive Sp where
  | any
  | val (d : D)
  | acc (m : Md) (xs : List D)
def Sp.Is : Sp → Sl → Prop
  | .any, s => held s = false
  | .val d, s => s = .val d
  | .acc m xs, s => s = .acc m xs
def Fit : List Sp → Env → Prop
  | [], [] => True
  | p :: ps, s :: r => p.Is s ∧ Fit ps r
  | _, _ => False
def gt : List Sp → Nat → Sp
  | [], _ => .any
  | p :: _, 0 => p
  | _ :: ps, i + 1 => gt ps i
def st : List Sp → Nat → Sp → List Sp
  | [], _, _ => []
  | _ :: ps, 0, p => p :: ps
  | q :: ps, i + 1, p => q :: st ps i p
/-- may be stored to -/
def unh : Sp → Bool
  | .acc .fix _ => false
  | .acc .lck _ => false
  | _ => true
theorem Fit.at : ∀ {ps : List Sp} {r : Env} {i : Nat}, Fit ps r → (gt ps i).Is (gets r i)
  | [], [], _, _ => rfl
  | [], _ :: _, _, h => h.elim
  | _ :: _, [], _, h => h.elim
  | _ :: _, _ :: _, 0, h => h.1
  | _ :: ps, _ :: r, i + 1, h => Fit.at (ps := ps) (r := r) (i := i) h.2
theorem Fit.val {ps : List Sp} {r : Env} {i : Nat} {d : D} (h : Fit ps r) (e : gt ps i = .val d) : gets r i = .val d := by
  have := h.at (i := i)
  rw [e] at this
  exact this
theorem Fit.acc {ps : List Sp} {r : Env} {i : Nat} {m : Md} {xs : List D} (h : Fit ps r) (e : gt ps i = .acc m xs) : gets r i = .acc m xs := by
  have := h.at (i := i)
  rw [e] at this
  exact this
theorem Fit.set : ∀ {ps : List Sp} {r : Env} {i : Nat} {p : Sp} {s : Sl}, Fit ps r → p.Is s → Fit (st ps i p) (sets r i s)
  | [], [], _, _, _, _, _ => trivial
  | [], _ :: _, _, _, _, h, _ => h.elim
  | _ :: _, [], _, _, _, h, _ => h.elim
  | _ :: _, _ :: _, 0, _, _, h, hp => ⟨hp, h.2⟩
  | _ :: _, _ :: _, _ + 1, _, _, h, hp => ⟨h.1, Fit.set h.2 hp⟩
theorem unh_held {p : Sp} {s : Sl} (h : p.Is s) (u : unh p = true) : held s = false := by
  cases p with
  | any => exact h
  | val d => cases (show s = .val d from h); rfl
  | acc m xs =>
    cases (show s = .acc m xs from h)
    cases m with
    | free => rfl
    | fix => cases u
    | lck => cases u
theorem put_eq : ∀ {r : Env} {i : Nat} {s : Sl}, i < r.length → held (gets r i) = false → put r i s = some (sets r i s)
  | [], _, _, h, _ => absurd h (Nat.not_lt_zero _)
  | x :: r, 0, s, _, h => by
    rw [put]
    exact if_neg (by rw [show held x = false from h]; exact Bool.false_ne_true)
  | x :: r, i + 1, s, hl, h => by
    rw [put, put_eq (r := r) (i := i) (Nat.lt_of_succ_lt_succ hl) h]
    rfl
theorem Fit.len : ∀ {ps : List Sp} {r : Env}, Fit ps r → ps.length = r.length
  | [], [], _ => rfl
  | [], _ :: _, h => h.elim
  | _ :: _, [], h => h.elim
  | _ :: _, _ :: _, h => congrArg (· + 1) (Fit.len h.2)
theorem Fit.put {ps : List Sp} {r : Env} {i : Nat} {p : Sp} {s : Sl} (h : Fit ps r) (hp : p.Is s) (hi : i < ps.length) (hu : unh (gt ps i) = true) : put r i s = some (sets r i s) ∧ Fit (st ps i p) (sets r i s) :=
  ⟨put_eq (by rw [← h.len]; exact hi) (unh_held h.at hu), h.set hp⟩
/-- less is known -/
def Le : List Sp → List Sp → Prop
  | [], [] => True
  | p :: ps, q :: qs => (p = q ∨ (q = .any ∧ unh p = true)) ∧ Le ps qs
  | _, _ => False
theorem Fit.le : ∀ {ps qs : List Sp} {r : Env}, Fit ps r → Le ps qs → Fit qs r
  | [], [], [], _, _ => trivial
  | [], _ :: _, _, _, h => h.elim
  | _ :: _, [], _, _, h => h.elim
  | [], [], _ :: _, h, _ => h.elim
  | _ :: _, _ :: _, [], h, _ => h.elim
  | p :: ps, q :: qs, s :: r, h, l => by
    refine ⟨?_, h.2.le l.2⟩
    rcases l.1 with e | ⟨e, u⟩
    · rw [← e]; exact h.1
    · rw [e]; exact unh_held h.1 u
theorem Le.refl : ∀ {ps : List Sp}, Le ps ps
  | [] => trivial
  | _ :: _ => ⟨.inl rfl, Le.refl⟩
theorem Le.same {p : Sp} {ps qs : List Sp} (h : Le ps qs) : Le (p :: ps) (p :: qs) := ⟨.inl rfl, h⟩
theorem Le.drop {p : Sp} {ps qs : List Sp} (u : unh p = true) (h : Le ps qs) : Le (p :: ps) (.any :: qs) := ⟨.inr ⟨rfl, u⟩, h⟩
theorem Le.nil : Le [] [] := trivial

/-- what comes of an expression -/
inductive Wk where
  | d (x : D)
  | o (xs : List D)
  | v (i : Nat) (xs : List D)
def Wk.Is : Wk → W → Prop
  | .d x, w => w = .val x
  | .o xs, w => w = .own xs
  | .v i _, w => w = .slot i
def LS : Sp → List D → Prop
  | .acc _ ys, xs => ys = xs
  | _, _ => False
/-- how it is seen -/
def See (ps : List Sp) : Wk → D → Prop
  | .d x, d => x = d
  | .o xs, d => D.lst xs = d
  | .v i xs, d => D.lst xs = d ∧ LS (gt ps i) xs
theorem See.view {ps : List Sp} {k : Wk} {d : D} {r : Env} {w : W} (s : See ps k d) (f : Fit ps r) (h : k.Is w) : view r w = some d := by
  cases k with
  | d x => cases (show w = .val x from h); exact congrArg some s
  | o xs => cases (show w = .own xs from h); exact congrArg some s
  | v i xs =>
    cases (show w = .slot i from h)
    obtain ⟨s1, s2⟩ := s
    cases e : gt ps i with
    | any => rw [e] at s2; exact s2.elim
    | val d => rw [e] at s2; exact s2.elim
    | acc m ys =>
      rw [e] at s2
      cases (show ys = xs from s2)
      have := f.acc e
      unfold MP.view
      dsimp only
      rw [this]
      exact congrArg some s1
def Sees (ps : List Sp) : List Wk → List D → Prop
  | [], [] => True
  | k :: ks, d :: ds => See ps k d ∧ Sees ps ks ds
  | _, _ => False
def Iss : List Wk → List W → Prop
  | [], [] => True
  | k :: ks, w :: ws => k.Is w ∧ Iss ks ws
  | _, _ => False
theorem Sees.view {ps : List Sp} {r : Env} (f : Fit ps r) : ∀ {ks : List Wk} {ds : List D} {ws : List W}, Sees ps ks ds → Iss ks ws → views r ws = some ds
  | [], [], [], _, _ => rfl
  | [], [], _ :: _, _, h => h.elim
  | [], _ :: _, _, s, _ => s.elim
  | _ :: _, [], _, s, _ => s.elim
  | _ :: _, _ :: _, [], _, h => h.elim
  | k :: ks, d :: ds, w :: ws, s, h => by
    rw [views, s.1.view f h.1, Sees.view f s.2 h.2]
section
variable (C : CallF)
def EX (ps : List Sp) (e : E) {τ : Type} (x : Option τ) (k : τ → Wk) (qs : τ → List Sp) : Prop := ∀ v, x = some v → ∀ r, Fit ps r → ∃ w r', ev C e r = .ok w r' ∧ (k v).Is w ∧ Fit (qs v) r'
def EXs (ps : List Sp) (e : E) {τ : Type} (x : Option τ) (k : τ → List Wk) (qs : τ → List Sp) : Prop := ∀ v, x = some v → ∀ r, Fit ps r → ∃ ws r', evs C e r = .ok ws r' ∧ Iss (k v) ws ∧ Fit (qs v) r'
def EV (ps : List Sp) (e : E) (k : Wk) : Prop := ∀ r, Fit ps r → ∃ w r', ev C e r = .ok w r' ∧ k.Is w ∧ Fit ps r'
def EVs (ps : List Sp) (e : E) (k : List Wk) : Prop := ∀ r, Fit ps r → ∃ ws r', evs C e r = .ok ws r' ∧ Iss k ws ∧ Fit ps r'
end
/-- a result by an operator -/
def OpF (o : Option W) : Wk → Prop
  | .d x => o = some (.val x)
  | .o xs => o = some (.own xs)
  | .v _ _ => False
theorem OpF.use {o : Option W} {k : Wk} (h : OpF o k) : ∃ w, o = some w ∧ k.Is w := by
  cases k with
  | d x => exact ⟨_, h, rfl⟩
  | o xs => exact ⟨_, h, rfl⟩
  | v _ _ => exact h.elim
section
variable {C : CallF} {ps : List Sp} {a b c e es i : E} {k ka kb : Wk} {da db : D}
theorem EV.up {τ : Type} {k : τ → Wk} (v : τ) (h : EV C ps e (k v)) : EX C ps e (some v) k fun _ => ps := fun v' e' r f => by
  cases e'
  exact h r f
theorem EVs.up {τ : Type} {k : τ → List Wk} (v : τ) (h : EVs C ps e (k v)) : EXs C ps e (some v) k fun _ => ps := fun v' e' r f => by
  cases e'
  exact h r f
theorem ev_lit {d : D} : EV C ps (.lit d) (.d d) := fun r f => ⟨_, r, by rw [ev], rfl, f⟩
theorem ev_var {i : Nat} {d : D} (h : gt ps i = .val d) : EV C ps (.var i) (.d d) := fun r f => ⟨_, r, by rw [ev, f.val h], rfl, f⟩
theorem ev_varL {i : Nat} {m : Md} {xs : List D} (h : gt ps i = .acc m xs) : EV C ps (.var i) (.v i xs) := fun r f => ⟨_, r, by rw [ev, f.acc h], rfl, f⟩
theorem ev_tk {d : D} (h : EV C ps e (.d d)) : EV C ps (.tk e) (.d d) := fun r f => by
  obtain ⟨w, r', g1, g2, g3⟩ := h r f
  cases g2
  exact ⟨_, r', by rw [ev, g1, R.bind_ok]; rfl, rfl, g3⟩
theorem ev_tko {xs : List D} (h : EV C ps e (.o xs)) : EV C ps (.tk e) (.d (.lst xs)) := fun r f => by
  obtain ⟨w, r', g1, g2, g3⟩ := h r f
  cases g2
  exact ⟨_, r', by rw [ev, g1, R.bind_ok]; rfl, rfl, g3⟩
theorem ev_bin {op : Op} (ha : EV C ps a ka) (hb : EV C ps b kb) (sa : See ps ka da) (sb : See ps kb db) (h : OpF (binOp op da db) k) : EV C ps (.bin op a b) k := fun r f => by
  obtain ⟨w1, r1, g1, g2, g3⟩ := ha r f
  obtain ⟨w2, r2, g4, g5, g6⟩ := hb r1 g3
  obtain ⟨w, g7, g8⟩ := h.use
  exact ⟨w, r2, by rw [ev, g1, R.bind_ok, g4, R.bind_ok]; unfold vw; rw [sa.view g6 g2, sb.view g6 g5]; dsimp only; rw [g7]; rfl, g8, g6⟩
theorem ev_cmp {op : Cm} {t : Bool} (ha : EV C ps a ka) (hb : EV C ps b kb) (sa : See ps ka da) (sb : See ps kb db) (h : cmpOp op da db = some t) : EV C ps (.cmp op a b) (.d (.bl t)) := fun r f => by
  obtain ⟨w1, r1, g1, g2, g3⟩ := ha r f
  obtain ⟨w2, r2, g4, g5, g6⟩ := hb r1 g3
  exact ⟨_, r2, by rw [ev, g1, R.bind_ok, g4, R.bind_ok]; unfold vw; rw [sa.view g6 g2, sb.view g6 g5]; dsimp only; rw [h]; rfl, rfl, g6⟩
theorem ev_neg {n : Int} (ha : EV C ps a (.d (.int n))) : EV C ps (.neg a) (.d (.int (-n))) := fun r f => by
  obtain ⟨w1, r1, g1, g2, g3⟩ := ha r f
  cases g2
  exact ⟨_, r1, by rw [ev, g1, R.bind_ok], rfl, g3⟩
theorem ev_not {t : Bool} (ha : EV C ps a (.d (.bl t))) : EV C ps (.not a) (.d (.bl (!t))) := fun r f => by
  obtain ⟨w1, r1, g1, g2, g3⟩ := ha r f
  cases g2
  exact ⟨_, r1, by rw [ev, g1, R.bind_ok]; rfl, rfl, g3⟩
theorem ev_and {t u : Bool} (ha : EV C ps a (.d (.bl t))) (hb : EV C ps b (.d (.bl u))) : EV C ps (.and a b) (.d (.bl (t && u))) := fun r f => by
  obtain ⟨w1, r1, g1, g2, g3⟩ := ha r f
  cases g2
  rw [ev, g1, R.bind_ok]
  cases t with
  | true => exact hb r1 g3
  | false => exact ⟨_, r1, rfl, rfl, g3⟩
theorem ev_or {t u : Bool} (ha : EV C ps a (.d (.bl t))) (hb : EV C ps b (.d (.bl u))) : EV C ps (.or a b) (.d (.bl (t || u))) := fun r f => by
  obtain ⟨w1, r1, g1, g2, g3⟩ := ha r f
  cases g2
  rw [ev, g1, R.bind_ok]
  cases t with
  | true => exact ⟨_, r1, rfl, rfl, g3⟩
  | false => exact hb r1 g3
/-- both of a kind -/
theorem ev_ite {τ : Type} {t : Bool} {k : τ → Wk} {x y : τ} (hc : EV C ps c (.d (.bl t))) (ha : EV C ps a (k x)) (hb : EV C ps b (k y)) : EV C ps (.ite c a b) (k (bif t then x else y)) := fun r f => by
  obtain ⟨w1, r1, g1, g2, g3⟩ := hc r f
  cases g2
  rw [ev, g1, R.bind_ok]
  cases t with
  | true => exact ha r1 g3
  | false => exact hb r1 g3
/-! lists of expressions -/
theorem evs_nil : EVs C ps .nil [] := fun r f => ⟨[], r, by rw [evs], trivial, f⟩
theorem evs_cons {ks : List Wk} (ha : EV C ps e k) (hb : EVs C ps es ks) : EVs C ps (.cons e es) (k :: ks) := fun r f => by
  obtain ⟨w1, r1, g1, g2, g3⟩ := ha r f
  obtain ⟨ws, r2, g4, g5, g6⟩ := hb r1 g3
  exact ⟨w1 :: ws, r2, by rw [evs, g1, R.bind_ok, g4, R.bind_ok], ⟨g2, g5⟩, g6⟩
def wkD (ds : List D) : List Wk := ds.map .d
theorem Iss.ds : ∀ {ds : List D} {ws : List W}, Iss (ds.map .d) ws → ws = ds.map .val
  | [], [], _ => rfl
  | [], _ :: _, h => h.elim
  | _ :: _, [], h => h.elim
  | d :: ds, w :: ws, h => by
    rw [List.map_cons, ← Iss.ds h.2, show w = .val d from h.1]
theorem vals_ds : ∀ {ds : List D}, vals (ds.map .val) = some ds
  | [] => rfl
  | d :: ds => by rw [List.map_cons, vals, vals_ds]; rfl
/-- all values -/
inductive AllD : List Wk → List D → Prop
  | nil : AllD [] []
  | cons {x : D} {ks : List Wk} {ds : List D} : AllD ks ds → AllD (.d x :: ks) (x :: ds)
theorem AllD.is {ks : List Wk} {ds : List D} (h : AllD ks ds) : ks = ds.map .d := by
  induction h with
  | nil => rfl
  | cons _ ih => rw [ih]; rfl
theorem ev_tup {ks : List Wk} {ds : List D} (h : EVs C ps es ks) (hd : AllD ks ds) : EV C ps (.tup es) (.d (.tup ds)) := fun r f => by
  obtain ⟨ws, r1, g1, g2, g3⟩ := h r f
  rw [hd.is] at g2
  exact ⟨_, r1, by rw [ev, g1, R.bind_ok, g2.ds, vals_ds]; rfl, rfl, g3⟩
theorem ev_list {ks : List Wk} {ds : List D} (h : EVs C ps es ks) (hd : AllD ks ds) : EV C ps (.list es) (.o ds) := fun r f => by
  obtain ⟨ws, r1, g1, g2, g3⟩ := h r f
  rw [hd.is] at g2
  exact ⟨_, r1, by rw [ev, g1, R.bind_ok, g2.ds, vals_ds]; rfl, rfl, g3⟩
theorem ev_sub {d : D} (ha : EV C ps a ka) (hb : EV C ps b kb) (sa : See ps ka da) (sb : See ps kb db) (h : subOp da db = some d) : EV C ps (.sub a b) (.d d) := fun r f => by
  obtain ⟨w1, r1, g1, g2, g3⟩ := ha r f
  obtain ⟨w2, r2, g4, g5, g6⟩ := hb r1 g3
  exact ⟨_, r2, by rw [ev, g1, R.bind_ok, g4, R.bind_ok]; unfold vw; rw [sa.view g6 g2, sb.view g6 g5]; dsimp only; rw [h]; rfl, rfl, g6⟩
theorem ev_bi {q : Bi} {ks : List Wk} {ds : List D} (h : EVs C ps es ks) (s : Sees ps ks ds) (g : OpF (biOp q ds) k) : EV C ps (.bi q es) k := fun r f => by
  obtain ⟨ws, r1, g1, g2, g3⟩ := h r f
  obtain ⟨w, g7, g8⟩ := g.use
  exact ⟨w, r1, by rw [ev, g1, R.bind_ok, s.view g3 g2]; dsimp only; rw [g7]; rfl, g8, g3⟩
theorem ev_meth {q : Me} {ks : List Wk} {ds : List D} (ha : EV C ps a ka) (h : EVs C ps es ks) (sa : See ps ka da) (s : Sees ps ks ds) (g : OpF (meOp q da ds) k) : EV C ps (.meth q a es) k := fun r f => by
  obtain ⟨w1, r1, g1, g2, g3⟩ := ha r f
  obtain ⟨ws, r2, g4, g5, g6⟩ := h r1 g3
  obtain ⟨w, g7, g8⟩ := g.use
  exact ⟨w, r2, by rw [ev, g1, R.bind_ok, g4, R.bind_ok]; unfold vw; rw [sa.view g6 g2]; dsimp only; rw [s.view g6 g5]; dsimp only; rw [g7]; rfl, g8, g6⟩
theorem ev_isi {q : Ty} {t : Bool} (ha : EV C ps a ka) (sa : See ps ka da) (g : isTy q da = some t) : EV C ps (.isi a q) (.d (.bl t)) := fun r f => by
  obtain ⟨w1, r1, g1, g2, g3⟩ := ha r f
  exact ⟨_, r1, by rw [ev, g1, R.bind_ok]; unfold vw; rw [sa.view g3 g2]; dsimp only; rw [g]; rfl, rfl, g3⟩
/-- a part of a slice -/
def PV (C : CallF) (ps : List Sp) (p : E) (n : Option Int) : Prop := (p = .nil ∧ n = none) ∨ (p ≠ .nil ∧ ∃ m, n = some m ∧ EV C ps p (.d (.int m)))
theorem pv_no : PV C ps .nil none := .inl ⟨rfl, rfl⟩
theorem pv_of {m : Int} (h : EV C ps e (.d (.int m))) (n : e ≠ .nil) : PV C ps e (some m) := .inr ⟨n, m, rfl, h⟩
theorem PV.run {p : E} {n : Option Int} (h : PV C ps p n) {r : Env} (f : Fit ps r) : ∃ r', R.part p (fun _ => ev C p r) r = .ok n r' ∧ Fit ps r' := by
  rcases h with ⟨rfl, rfl⟩ | ⟨hn, m, rfl, h⟩
  · exact ⟨r, rfl, f⟩
  · obtain ⟨w, r', g1, g2, g3⟩ := h r f
    cases g2
    refine ⟨r', ?_, g3⟩
    unfold R.part
    split
    · exact (hn rfl).elim
    · dsimp only
      rw [g1]
      rfl
theorem ev_cut {lo hi : E} {l h : Option Int} (ha : EV C ps a ka) (hl : PV C ps lo l) (hh : PV C ps hi h) (sa : See ps ka da) (g : OpF (cutOp l h da) k) : EV C ps (.cut a lo hi) k := fun r f => by
  obtain ⟨w1, r1, g1, g2, g3⟩ := ha r f
  obtain ⟨r2, g4, g5⟩ := hl.run g3
  obtain ⟨r3, g6, g7⟩ := hh.run g5
  obtain ⟨w, g8, g9⟩ := g.use
  exact ⟨w, r3, by rw [ev, g1, R.bind_ok, g4, R.bind_ok, g6, R.bind_ok]; unfold vw; rw [sa.view g7 g2]; dsimp only; rw [g8]; rfl, g9, g7⟩
end
end MT

-- part Ty1
set_option maxHeartbeats 1000000
namespace MT
open MP
/-! ### the walked, locked -/
def lock1S (ps : List Sp) (i : Nat) : List Sp := match gt ps i with
  | .acc _ xs => st ps i (.acc .lck xs)
  | _ => ps
def lockS : List Sp → List Nat → List Sp
  | ps, [] => ps
  | ps, i :: is => lockS (lock1S ps i) is
def unl1 (ps0 ps : List Sp) (i : Nat) : List Sp := match gt ps0 i, gt ps i with
  | .acc m _, .acc .lck xs => st ps i (.acc m xs)
  | _, _ => ps
def unlockS (ps0 ps : List Sp) : List Nat → List Sp
  | [] => ps
  | i :: is => unl1 ps0 (unlockS ps0 ps is) i
def isAcc : Sp → Bool
  | .acc _ _ => true
  | _ => false
def accs (ps : List Sp) : List Nat → Bool
  | [] => true
  | i :: is => isAcc (gt ps i) && accs ps is
theorem gt_st : ∀ {ps : List Sp} {i j : Nat} {p : Sp}, gt (st ps i p) j = gt ps j ∨ (j = i ∧ gt (st ps i p) j = p)
  | [], _, _, _ => .inl rfl
  | _ :: _, 0, 0, _ => .inr ⟨rfl, rfl⟩
  | _ :: _, 0, _ + 1, _ => .inl rfl
  | _ :: _, _ + 1, 0, _ => .inl rfl
  | q :: ps, i + 1, j + 1, p => by
    rcases gt_st (ps := ps) (i := i) (j := j) (p := p) with h | ⟨h, g⟩
    · exact .inl h
    · exact .inr ⟨congrArg (· + 1) h, g⟩
theorem accs_lock {ps : List Sp} {i : Nat} : ∀ {is : List Nat}, accs ps is = true → accs (lock1S ps i) is = true
  | [], _ => rfl
  | j :: is, h => by
    rw [accs, Bool.and_eq_true] at h
    rw [accs, accs_lock h.2, Bool.and_true]
    unfold lock1S
    cases e : gt ps i with
    | acc m xs =>
      dsimp only
      rcases gt_st (ps := ps) (i := i) (j := j) (p := .acc .lck xs) with g | ⟨_, g⟩
      · rw [g]; exact h.1
      · rw [g]; rfl
    | _ => exact h.1
theorem Fit.lock : ∀ {ws : List W} {ps : List Sp} {r : Env}, Fit ps r → accs ps (slotsOf ws) = true → Fit (lockS ps (slotsOf ws)) (locks r ws)
  | [], _, _, f, _ => f
  | .val d :: ws, ps, r, f, h => Fit.lock (ws := ws) f h
  | .own d :: ws, ps, r, f, h => Fit.lock (ws := ws) f h
  | .slot i :: ws, ps, r, f, h => by
    rw [slotsOf, accs, Bool.and_eq_true] at h
    show Fit (lockS (lock1S ps i) (slotsOf ws)) (locks (lock1 r (.slot i)) ws)
    refine Fit.lock (ws := ws) ?_ (accs_lock h.2)
    unfold lock1S lock1
    have h1 := h.1
    cases e : gt ps i with
    | any => rw [e] at h1; cases h1
    | val d => rw [e] at h1; cases h1
    | acc m xs =>
      dsimp only
      rw [f.acc e]
      exact f.set rfl
theorem Fit.unlock {ps0 : List Sp} {r0 : Env} (f0 : Fit ps0 r0) : ∀ {ws : List W} {ps : List Sp} {r : Env}, Fit ps r → accs ps0 (slotsOf ws) = true → Fit (unlockS ps0 ps (slotsOf ws)) (unlocks r0 r ws)
  | [], _, _, f, _ => f
  | .val d :: ws, ps, r, f, h => Fit.unlock f0 (ws := ws) f h
  | .own d :: ws, ps, r, f, h => Fit.unlock f0 (ws := ws) f h
  | .slot i :: ws, ps, r, f, h => by
    rw [slotsOf, accs, Bool.and_eq_true] at h
    have g := Fit.unlock f0 (ws := ws) f h.2
    show Fit (unl1 ps0 (unlockS ps0 ps (slotsOf ws)) i) (unlock1 r0 (unlocks r0 r ws) (.slot i))
    generalize unlockS ps0 ps (slotsOf ws) = qs at *
    generalize unlocks r0 r ws = r' at *
    unfold unl1 unlock1
    have h1 := h.1
    cases e : gt ps0 i with
    | any => rw [e] at h1; cases h1
    | val d => rw [e] at h1; cases h1
    | acc m xs =>
      dsimp only
      rw [f0.acc e]
      have a := g.at (i := i)
      cases e2 : gt qs i with
      | any =>
        rw [e2] at a
        have a' : held (gets r' i) = false := a
        dsimp only
        split
        · rename_i q; rw [q] at a'; cases a'
        · exact g
      | val d =>
        rw [e2] at a
        have a' : gets r' i = .val d := a
        rw [a']
        exact g
      | acc m' ys =>
        rw [e2] at a
        have a' : gets r' i = .acc m' ys := a
        rw [a']
        cases m' with
        | lck => exact g.set rfl
        | free => exact g
        | fix => exact g
def wipeS (ps : List Sp) : List Nat → List Sp
  | [] => ps
  | i :: is => st (wipeS ps is) i .any
def backS (ps0 ps : List Sp) : List Nat → List Sp
  | [] => ps
  | i :: is => st (backS ps0 ps is) i (gt ps0 i)
theorem Fit.wipe {ps : List Sp} {r : Env} (f : Fit ps r) : ∀ {is : List Nat}, Fit (wipeS ps is) (wipes r is)
  | [] => f
  | _ :: _ => (Fit.wipe f).set rfl
theorem Fit.back {ps0 ps : List Sp} {r0 r : Env} (f0 : Fit ps0 r0) (f : Fit ps r) : ∀ {is : List Nat}, Fit (backS ps0 ps is) (backs r0 r is)
  | [] => f
  | i :: _ => (Fit.back f0 f).set f0.at
/-! ### targets -/
mutual
def asgS : Tg → D → List Sp → Option (List Sp)
  | .nm i, d, ps => if Nat.blt i ps.length && unh (gt ps i) then some (st ps i (.val d)) else none
  | .tp ts, .tup ds, ps => asgsS ts ds ps
  | _, _, _ => none
def asgsS : Tg → List D → List Sp → Option (List Sp)
  | .nil, [], ps => some ps
  | .cons t ts, d :: ds, ps => match asgS t d ps with
    | some ps' => asgsS ts ds ps'
    | none => none
  | _, _, _ => none
end
mutual
theorem Fit.asg : ∀ {t : Tg} {d : D} {ps qs : List Sp} {r : Env}, Fit ps r → asgS t d ps = some qs → ∃ r', MP.asg t d r = some r' ∧ Fit qs r'
  | .nm i, d, ps, qs, r, f, h => by
    rw [asgS] at h
    split at h
    · rename_i c
      rw [Bool.and_eq_true] at c
      cases h
      obtain ⟨g1, g2⟩ := f.put (i := i) (p := .val d) (s := .val d) rfl (by have := c.1; exact Nat.le_of_ble_eq_true this) c.2
      exact ⟨_, by rw [MP.asg]; exact g1, g2⟩
    · cases h
  | .tp ts, .tup ds, ps, qs, r, f, h => by
    rw [asgS] at h
    obtain ⟨r', g1, g2⟩ := Fit.asgs f h
    exact ⟨r', by rw [MP.asg]; exact g1, g2⟩
  | .tp ts, .non, ps, qs, r, f, h => by simp [asgS] at h
  | .tp ts, .bl _, ps, qs, r, f, h => by simp [asgS] at h
  | .tp ts, .int _, ps, qs, r, f, h => by simp [asgS] at h
  | .tp ts, .str _, ps, qs, r, f, h => by simp [asgS] at h
  | .tp ts, .lst _, ps, qs, r, f, h => by simp [asgS] at h
  | .tp ts, .scr _, ps, qs, r, f, h => by simp [asgS] at h
  | .tp ts, .dct _, ps, qs, r, f, h => by simp [asgS] at h
  | .nil, d, ps, qs, r, f, h => by simp [asgS] at h
  | .cons _ _, d, ps, qs, r, f, h => by simp [asgS] at h
theorem Fit.asgs : ∀ {t : Tg} {ds : List D} {ps qs : List Sp} {r : Env}, Fit ps r → asgsS t ds ps = some qs → ∃ r', MP.asgs t ds r = some r' ∧ Fit qs r'
  | .nil, [], ps, qs, r, f, h => by
    rw [asgsS] at h
    cases h
    exact ⟨r, by rw [MP.asgs], f⟩
  | .nil, _ :: _, ps, qs, r, f, h => by simp [asgsS] at h
  | .cons t ts, [], ps, qs, r, f, h => by simp [asgsS] at h
  | .cons t ts, d :: ds, ps, qs, r, f, h => by
    rw [asgsS] at h
    cases e : asgS t d ps with
    | none => rw [e] at h; cases h
    | some ps' =>
      rw [e] at h
      obtain ⟨r1, g1, g2⟩ := Fit.asg f e
      obtain ⟨r2, g3, g4⟩ := Fit.asgs g2 h
      exact ⟨r2, by rw [MP.asgs, g1]; exact g3, g4⟩
  | .nm _, ds, ps, qs, r, f, h => by cases ds <;> simp [asgsS] at h
  | .tp _, ds, ps, qs, r, f, h => by cases ds <;> simp [asgsS] at h
end
/-! ### partial expressions -/
section
variable {C : CallF} {ps : List Sp} {a b c e es : E} {τ σ γ β α : Type}
theorem EX.le {x : Option τ} {k : τ → Wk} {q qs : τ → List Sp} (h : EX C ps e x k q) (l : ∀ v, Le (q v) (qs v)) : EX C ps e x k qs := fun v ev r f => by
  obtain ⟨w, r', g1, g2, g3⟩ := h v ev r f
  exact ⟨w, r', g1, g2, g3.le (l v)⟩
theorem exs_consV {y : Option τ} {k : Wk} {ks : τ → List Wk} {q : τ → List Sp} (ha : EV C ps e k) (hb : EXs C ps es y ks q) : EXs C ps (.cons e es) y (fun v => k :: ks v) q := fun v ev r f => by
  obtain ⟨w1, r1, g1, g2, g3⟩ := ha r f
  obtain ⟨ws, r2, g4, g5, g6⟩ := hb v ev r1 g3
  exact ⟨w1 :: ws, r2, by rw [evs, g1, R.bind_ok, g4, R.bind_ok], ⟨g2, g5⟩, g6⟩
theorem exs_consL {x : Option τ} {k : τ → Wk} {ks : τ → List Wk} {q : τ → List Sp} (ha : EX C ps e x k q) (hb : ∀ v, EVs C (q v) es (ks v)) : EXs C ps (.cons e es) x (fun v => k v :: ks v) q := fun v ev r f => by
  obtain ⟨w1, r1, g1, g2, g3⟩ := ha v ev r f
  obtain ⟨ws, r2, g4, g5, g6⟩ := hb v r1 g3
  exact ⟨w1 :: ws, r2, by rw [evs, g1, R.bind_ok, g4, R.bind_ok], ⟨g2, g5⟩, g6⟩
theorem exs_cons {x : Option τ} {y : τ → Option σ} {k : τ → Wk} {q : τ → List Sp} {ks : τ → σ → List Wk} {qs : τ → σ → List Sp} (ha : EX C ps e x k q) (hb : ∀ v, EXs C (q v) es (y v) (ks v) (qs v)) :
    EXs C ps (.cons e es) (x.bind fun u => (y u).bind fun v => some (u, v)) (fun p => k p.1 :: ks p.1 p.2) (fun p => qs p.1 p.2) := fun v ev r f => by
  cases ex : x with
  | none => rw [ex] at ev; cases ev
  | some u =>
    rw [ex, Option.bind_some] at ev
    cases ey : y u with
    | none => rw [ey] at ev; cases ev
    | some u' =>
      rw [ey] at ev
      cases ev
      obtain ⟨w1, r1, g1, g2, g3⟩ := ha u ex r f
      obtain ⟨ws, r2, g4, g5, g6⟩ := hb u u' ey r1 g3
      exact ⟨w1 :: ws, r2, by rw [evs, g1, R.bind_ok, g4, R.bind_ok], ⟨g2, g5⟩, g6⟩
/-- evaluated one by one, then joined: strict operators -/
def Str2 (C : CallF) (e a b : E) (g : D → D → Option W) : Prop := ∀ r w1 r1 w2 r2 d1 d2 w, ev C a r = .ok w1 r1 → ev C b r1 = .ok w2 r2 → view r2 w1 = some d1 → view r2 w2 = some d2 → g d1 d2 = some w → ev C e r = .ok w r2
theorem str_bin {op : Op} : Str2 C (.bin op a b) a b (binOp op) := fun r w1 r1 w2 r2 d1 d2 w e1 e2 v1 v2 g => by
  rw [ev, e1, R.bind_ok, e2, R.bind_ok]; unfold vw; rw [v1, v2]; dsimp only; rw [g]; rfl
theorem str_cmp {op : Cm} : Str2 C (.cmp op a b) a b fun d e => (cmpOp op d e).map fun t => .val (.bl t) := fun r w1 r1 w2 r2 d1 d2 w e1 e2 v1 v2 g => by
  rw [ev, e1, R.bind_ok, e2, R.bind_ok]; unfold vw; rw [v1, v2]; dsimp only at g ⊢
  cases h : cmpOp op d1 d2 with
  | none => rw [h] at g; cases g
  | some t => rw [h] at g; cases g; rfl
theorem str_sub : Str2 C (.sub a b) a b fun d e => (subOp d e).map .val := fun r w1 r1 w2 r2 d1 d2 w e1 e2 v1 v2 g => by
  rw [ev, e1, R.bind_ok, e2, R.bind_ok]; unfold vw; rw [v1, v2]; dsimp only at g ⊢; rw [g]; rfl
theorem two_inv {r : Env} {ws : List W} {r2 : Env} (h : evs C (.cons a (.cons b .nil)) r = .ok ws r2) : ∃ w1 r1 w2, ws = [w1, w2] ∧ ev C a r = .ok w1 r1 ∧ ev C b r1 = .ok w2 r2 := by
  rw [evs] at h
  obtain ⟨w1, r1, h1, h2⟩ := R.bind_inv h
  obtain ⟨ws2, r3, h3, h4⟩ := R.bind_inv h2
  cases h4
  rw [evs] at h3
  obtain ⟨w2, r4, h5, h6⟩ := R.bind_inv h3
  obtain ⟨ws3, r5, h7, h8⟩ := R.bind_inv h6
  cases h8
  rw [evs] at h7
  cases h7
  exact ⟨w1, r1, w2, rfl, h1, h5⟩
theorem ex_op {g : D → D → Option W} {x : Option τ} {ks : τ → List Wk} {q : τ → List Sp} {d1 d2 : τ → D} {z : τ → Option γ} {k : γ → Wk} {q0 : List Sp} (hs : Str2 C e a b g) (h : EXs C ps (.cons a (.cons b .nil)) x ks q) (s : ∀ u, Sees (q u) (ks u) [d1 u, d2 u]) (hq : ∀ u, q u = q0)
    (hz : ∀ u c, z u = some c → OpF (g (d1 u) (d2 u)) (k c)) : EX C ps e (x.bind z) k fun _ => q0 := fun v e r f => by
  cases ex : x with
  | none => rw [ex] at e; cases e
  | some u =>
    rw [ex, Option.bind_some] at e
    obtain ⟨ws, r2, g1, g2, g3⟩ := h u ex r f
    obtain ⟨w1, r1, w2, rfl, e1, e2⟩ := two_inv g1
    obtain ⟨w, g4, g5⟩ := (hz u v e).use
    have s1 := (s u)
    cases hk : ks u with
    | nil => rw [hk] at g2; exact g2.elim
    | cons k1 kt =>
      rw [hk] at g2 s1
      cases kt with
      | nil => exact g2.2.elim
      | cons k2 kt2 =>
        exact ⟨w, r2, hs r w1 r1 w2 r2 _ _ w e1 e2 (s1.1.view g3 g2.1) (s1.2.1.view g3 g2.2.1) g4, g5, by rw [← hq u]; exact g3⟩
theorem ex_opS {g : D → D → Option W} {x : Option τ} {ks : τ → List Wk} {q : τ → List Sp} {d1 d2 : τ → D} {z : τ → Option γ} {k : γ → Wk} (hs : Str2 C e a b g) (h : EXs C ps (.cons a (.cons b .nil)) x ks q) (s : ∀ u, Sees (q u) (ks u) [d1 u, d2 u])
    (hz : ∀ u c, z u = some c → OpF (g (d1 u) (d2 u)) (k c)) : EX C ps e (x.bind fun u => (z u).bind fun c => some (c, u)) (fun p => k p.1) fun p => q p.2 := fun v e r f => by
  cases ex : x with
  | none => rw [ex] at e; cases e
  | some u =>
    rw [ex, Option.bind_some] at e
    cases ez : z u with
    | none => rw [ez] at e; cases e
    | some c =>
      rw [ez] at e
      cases e
      obtain ⟨ws, r2, g1, g2, g3⟩ := h u ex r f
      obtain ⟨w1, r1, w2, rfl, e1, e2⟩ := two_inv g1
      obtain ⟨w, g4, g5⟩ := (hz u c ez).use
      have s1 := (s u)
      cases hk : ks u with
      | nil => rw [hk] at g2; exact g2.elim
      | cons k1 kt =>
        rw [hk] at g2 s1
        cases kt with
        | nil => exact g2.2.elim
        | cons k2 kt2 =>
          exact ⟨w, r2, hs r w1 r1 w2 r2 _ _ w e1 e2 (s1.1.view g3 g2.1) (s1.2.1.view g3 g2.2.1) g4, g5, g3⟩
/-- strict in a list of arguments -/
def StrN (C : CallF) (e es : E) (g : List D → Option W) : Prop := ∀ r ws r1 ds w, evs C es r = .ok ws r1 → views r1 ws = some ds → g ds = some w → ev C e r = .ok w r1
theorem str_bi {q : Bi} : StrN C (.bi q es) es (biOp q) := fun r ws r1 ds w e1 v g => by
  rw [ev, e1, R.bind_ok, v]; dsimp only; rw [g]; rfl
theorem ex_opN {g : List D → Option W} {x : Option τ} {ks : τ → List Wk} {q : τ → List Sp} {ds : τ → List D} {z : τ → Option γ} {k : γ → Wk} {q0 : List Sp} (hs : StrN C e es g) (h : EXs C ps es x ks q) (s : ∀ u, Sees (q u) (ks u) (ds u)) (hq : ∀ u, q u = q0)
    (hz : ∀ u c, z u = some c → OpF (g (ds u)) (k c)) : EX C ps e (x.bind z) k fun _ => q0 := fun v e r f => by
  cases ex : x with
  | none => rw [ex] at e; cases e
  | some u =>
    rw [ex, Option.bind_some] at e
    obtain ⟨ws, r2, g1, g2, g3⟩ := h u ex r f
    obtain ⟨w, g4, g5⟩ := (hz u v e).use
    exact ⟨w, r2, hs r ws r2 _ w g1 ((s u).view g3 g2) g4, g5, by rw [← hq u]; exact g3⟩
theorem ex_opNS {g : List D → Option W} {x : Option τ} {ks : τ → List Wk} {q : τ → List Sp} {ds : τ → List D} {z : τ → Option γ} {k : γ → Wk} (hs : StrN C e es g) (h : EXs C ps es x ks q) (s : ∀ u, Sees (q u) (ks u) (ds u))
    (hz : ∀ u c, z u = some c → OpF (g (ds u)) (k c)) : EX C ps e (x.bind fun u => (z u).bind fun c => some (c, u)) (fun p => k p.1) fun p => q p.2 := fun v e r f => by
  cases ex : x with
  | none => rw [ex] at e; cases e
  | some u =>
    rw [ex, Option.bind_some] at e
    cases ez : z u with
    | none => rw [ez] at e; cases e
    | some c =>
      rw [ez] at e
      cases e
      obtain ⟨ws, r2, g1, g2, g3⟩ := h u ex r f
      obtain ⟨w, g4, g5⟩ := (hz u c ez).use
      exact ⟨w, r2, hs r ws r2 _ w g1 ((s u).view g3 g2) g4, g5, g3⟩
/-- a partial operator of total parts -/
theorem ex_opV {g : D → D → Option W} {ka kb : Wk} {d1 d2 : D} {z : Option γ} {k : γ → Wk} (hs : Str2 C e a b g) (ha : EV C ps a ka) (hb : EV C ps b kb) (sa : See ps ka d1) (sb : See ps kb d2) (hz : ∀ c, z = some c → OpF (g d1 d2) (k c)) : EX C ps e z k fun _ => ps := fun v e r f => by
  obtain ⟨w1, r1, g1, g2, g3⟩ := ha r f
  obtain ⟨w2, r2, g4, g5, g6⟩ := hb r1 g3
  obtain ⟨w, g7, g8⟩ := (hz v e).use
  exact ⟨w, r2, hs r w1 r1 w2 r2 _ _ w g1 g4 (sa.view g6 g2) (sb.view g6 g5) g7, g8, g6⟩
theorem ex_opNV {g : List D → Option W} {ks : List Wk} {ds : List D} {z : Option γ} {k : γ → Wk} (hs : StrN C e es g) (h : EVs C ps es ks) (s : Sees ps ks ds) (hz : ∀ c, z = some c → OpF (g ds) (k c)) : EX C ps e z k fun _ => ps := fun v e r f => by
  obtain ⟨ws, r2, g1, g2, g3⟩ := h r f
  obtain ⟨w, g4, g5⟩ := (hz v e).use
  exact ⟨w, r2, hs r ws r2 _ w g1 (s.view g3 g2) g4, g5, g3⟩
/-- a change of the plain value -/
theorem EX.map {x : Option τ} {k : τ → Wk} {q : τ → List Sp} {k' : γ → Wk} {q' : γ → List Sp} (g : τ → γ) (h : EX C ps e x k q) (hk : ∀ u, k u = k' (g u)) (hq : ∀ u, q u = q' (g u)) : EX C ps e (x.bind fun u => some (g u)) k' q' := fun v e r f => by
  cases ex : x with
  | none => rw [ex] at e; cases e
  | some u =>
    rw [ex] at e
    cases e
    obtain ⟨w, r', g1, g2, g3⟩ := h u ex r f
    exact ⟨w, r', g1, by rw [← hk]; exact g2, by rw [← hq]; exact g3⟩
theorem ex_tk {x : Option τ} {d : τ → D} {q : τ → List Sp} (h : EX C ps e x (fun u => .d (d u)) q) : EX C ps (.tk e) x (fun u => .d (d u)) q := fun v e r f => by
  obtain ⟨w, r', g1, g2, g3⟩ := h v e r f
  cases g2
  exact ⟨_, r', by rw [ev, g1, R.bind_ok]; rfl, rfl, g3⟩
theorem ex_tko {x : Option τ} {d : τ → List D} {q : τ → List Sp} (h : EX C ps e x (fun u => .o (d u)) q) : EX C ps (.tk e) x (fun u => .d (.lst (d u))) q := fun v e r f => by
  obtain ⟨w, r', g1, g2, g3⟩ := h v e r f
  cases g2
  exact ⟨_, r', by rw [ev, g1, R.bind_ok]; rfl, rfl, g3⟩
/-- a list's name let go: from now on a value -/
theorem ex_tkv {i : Nat} {xs : List D} (h : gt ps i = .acc .free xs) : EX C ps (.tk (.var i)) (some ()) (fun _ => .d (.lst xs)) (fun _ => st ps i (.val (.lst xs))) := fun v e r f => by
  have g := f.acc h
  refine ⟨_, sets r i (.val (.lst xs)), ?_, rfl, f.set rfl⟩
  rw [ev, ev, g, R.bind_ok]
  show (MP.take (.slot i) r).bind _ = _
  unfold MP.take
  dsimp only
  rw [g]
  rfl
theorem ex_neg {x : Option τ} {d : τ → Int} {q : τ → List Sp} (h : EX C ps e x (fun u => .d (.int (d u))) q) : EX C ps (.neg e) x (fun u => .d (.int (-(d u)))) q := fun v e r f => by
  obtain ⟨w, r', g1, g2, g3⟩ := h v e r f
  cases g2
  exact ⟨_, r', by rw [ev, g1, R.bind_ok], rfl, g3⟩
theorem ex_not {x : Option τ} {d : τ → Bool} {q : τ → List Sp} (h : EX C ps e x (fun u => .d (.bl (d u))) q) : EX C ps (.not e) x (fun u => .d (.bl (!(d u)))) q := fun v e r f => by
  obtain ⟨w, r', g1, g2, g3⟩ := h v e r f
  cases g2
  exact ⟨_, r', by rw [ev, g1, R.bind_ok]; rfl, rfl, g3⟩
/-- both ways out meet in one state -/
theorem ex_and {x : Option τ} {d : τ → Bool} {q : τ → List Sp} {y : τ → Option γ} {k : γ → Wk} {qs : γ → List Sp} (n : τ → γ) (h : EX C ps a x (fun u => .d (.bl (d u))) q) (hb : ∀ u, EX C (q u) b (y u) k qs) (hk : ∀ u, k (n u) = .d (.bl false)) (hl : ∀ u, Le (q u) (qs (n u))) :
    EX C ps (.and a b) (x.bind fun u => bif d u then y u else some (n u)) k qs := fun v e r f => by
  cases ex : x with
  | none => rw [ex] at e; cases e
  | some u =>
    rw [ex, Option.bind_some] at e
    obtain ⟨w, r', g1, g2, g3⟩ := h u ex r f
    cases g2
    rw [ev, g1, R.bind_ok]
    cases t : d u with
    | true => rw [t] at e; exact hb u v e r' g3
    | false =>
      rw [t] at e
      cases e
      exact ⟨_, r', rfl, by rw [hk]; rfl, g3.le (hl u)⟩
theorem ex_or {x : Option τ} {d : τ → Bool} {q : τ → List Sp} {y : τ → Option γ} {k : γ → Wk} {qs : γ → List Sp} (n : τ → γ) (h : EX C ps a x (fun u => .d (.bl (d u))) q) (hb : ∀ u, EX C (q u) b (y u) k qs) (hk : ∀ u, k (n u) = .d (.bl true)) (hl : ∀ u, Le (q u) (qs (n u))) :
    EX C ps (.or a b) (x.bind fun u => bif d u then some (n u) else y u) k qs := fun v e r f => by
  cases ex : x with
  | none => rw [ex] at e; cases e
  | some u =>
    rw [ex, Option.bind_some] at e
    obtain ⟨w, r', g1, g2, g3⟩ := h u ex r f
    cases g2
    rw [ev, g1, R.bind_ok]
    cases t : d u with
    | false => rw [t] at e; exact hb u v e r' g3
    | true =>
      rw [t] at e
      cases e
      exact ⟨_, r', rfl, by rw [hk]; rfl, g3.le (hl u)⟩
theorem ex_ite {x : Option τ} {d : τ → Bool} {q : τ → List Sp} {y z : τ → Option γ} {k : γ → Wk} {qs : γ → List Sp} (h : EX C ps c x (fun u => .d (.bl (d u))) q) (ha : ∀ u, EX C (q u) a (y u) k qs) (hb : ∀ u, EX C (q u) b (z u) k qs) :
    EX C ps (.ite c a b) (x.bind fun u => bif d u then y u else z u) k qs := fun v e r f => by
  cases ex : x with
  | none => rw [ex] at e; cases e
  | some u =>
    rw [ex, Option.bind_some] at e
    obtain ⟨w, r', g1, g2, g3⟩ := h u ex r f
    cases g2
    rw [ev, g1, R.bind_ok]
    cases t : d u with
    | true => rw [t] at e; exact ha u v e r' g3
    | false => rw [t] at e; exact hb u v e r' g3
theorem ex_tup {x : Option τ} {ks : τ → List Wk} {q : τ → List Sp} {ds : τ → List D} (h : EXs C ps es x ks q) (hd : ∀ u, AllD (ks u) (ds u)) : EX C ps (.tup es) x (fun u => .d (.tup (ds u))) q := fun v e r f => by
  obtain ⟨ws, r1, g1, g2, g3⟩ := h v e r f
  rw [(hd v).is] at g2
  exact ⟨_, r1, by rw [ev, g1, R.bind_ok, g2.ds, vals_ds]; rfl, rfl, g3⟩
theorem ex_list {x : Option τ} {ks : τ → List Wk} {q : τ → List Sp} {ds : τ → List D} (h : EXs C ps es x ks q) (hd : ∀ u, AllD (ks u) (ds u)) : EX C ps (.list es) x (fun u => .o (ds u)) q := fun v e r f => by
  obtain ⟨ws, r1, g1, g2, g3⟩ := h v e r f
  rw [(hd v).is] at g2
  exact ⟨_, r1, by rw [ev, g1, R.bind_ok, g2.ds, vals_ds]; rfl, rfl, g3⟩
theorem ex_isi {o : Ty} {x : Option τ} {ks : τ → Wk} {q : τ → List Sp} {ds : τ → D} {t : τ → Bool} (h : EX C ps e x ks q) (hd : ∀ u, See (q u) (ks u) (ds u)) (ht : ∀ u, isTy o (ds u) = some (t u)) : EX C ps (.isi e o) x (fun u => .d (.bl (t u))) q := fun v e r f => by
  obtain ⟨w, r1, g1, g2, g3⟩ := h v e r f
  exact ⟨_, r1, by rw [ev, g1, R.bind_ok]; unfold vw; rw [(hd v).view g3 g2]; dsimp only; rw [ht]; rfl, rfl, g3⟩
end
end MT

-- part Ty2
set_option maxHeartbeats 1000000
namespace MT
open MP
/-! ### calls -/
def NoV : Wk → Prop
  | .v _ _ => False
  | _ => True
def FN (C : CallF) (f : Nat) (ss : List Sl) {τ : Type} (x : Option τ) (k : τ → Wk) (out : τ → List Sl) : Prop := ∀ v, x = some v → ∃ w, C f ss = .ok w (out v) ∧ (k v).Is w ∧ NoV (k v)
def arg1 (ps : List Sp) : Wk → Option Sl
  | .d x => some (.val x)
  | .o _ => none
  | .v i _ => match gt ps i with
    | .acc .free ys => some (.acc .fix ys)
    | .acc .fix ys => some (.acc .fix ys)
    | _ => none
def argSp (ps : List Sp) : List Wk → Option (List Sl)
  | [] => some []
  | k :: ks => match arg1 ps k, argSp ps ks with
    | some s, some ss => some (s :: ss)
    | _, _ => none
def slW : List Wk → List Nat
  | [] => []
  | .v i _ :: ks => i :: slW ks
  | _ :: ks => slW ks
theorem Iss.slots : ∀ {ks : List Wk} {ws : List W}, Iss ks ws → slotsOf ws = slW ks
  | [], [], _ => rfl
  | [], _ :: _, h => h.elim
  | _ :: _, [], h => h.elim
  | .d x :: ks, w :: ws, h => by cases h.1; exact Iss.slots (ks := ks) (ws := ws) h.2
  | .o x :: ks, w :: ws, h => by cases h.1; exact Iss.slots (ks := ks) (ws := ws) h.2
  | .v i x :: ks, w :: ws, h => by cases h.1; exact congrArg (i :: ·) (Iss.slots (ks := ks) (ws := ws) h.2)
theorem arg_is {ps : List Sp} {r : Env} (f : Fit ps r) : ∀ {ks : List Wk} {ws : List W} {ss : List Sl}, Iss ks ws → argSp ps ks = some ss → argsS r ws = some ss ∧ accs ps (slW ks) = true
  | [], [], _, _, e => ⟨e, rfl⟩
  | [], _ :: _, _, h, _ => h.elim
  | _ :: _, [], _, h, _ => h.elim
  | k :: ks, w :: ws, ss, h, e => by
    rw [argSp] at e
    cases e1 : arg1 ps k with
    | none => rw [e1] at e; cases e
    | some s =>
      cases e2 : argSp ps ks with
      | none => rw [e1, e2] at e; cases e
      | some ss' =>
        rw [e1, e2] at e
        cases e
        obtain ⟨g1, g2⟩ := arg_is f h.2 e2
        have key : argS r w = some s ∧ ((slW (k :: ks) = slW ks) ∨ ∃ i, slW (k :: ks) = i :: slW ks ∧ isAcc (gt ps i) = true) := by
          cases k with
          | d x => cases (show w = .val x from h.1); cases e1; exact ⟨rfl, .inl rfl⟩
          | o x => cases e1
          | v i x =>
            cases (show w = .slot i from h.1)
            rw [arg1] at e1
            unfold argS
            dsimp only
            cases e3 : gt ps i with
            | any => rw [e3] at e1; cases e1
            | val d => rw [e3] at e1; cases e1
            | acc m ys =>
              rw [e3] at e1
              rw [f.acc e3]
              refine ⟨?_, .inr ⟨i, rfl, by rw [e3]; rfl⟩⟩
              cases m with
              | free => exact e1
              | fix => exact e1
              | lck => cases e1
        refine ⟨by rw [argsS, key.1, g1], ?_⟩
        rcases key.2 with z | ⟨i, z1, z2⟩
        · rw [z]; exact g2
        · rw [z1, accs, z2, g2]; rfl
def backSp : List Wk → List Sl → List Sp → List Sp
  | .v i _ :: ks, .acc _ xs :: ss, ps => match gt ps i with
    | .acc m _ => backSp ks ss (st ps i (.acc m xs))
    | _ => backSp ks ss ps
  | _ :: ks, _ :: ss, ps => backSp ks ss ps
  | _, _, ps => ps
theorem accs_st {ps : List Sp} {i : Nat} {m : Md} {xs : List D} : ∀ {is : List Nat}, accs ps is = true → accs (st ps i (.acc m xs)) is = true
  | [], _ => rfl
  | j :: is, h => by
    rw [accs, Bool.and_eq_true] at h
    rw [accs, accs_st h.2, Bool.and_true]
    rcases gt_st (ps := ps) (i := i) (j := j) (p := .acc m xs) with g | ⟨_, g⟩
    · rw [g]; exact h.1
    · rw [g]; rfl
theorem Fit.backs : ∀ {ks : List Wk} {ws : List W} {ss : List Sl} {ps : List Sp} {r : Env}, Fit ps r → Iss ks ws → accs ps (slW ks) = true → Fit (backSp ks ss ps) (backArgs ws ss r)
  | [], [], ss, ps, r, f, _, _ => by
    have e1 : backSp [] ss ps = ps := by cases ss <;> rfl
    have e2 : backArgs [] ss r = r := by cases ss <;> rfl
    rw [e1, e2]; exact f
  | [], _ :: _, _, _, _, _, h, _ => h.elim
  | _ :: _, [], _, _, _, _, h, _ => h.elim
  | k :: ks, w :: ws, [], ps, r, f, h, _ => by
    have e1 : backSp (k :: ks) [] ps = ps := by cases k <;> rfl
    have e2 : backArgs (w :: ws) [] r = r := by cases w <;> rfl
    rw [e1, e2]; exact f
  | .d x :: ks, w :: ws, s :: ss, ps, r, f, h, a => by
    cases (show w = .val x from h.1)
    exact Fit.backs (ks := ks) (ws := ws) (ss := ss) f h.2 a
  | .o x :: ks, w :: ws, s :: ss, ps, r, f, h, a => by
    cases (show w = .own x from h.1)
    exact Fit.backs (ks := ks) (ws := ws) (ss := ss) f h.2 a
  | .v i x :: ks, w :: ws, s :: ss, ps, r, f, h, a => by
    cases (show w = .slot i from h.1)
    rw [slW, accs, Bool.and_eq_true] at a
    cases s with
    | no => exact Fit.backs (ks := ks) (ws := ws) (ss := ss) f h.2 a.2
    | val d => exact Fit.backs (ks := ks) (ws := ws) (ss := ss) f h.2 a.2
    | acc m xs =>
      rw [backSp, backArgs]
      have a1 := a.1
      cases e : gt ps i with
      | any => rw [e] at a1; cases a1
      | val d => rw [e] at a1; cases a1
      | acc m' ys =>
        dsimp only
        rw [f.acc e]
        exact Fit.backs (ks := ks) (ws := ws) (ss := ss) (f.set rfl) h.2 (accs_st a.2)
section
variable {C : CallF} {ps : List Sp} {a b c e es : E} {τ σ γ β α : Type}
theorem call_run {f : Nat} {ws : List W} {ks : List Wk} {ss out : List Sl} {r r1 : Env} {w : W} {k : Wk} (g1 : evs C es r = .ok ws r1) (g2 : Iss ks ws) (g3 : Fit ps r1) (ha : argSp ps ks = some ss) (hn : nodupN (slW ks) = true) (hf : C f ss = .ok w out) (hw : k.Is w) (hk : NoV k) :
    ∃ r', ev C (.call f es) r = .ok w r' ∧ Fit (backSp ks out ps) r' := by
  obtain ⟨h1, h2⟩ := arg_is g3 g2 ha
  refine ⟨backArgs ws out r1, ?_, g3.backs g2 h2⟩
  rw [ev, g1, R.bind_ok, h1]
  dsimp only
  rw [g2.slots, if_pos hn, hf]
  cases k with
  | d x => cases hw; rfl
  | o x => cases hw; rfl
  | v _ _ => exact hk.elim
theorem ex_callV {f : Nat} {ks : List Wk} {ss : List Sl} {y : Option γ} {k : γ → Wk} {out : γ → List Sl} (h : EVs C ps es ks) (ha : argSp ps ks = some ss) (hn : nodupN (slW ks) = true) (hf : FN C f ss y k out) : EX C ps (.call f es) y k fun v => backSp ks (out v) ps := fun v e r ft => by
  obtain ⟨ws, r1, g1, g2, g3⟩ := h r ft
  obtain ⟨w, g4, g5, g6⟩ := hf v e
  obtain ⟨r', g7, g8⟩ := call_run g1 g2 g3 ha hn g4 g5 g6
  exact ⟨w, r', g7, g5, g8⟩
theorem ex_call {f : Nat} {x : Option τ} {ks : τ → List Wk} {q : τ → List Sp} {ss : τ → List Sl} {y : τ → Option γ} {k : τ → γ → Wk} {out : τ → γ → List Sl} (h : EXs C ps es x ks q) (ha : ∀ u, argSp (q u) (ks u) = some (ss u)) (hn : ∀ u, nodupN (slW (ks u)) = true) (hf : ∀ u, FN C f (ss u) (y u) (k u) (out u)) :
    EX C ps (.call f es) (x.bind fun u => (y u).bind fun v => some (v, u)) (fun p => k p.2 p.1) fun p => backSp (ks p.2) (out p.2 p.1) (q p.2) := fun v e r ft => by
  cases ex : x with
  | none => rw [ex] at e; cases e
  | some u =>
    rw [ex, Option.bind_some] at e
    cases ey : y u with
    | none => rw [ey] at e; cases e
    | some v' =>
      rw [ey] at e
      cases e
      obtain ⟨ws, r1, g1, g2, g3⟩ := h u ex r ft
      obtain ⟨w, g4, g5, g6⟩ := hf u v' ey
      obtain ⟨r', g7, g8⟩ := call_run g1 g2 g3 (ha u) (hn u) g4 g5 g6
      exact ⟨w, r', g7, g5, g8⟩
/-- nothing is changed -/
theorem ex_callP {f : Nat} {x : Option τ} {ks : τ → List Wk} {q : τ → List Sp} {ss : τ → List Sl} {y : τ → Option γ} {k : γ → Wk} {out : τ → γ → List Sl} {q0 : List Sp} (h : EXs C ps es x ks q) (ha : ∀ u, argSp (q u) (ks u) = some (ss u)) (hn : ∀ u, nodupN (slW (ks u)) = true) (hf : ∀ u, FN C f (ss u) (y u) k (out u)) (hq : ∀ u v, backSp (ks u) (out u v) (q u) = q0) :
    EX C ps (.call f es) (x.bind y) k fun _ => q0 := fun v e r ft => by
  cases ex : x with
  | none => rw [ex] at e; cases e
  | some u =>
    rw [ex, Option.bind_some] at e
    obtain ⟨ws, r1, g1, g2, g3⟩ := h u ex r ft
    obtain ⟨w, g4, g5, g6⟩ := hf u v e
    obtain ⟨r', g7, g8⟩ := call_run g1 g2 g3 (ha u) (hn u) g4 g5 g6
    exact ⟨w, r', g7, g5, by rw [← hq u v]; exact g8⟩
/-! ### what is walked -/
def IX (C : CallF) (ps : List Sp) (k : Ik) (es : E) {τ : Type} (x : Option τ) {α : Type} (l : τ → List α) (enc : α → D) (sl : List Nat) (q : τ → List Sp) : Prop := ∀ v, x = some v → ∀ r, Fit ps r → ∃ ws r', evs C es r = .ok ws r' ∧ slotsOf ws = sl ∧ Fit (q v) r' ∧ (views r' ws).bind (itOp k) = some ((l v).map enc) ∧ accs (q v) sl = true
def IV (C : CallF) (ps : List Sp) (k : Ik) (es : E) {α : Type} (l : List α) (enc : α → D) (sl : List Nat) : Prop := ∀ r, Fit ps r → ∃ ws r', evs C es r = .ok ws r' ∧ slotsOf ws = sl ∧ Fit ps r' ∧ (views r' ws).bind (itOp k) = some (l.map enc) ∧ accs ps sl = true
theorem sees_accs {ps : List Sp} : ∀ {ks : List Wk} {ds : List D}, Sees ps ks ds → accs ps (slW ks) = true
  | [], [], _ => rfl
  | [], _ :: _, h => h.elim
  | _ :: _, [], h => h.elim
  | .d x :: ks, d :: ds, h => sees_accs (ks := ks) h.2
  | .o x :: ks, d :: ds, h => sees_accs (ks := ks) h.2
  | .v i x :: ks, d :: ds, h => by
    have h1 := h.1.2
    rw [slW, accs, sees_accs h.2, Bool.and_true]
    cases e : gt ps i with
    | any => rw [e] at h1; exact h1.elim
    | val d => rw [e] at h1; exact h1.elim
    | acc m xs => rfl
theorem iv_of {k : Ik} {ks : List Wk} {ds : List D} {l : List α} {enc : α → D} (h : EVs C ps es ks) (s : Sees ps ks ds) (g : itOp k ds = some (l.map enc)) : IV C ps k es l enc (slW ks) := fun r f => by
  obtain ⟨ws, r', g1, g2, g3⟩ := h r f
  exact ⟨ws, r', g1, g2.slots, g3, by rw [s.view g3 g2]; exact g, sees_accs s⟩
theorem IV.up {k : Ik} {l : List α} {enc : α → D} {sl : List Nat} (h : IV C ps k es l enc sl) : IX C ps k es (some l) id enc sl fun _ => ps := fun v e r f => by
  cases e
  exact h r f
theorem ix_v {k : Ik} {ks : List Wk} {ds : List D} {z : Option (List α)} {enc : α → D} (h : EVs C ps es ks) (s : Sees ps ks ds) (g : ∀ c, z = some c → itOp k ds = some (c.map enc)) : IX C ps k es z id enc (slW ks) fun _ => ps := fun v e r f => by
  obtain ⟨ws, r', g1, g2, g3⟩ := h r f
  exact ⟨ws, r', g1, g2.slots, g3, by rw [s.view g3 g2]; exact g v e, sees_accs s⟩
theorem ix_x {k : Ik} {x : Option τ} {ks : τ → List Wk} {q : τ → List Sp} {ds : τ → List D} {sl : List Nat} {z : τ → Option (List α)} {enc : α → D} (h : EXs C ps es x ks q) (s : ∀ u, Sees (q u) (ks u) (ds u)) (hs : ∀ u, slW (ks u) = sl) (g : ∀ u c, z u = some c → itOp k (ds u) = some (c.map enc)) :
    IX C ps k es (x.bind fun u => (z u).bind fun c => some (c, u)) (fun p => p.1) enc sl (fun p => q p.2) := fun v e r f => by
  cases ex : x with
  | none => rw [ex] at e; cases e
  | some u =>
    rw [ex, Option.bind_some] at e
    cases ez : z u with
    | none => rw [ez] at e; cases e
    | some c =>
      rw [ez] at e
      cases e
      obtain ⟨ws, r', g1, g2, g3⟩ := h u ex r f
      exact ⟨ws, r', g1, by rw [g2.slots]; exact hs u, g3, by rw [(s u).view g3 g2]; exact g u c ez, by rw [← hs u]; exact sees_accs (s u)⟩
theorem ix_p {k : Ik} {x : Option τ} {ks : τ → List Wk} {q : τ → List Sp} {ds : τ → List D} {sl : List Nat} {z : τ → Option (List α)} {enc : α → D} {q0 : List Sp} (h : EXs C ps es x ks q) (s : ∀ u, Sees (q u) (ks u) (ds u)) (hs : ∀ u, slW (ks u) = sl) (hq : ∀ u, q u = q0) (g : ∀ u c, z u = some c → itOp k (ds u) = some (c.map enc)) :
    IX C ps k es (x.bind z) id enc sl (fun _ => q0) := fun v e r f => by
  cases ex : x with
  | none => rw [ex] at e; cases e
  | some u =>
    rw [ex, Option.bind_some] at e
    obtain ⟨ws, r', g1, g2, g3⟩ := h u ex r f
    exact ⟨ws, r', g1, by rw [g2.slots]; exact hs u, by rw [← hq u]; exact g3, by rw [(s u).view g3 g2]; exact g u v e, by rw [← hs u, ← hq u]; exact sees_accs (s u)⟩
/-! ### comprehensions -/
def compO (p : α → Option Bool) (g : α → Option β) : List α → Option (List β)
  | [] => some []
  | a :: l => (p a).bind fun b => bif b then (g a).bind fun y => (compO p g l).bind fun ys => some (y :: ys) else compO p g l
def compS (f : α → σ → Option (Option β × σ)) : List α → σ → Option (List β × σ)
  | [], s => some ([], s)
  | a :: l, s => (f a s).bind fun p => (compS f l p.2).bind fun q => some (p.1.toList ++ q.1, q.2)
theorem compL_V {step : D → Env → R (Option D)} {I : List Sp} {enc : α → D} {p : α → Bool} {g : α → D} (h : ∀ a r, Fit I r → ∃ r', step (enc a) r = .ok (bif p a then some (g a) else none) r' ∧ Fit I r') : ∀ (l : List α) (acc : List D) (r : Env), Fit I r → ∃ r', compL step (l.map enc) acc r = .ok (acc ++ (l.filter p).map g) r' ∧ Fit I r'
  | [], acc, r, f => ⟨r, by rw [List.map_nil, compL]; simp, f⟩
  | a :: l, acc, r, f => by
    obtain ⟨r1, g1, g2⟩ := h a r f
    rw [List.map_cons, compL, g1, R.bind_ok]
    cases e : p a with
    | true =>
      obtain ⟨r2, g3, g4⟩ := compL_V h l (acc ++ [g a]) r1 g2
      refine ⟨r2, ?_, g4⟩
      dsimp only [cond]
      rw [g3, List.filter_cons, if_pos e]
      simp
    | false =>
      obtain ⟨r2, g3, g4⟩ := compL_V h l acc r1 g2
      refine ⟨r2, ?_, g4⟩
      dsimp only [cond]
      rw [g3, List.filter_cons, if_neg (by rw [e]; exact Bool.false_ne_true)]
theorem compL_O {step : D → Env → R (Option D)} {I : List Sp} {enc : α → D} {enc' : β → D} {p : α → Option Bool} {g : α → Option β} (h : ∀ a b, p a = some b → ∀ r, Fit I r → (b = true → ∀ y, g a = some y → ∃ r', step (enc a) r = .ok (some (enc' y)) r' ∧ Fit I r') ∧ (b = false → ∃ r', step (enc a) r = .ok none r' ∧ Fit I r')) :
    ∀ (l : List α) (out : List β), compO p g l = some out → ∀ (acc : List D) (r : Env), Fit I r → ∃ r', compL step (l.map enc) acc r = .ok (acc ++ out.map enc') r' ∧ Fit I r'
  | [], out, e, acc, r, f => by
    cases e
    exact ⟨r, by rw [List.map_nil, compL]; simp, f⟩
  | a :: l, out, e, acc, r, f => by
    rw [compO] at e
    cases ep : p a with
    | none => rw [ep] at e; cases e
    | some b =>
      rw [ep, Option.bind_some] at e
      obtain ⟨h1, h2⟩ := h a b ep r f
      rw [List.map_cons, compL]
      cases b with
      | true =>
        dsimp only [cond] at e
        cases eg : g a with
        | none => rw [eg] at e; cases e
        | some y =>
          rw [eg, Option.bind_some] at e
          cases ec : compO p g l with
          | none => rw [ec] at e; cases e
          | some ys =>
            rw [ec] at e
            cases e
            obtain ⟨r1, g1, g2⟩ := h1 rfl y eg
            rw [g1, R.bind_ok]
            obtain ⟨r2, g3, g4⟩ := compL_O h l ys ec (acc ++ [enc' y]) r1 g2
            exact ⟨r2, by dsimp only; rw [g3]; simp, g4⟩
      | false =>
        obtain ⟨r1, g1, g2⟩ := h2 rfl
        rw [g1, R.bind_ok]
        exact compL_O h l out e acc r1 g2
theorem compL_S {step : D → Env → R (Option D)} {I : σ → List Sp} {enc : α → D} {enc' : β → D} {g : α → σ → Option (Option β × σ)} (h : ∀ a s v, g a s = some v → ∀ r, Fit (I s) r → ∃ r', step (enc a) r = .ok (v.1.map enc') r' ∧ Fit (I v.2) r') :
    ∀ (l : List α) (s : σ) (v : List β × σ), compS g l s = some v → ∀ (acc : List D) (r : Env), Fit (I s) r → ∃ r', compL step (l.map enc) acc r = .ok (acc ++ v.1.map enc') r' ∧ Fit (I v.2) r'
  | [], s, v, e, acc, r, f => by
    cases e
    exact ⟨r, by rw [List.map_nil, compL]; simp, f⟩
  | a :: l, s, v, e, acc, r, f => by
    rw [compS] at e
    cases ep : g a s with
    | none => rw [ep] at e; cases e
    | some p =>
      rw [ep, Option.bind_some] at e
      cases ec : compS g l p.2 with
      | none => rw [ec] at e; cases e
      | some q =>
        rw [ec] at e
        cases e
        obtain ⟨r1, g1, g2⟩ := h a s p ep r f
        rw [List.map_cons, compL, g1, R.bind_ok]
        obtain ⟨o, s'⟩ := p
        cases o with
        | none =>
          obtain ⟨r2, g3, g4⟩ := compL_S h l _ q ec acc r1 g2
          exact ⟨r2, by dsimp only [Option.map]; rw [g3]; simp, g4⟩
        | some y =>
          obtain ⟨r2, g3, g4⟩ := compL_S h l _ q ec (acc ++ [enc' y]) r1 g2
          exact ⟨r2, by dsimp only [Option.map]; rw [g3]; simp, g4⟩
theorem lc_end {t : Tg} {k : Ik} {own : List Nat} {ws : List W} {its : List D} {r r1 r7 : Env} {out : List D} {qs q7 : List Sp} (g1 : evs C es r = .ok ws r1) (g2 : (views r1 ws).bind (itOp k) = some its) (f1 : Fit qs r1) (ha : accs qs (slotsOf ws) = true)
    (g3 : compL (ML.stepC' C t c e own) its [] (wipes (locks r1 ws) own) = .ok out r7) (f7 : Fit q7 r7) : ∃ r', ev C (.lc t k es c e own) r = .ok (.own out) r' ∧ Fit (unlockS qs (backS (lockS qs (slotsOf ws)) q7 own) (slotsOf ws)) r' := by
  refine ⟨unlocks r1 (backs (locks r1 ws) r7 own) ws, ?_, ?_⟩
  · rw [ML.ev_lc', g1, R.bind_ok, g2]
    dsimp only
    rw [g3, R.bind_ok]
    rfl
  · exact Fit.unlock f1 ((f1.lock ha).back f7) ha
/-- all is there, nothing is changed -/
theorem ev_lc {t : Tg} {k : Ik} {own sl : List Nat} {l : List α} {enc : α → D} {enc' : β → D} {bs : α → List Sp} {p : α → Bool} {g : α → β} (hi : IV C ps k es l enc sl) (hb : ∀ a, asgS t (enc a) (wipeS (lockS ps sl) own) = some (bs a)) (hc : ∀ a, EV C (bs a) c (.d (.bl (p a)))) (hx : ∀ a, EV C (bs a) e (.d (enc' (g a))))
    (hw : ∀ a, Le (wipeS (bs a) own) (wipeS (lockS ps sl) own)) (hq : unlockS ps (backS (lockS ps sl) (wipeS (lockS ps sl) own) own) sl = ps) : EV C ps (.lc t k es c e own) (.o (((l.filter p).map g).map enc')) := fun r f => by
  obtain ⟨ws, r1, g1, rfl, g3, g4, g5⟩ := hi r f
  obtain ⟨r7, g6, g7⟩ := compL_V (step := ML.stepC' C t c e own) (I := wipeS (lockS ps (slotsOf ws)) own) (enc := enc) (p := p) (g := fun a => enc' (g a)) (fun a r' f' => by
    obtain ⟨r3, k1, k2⟩ := Fit.asg f' (hb a)
    obtain ⟨w, r4, k3, k4, k5⟩ := hc a r3 k2
    cases k4
    unfold ML.stepC'
    rw [k1]
    dsimp only
    rw [k3, R.bind_ok]
    cases p a with
    | false => exact ⟨_, rfl, k5.wipe.le (hw a)⟩
    | true =>
      obtain ⟨w, r5, k6, k7, k8⟩ := hx a r4 k5
      cases k7
      show ∃ r', ((MP.ev C e r4).bind _) = _ ∧ _
      rw [k6]
      exact ⟨_, rfl, k8.wipe.le (hw a)⟩) l [] (wipes (locks r1 ws) own) (g3.lock g5).wipe
  obtain ⟨r', g8, g9⟩ := lc_end g1 g4 g3 g5 g6 g7
  rw [hq] at g9
  refine ⟨_, r', g8, ?_, g9⟩
  show W.own _ = W.own _
  rw [List.map_map]
  rfl
/-- nothing is changed -/
theorem ex_lc {t : Tg} {k : Ik} {own sl : List Nat} {x : Option τ} {l : τ → List α} {enc : α → D} {enc' : β → D} {q : τ → List Sp} {q0 : List Sp} {bs : τ → α → List Sp} {p : τ → α → Option Bool} {g : τ → α → Option β} (hi : IX C ps k es x l enc sl q) (hb : ∀ u a, asgS t (enc a) (wipeS (lockS (q u) sl) own) = some (bs u a))
    (hc : ∀ u a, EX C (bs u a) c (p u a) (fun b => .d (.bl b)) fun _ => bs u a) (hx : ∀ u a, EX C (bs u a) e (g u a) (fun y => .d (enc' y)) fun _ => bs u a)
    (hw : ∀ u a, Le (wipeS (bs u a) own) (wipeS (lockS (q u) sl) own)) (hq : ∀ u, unlockS (q u) (backS (lockS (q u) sl) (wipeS (lockS (q u) sl) own) own) sl = q0) : EX C ps (.lc t k es c e own) (x.bind fun u => compO (p u) (g u) (l u)) (fun out => .o (out.map enc')) fun _ => q0 := fun v ev r f => by
  cases ex : x with
  | none => rw [ex] at ev; cases ev
  | some u =>
    rw [ex, Option.bind_some] at ev
    obtain ⟨ws, r1, g1, rfl, g3, g4, g5⟩ := hi u ex r f
    obtain ⟨r7, g6, g7⟩ := compL_O (step := ML.stepC' C t c e own) (I := wipeS (lockS (q u) (slotsOf ws)) own) (enc := enc) (enc' := enc') (p := p u) (g := g u) (fun a b hp r' f' => by
      obtain ⟨r3, k1, k2⟩ := Fit.asg f' (hb u a)
      obtain ⟨w, r4, k3, k4, k5⟩ := hc u a b hp r3 k2
      cases k4
      refine ⟨fun hb' y hy => ?_, fun hb' => ?_⟩
      · subst hb'
        obtain ⟨w, r5, k6, k7, k8⟩ := hx u a y hy r4 k5
        cases k7
        unfold ML.stepC'
        rw [k1]
        dsimp only
        rw [k3, R.bind_ok]
        show ∃ r', ((MP.ev C e r4).bind _) = _ ∧ _
        rw [k6]
        exact ⟨_, rfl, k8.wipe.le (hw u a)⟩
      · subst hb'
        unfold ML.stepC'
        rw [k1]
        dsimp only
        rw [k3, R.bind_ok]
        exact ⟨_, rfl, k5.wipe.le (hw u a)⟩) (l u) v ev [] (wipes (locks r1 ws) own) (g3.lock g5).wipe
    obtain ⟨r', g8, g9⟩ := lc_end g1 g4 g3 g5 g6 g7
    rw [hq] at g9
    exact ⟨_, r', g8, rfl, g9⟩
/-- turns that change names -/
theorem ex_lcs {t : Tg} {k : Ik} {own sl : List Nat} {x : Option τ} {l : τ → List α} {enc : α → D} {enc' : β → D} {q : τ → List Sp} {bs : α → σ → List Sp} {γ' δ : Type} {p : α → σ → Option γ'} {vb : γ' → Bool} {qc : α → σ → γ' → List Sp} {g : α → σ → γ' → Option δ} {ve : δ → β} {qx : α → σ → γ' → δ → List Sp}
    (I : σ → List Sp) (s0 : τ → σ) (s1 : α → σ → γ' → σ) (s2 : α → σ → γ' → δ → σ) (hi : IX C ps k es x l enc sl q) (h0 : ∀ u, Le (wipeS (lockS (q u) sl) own) (I (s0 u))) (hb : ∀ a s, asgS t (enc a) (I s) = some (bs a s))
    (hc : ∀ a s, EX C (bs a s) c (p a s) (fun b => .d (.bl (vb b))) (qc a s)) (hx : ∀ a s b, EX C (qc a s b) e (g a s b) (fun y => .d (enc' (ve y))) (qx a s b))
    (h1 : ∀ a s b, Le (wipeS (qc a s b) own) (I (s1 a s b))) (h2 : ∀ a s b y, Le (wipeS (qx a s b y) own) (I (s2 a s b y))) : EX C ps (.lc t k es c e own) (x.bind fun u => (compS (fun a s => (p a s).bind fun b => bif vb b then (g a s b).bind fun y => some (some (ve y), s2 a s b y) else some (none, s1 a s b)) (l u) (s0 u)).bind fun z => some (z, u))
      (fun z => .o (z.1.1.map enc')) fun z => unlockS (q z.2) (backS (lockS (q z.2) sl) (I z.1.2) own) sl := fun v ev r f => by
  cases ex : x with
  | none => rw [ex] at ev; cases ev
  | some u =>
    rw [ex, Option.bind_some] at ev
    obtain ⟨z, ez, ev⟩ := Option.bind_eq_some_iff.mp ev
    cases ev
    obtain ⟨ws, r1, g1, rfl, g3, g4, g5⟩ := hi u ex r f
    obtain ⟨r7, g6, g7⟩ := compL_S (step := ML.stepC' C t c e own) (I := I) (enc := enc) (enc' := enc') (fun a s v' hv r' f' => by
      obtain ⟨r3, k1, k2⟩ := Fit.asg f' (hb a s)
      obtain ⟨b, e1, hv⟩ := Option.bind_eq_some_iff.mp hv
      obtain ⟨w, r4, k3, k4, k5⟩ := hc a s b e1 r3 k2
      cases k4
      unfold ML.stepC'
      rw [k1]
      dsimp only
      rw [k3, R.bind_ok]
      cases eb : vb b with
      | false =>
        rw [eb] at hv
        cases hv
        exact ⟨_, rfl, k5.wipe.le (h1 a s b)⟩
      | true =>
        rw [eb] at hv
        obtain ⟨y, e2, hv⟩ := Option.bind_eq_some_iff.mp hv
        cases hv
        obtain ⟨w, r5, k6, k7, k8⟩ := hx a s b y e2 r4 k5
        cases k7
        show ∃ r', ((MP.ev C e r4).bind _) = _ ∧ _
        rw [k6]
        exact ⟨_, rfl, k8.wipe.le (h2 a s b y)⟩) (l u) (s0 u) z ez [] (wipes (locks r1 ws) own) ((g3.lock g5).wipe.le (h0 u))
    obtain ⟨r', g8, g9⟩ := lc_end g1 g4 g3 g5 g6 g7
    exact ⟨_, r', g8, rfl, g9⟩
end
end MT

-- part Ty3
set_option maxHeartbeats 1000000
namespace MT
open MP
/-! ### lists that are changed -/
def isMt : Sp → Bool
  | .acc .free _ => true
  | .acc .fix _ => true
  | _ => false
def mtM : Md → Bool
  | .lck => false
  | _ => true
section
variable {α β γ σ τ ρ : Type}
def appO (l : List α) (a : α) : Option (List α) := if l.length < LIM then some (l ++ [a]) else none
def extO (l m : List α) : Option (List α) := if l.length + m.length ≤ LIM then some (l ++ m) else none
def popO (l : List α) (k : Int) : Option (α × List α) := (ixN l.length k).bind fun j => (l[j]?).map fun a => (a, l.eraseIdx j)
def popL (l : List α) : Option (α × List α) := l.getLast?.map fun a => (a, l.dropLast)
def setO (l : List α) (k : Int) (a : α) : Option (List α) := (ixN l.length k).map fun j => l.set j a
def getO (l : List α) (k : Int) : Option α := (ixN l.length k).bind fun j => l[j]?
end
section
variable {C : CallF} {ps : List Sp} {a b c e es v : E} {α β γ σ τ ρ : Type} {x : Option τ} {q : τ → List Sp} {i : Nat} {m : Md} {enc : α → D} {l : τ → List α}
theorem mut_is {r : Env} {γ : Type} {f : Md → List D → R γ} (h : Fit ps r) (e : isMt (gt ps i) = true) : ∃ m xs, gets r i = .acc m xs ∧ mutL r i f = f m xs := by
  cases eg : gt ps i with
  | any => rw [eg] at e; cases e
  | val d => rw [eg] at e; cases e
  | acc m xs =>
    rw [eg] at e
    refine ⟨m, xs, h.acc eg, ?_⟩
    unfold mutL
    rw [h.acc eg]
    cases m with
    | lck => cases e
    | free => rfl
    | fix => rfl
theorem mut_at {r : Env} {γ : Type} {f : Md → List D → R γ} {xs : List D} (h : Fit ps r) (e : gt ps i = .acc m xs) (hm : mtM m = true) : mutL r i f = f m xs := by
  unfold mutL
  rw [h.acc e]
  cases m with
  | lck => cases hm
  | free => rfl
  | fix => rfl
theorem ex_app {g : τ → α} (h : EX C ps e x (fun u => .d (enc (g u))) q) (h0 : isMt (gt ps i) = true) (h1 : ∀ u, gt (q u) i = .acc m ((l u).map enc)) (hm : mtM m = true) :
    EX C ps (.app i e) (x.bind fun u => (appO (l u) (g u)).bind fun c => some (c, u)) (fun _ => .d .non) (fun p => st (q p.2) i (.acc m (p.1.map enc))) := fun v ev r f => by
  obtain ⟨u, eu, ev⟩ := Option.bind_eq_some_iff.mp ev
  obtain ⟨c, ec, ev⟩ := Option.bind_eq_some_iff.mp ev
  cases ev
  obtain ⟨w, r1, g1, g2, g3⟩ := h u eu r f
  cases g2
  obtain ⟨_, _, _, k1⟩ := mut_is (r := r) (γ := W) (f := fun _ _ => (MP.ev C e r).bind fun x r1 => match x with
    | .val d => mutL r1 i fun m xs => if xs.length < LIM then .ok (.val .non) (sets r1 i (.acc m (xs ++ [d]))) else .no
    | _ => .no) f h0
  unfold appO at ec
  split at ec
  · rename_i hl
    cases ec
    refine ⟨_, sets r1 i (.acc m (((l u) ++ [g u]).map enc)), ?_, rfl, g3.set rfl⟩
    rw [MP.ev]
    refine Eq.trans k1 ?_
    rw [g1, R.bind_ok]
    dsimp only
    rw [mut_at g3 (h1 u) hm, List.length_map, if_pos hl, List.map_append]
    rfl
  · cases ec
theorem ex_ext {ks : τ → Wk} {l2 : τ → List α} (h : EX C ps e x ks q) (s : ∀ u, See (q u) (ks u) (.lst ((l2 u).map enc))) (h0 : isMt (gt ps i) = true) (h1 : ∀ u, gt (q u) i = .acc m ((l u).map enc)) (hm : mtM m = true) :
    EX C ps (.ext i e) (x.bind fun u => (extO (l u) (l2 u)).bind fun c => some (c, u)) (fun _ => .d .non) (fun p => st (q p.2) i (.acc m (p.1.map enc))) := fun v ev r f => by
  obtain ⟨u, eu, ev⟩ := Option.bind_eq_some_iff.mp ev
  obtain ⟨c, ec, ev⟩ := Option.bind_eq_some_iff.mp ev
  cases ev
  obtain ⟨w, r1, g1, g2, g3⟩ := h u eu r f
  obtain ⟨_, _, _, k1⟩ := mut_is (r := r) (γ := W) (f := fun _ _ => (MP.ev C e r).bind fun x r1 => vw r1 x fun d => match d with
    | .lst ys => mutL r1 i fun m xs => if xs.length + ys.length ≤ LIM then .ok (.val .non) (sets r1 i (.acc m (xs ++ ys))) else .no
    | _ => .no) f h0
  unfold extO at ec
  split at ec
  · rename_i hl
    cases ec
    refine ⟨_, sets r1 i (.acc m (((l u) ++ (l2 u)).map enc)), ?_, rfl, g3.set rfl⟩
    rw [MP.ev]
    refine Eq.trans k1 ?_
    rw [g1, R.bind_ok]
    unfold vw
    rw [(s u).view g3 g2]
    dsimp only
    rw [mut_at g3 (h1 u) hm, List.length_map, List.length_map, if_pos hl, List.map_append]
  · cases ec
theorem ex_popAt {n : τ → Int} (h : EX C ps e x (fun u => .d (.int (n u))) q) (h0 : isMt (gt ps i) = true) (h1 : ∀ u, gt (q u) i = .acc m ((l u).map enc)) (hm : mtM m = true) :
    EX C ps (.popAt i e) (x.bind fun u => (popO (l u) (n u)).bind fun c => some (c, u)) (fun p => .d (enc p.1.1)) (fun p => st (q p.2) i (.acc m (p.1.2.map enc))) := fun v ev r f => by
  obtain ⟨u, eu, ev⟩ := Option.bind_eq_some_iff.mp ev
  obtain ⟨c, ec, ev⟩ := Option.bind_eq_some_iff.mp ev
  cases ev
  obtain ⟨w, r1, g1, g2, g3⟩ := h u eu r f
  cases g2
  obtain ⟨_, _, _, k1⟩ := mut_is (r := r) (γ := W) (f := fun _ _ => (MP.ev C e r).bind fun x r1 => match x with
    | .val (.int k) => mutL r1 i fun m xs => match (ixN xs.length k).bind fun j => (xs[j]?).map fun d => (j, d) with
      | some (j, d) => .ok (.val d) (sets r1 i (.acc m (xs.eraseIdx j)))
      | none => .no
    | _ => .no) f h0
  unfold popO at ec
  obtain ⟨j, ej, ec⟩ := Option.bind_eq_some_iff.mp ec
  obtain ⟨d, ed, ec⟩ := Option.map_eq_some_iff.mp ec
  cases ec
  refine ⟨_, sets r1 i (.acc m (((l u).eraseIdx j).map enc)), ?_, rfl, g3.set rfl⟩
  rw [MP.ev]
  refine Eq.trans k1 ?_
  rw [g1, R.bind_ok]
  dsimp only
  rw [mut_at g3 (h1 u) hm, List.length_map, ej, Option.bind_some, List.getElem?_map, ed]
  dsimp only [Option.map]
  rw [ML.erase_map]
theorem ex_pop {l : List α} (h1 : gt ps i = .acc m (l.map enc)) (hm : mtM m = true) :
    EX C ps (.pop i) (popL l) (fun p => .d (enc p.1)) (fun p => st ps i (.acc m (p.2.map enc))) := fun v ev r f => by
  unfold popL at ev
  obtain ⟨d, ed, ev⟩ := Option.map_eq_some_iff.mp ev
  cases ev
  refine ⟨_, sets r i (.acc m (l.dropLast.map enc)), ?_, rfl, f.set rfl⟩
  rw [MP.ev, mut_at f h1 hm, List.getLast?_map, ed]
  dsimp only [Option.map]
  rw [List.map_dropLast]
end
/-! ### statements -/
def SN (C : CallF) (ps : List Sp) (s : S) {τ : Type} (x : Option τ) (q : τ → List Sp) : Prop := ∀ v, x = some v → ∀ r, Fit ps r → ∃ r', ex C s r = .ok .next r' ∧ Fit (q v) r'
/-- handed back; M: the parameters that are changed -/
def RetOk (k : Wk) (M : List (Nat × List D)) (w : W) (r : Env) : Prop := (∀ p ∈ M, gets r p.1 = .acc .fix p.2) ∧ ((∃ d, w = .val d ∧ k = .d d) ∨ (∃ xs, w = .own xs ∧ k = .o xs) ∨ ∃ i xs, w = .slot i ∧ gets r i = .acc .free xs ∧ k = .o xs)
def ST (C : CallF) (ps : List Sp) (s : S) {ρ : Type} (x : Option ρ) (k : ρ → Wk) (M : ρ → List (Nat × List D)) : Prop := ∀ v, x = some v → ∀ r, Fit ps r → ∃ w r', ex C s r = .ok (.ret w) r' ∧ RetOk (k v) (M v) w r'
inductive Fw (ρ σ τ : Type) where
  | ret (v : ρ)
  | brk (s : σ)
  | next (s : τ)
def FwOk {ρ σ τ : Type} (k : ρ → Wk) (M : ρ → List (Nat × List D)) (qb : σ → List Sp) (qn : τ → List Sp) : Fw ρ σ τ → Fl → Env → Prop
  | .ret v, .ret w, r => RetOk (k v) (M v) w r
  | .brk s, .brk, r => Fit (qb s) r
  | .next s, .next, r => Fit (qn s) r
  | _, _, _ => False
def SF (C : CallF) (ps : List Sp) (s : S) {ρ σ τ : Type} (x : Option (Fw ρ σ τ)) (k : ρ → Wk) (M : ρ → List (Nat × List D)) (qb : σ → List Sp) (qn : τ → List Sp) : Prop := ∀ f, x = some f → ∀ r, Fit ps r → ∃ fl r', ex C s r = .ok fl r' ∧ FwOk k M qb qn f fl r'
section
variable {C : CallF} {ps : List Sp} {e c : E} {a b s : S} {α β γ σ τ ρ σ' τ' : Type} {k : ρ → Wk} {M : ρ → List (Nat × List D)} {qb : σ → List Sp} {qn : τ → List Sp}
theorem SN.le {x : Option τ} {q : τ → List Sp} {I : σ → List Sp} (h : SN C ps s x q) (g : τ → σ) (hl : ∀ v, Le (q v) (I (g v))) : SN C ps s (x.bind fun v => some (g v)) I := fun v ev r f => by
  obtain ⟨u, eu, ev⟩ := Option.bind_eq_some_iff.mp ev
  cases ev
  obtain ⟨r', g1, g2⟩ := h u eu r f
  exact ⟨r', g1, g2.le (hl u)⟩
theorem sn_skip : SN C ps .skip (some ()) fun _ => ps := fun v ev r f => ⟨r, by rw [ex], f⟩
theorem sn_seq {x : Option τ} {q : τ → List Sp} {y : τ → Option σ} {q2 : σ → List Sp} (ha : SN C ps a x q) (hb : ∀ u, SN C (q u) b (y u) q2) : SN C ps (.seq a b) (x.bind y) q2 := fun v ev r f => by
  obtain ⟨u, eu, ev⟩ := Option.bind_eq_some_iff.mp ev
  obtain ⟨r1, g1, g2⟩ := ha u eu r f
  obtain ⟨r2, g3, g4⟩ := hb u v ev r1 g2
  exact ⟨r2, by rw [ex, g1, R.bind_ok]; exact g3, g4⟩
theorem st_seq {x : Option τ} {q : τ → List Sp} {y : τ → Option ρ} (ha : SN C ps a x q) (hb : ∀ u, ST C (q u) b (y u) k M) : ST C ps (.seq a b) (x.bind y) k M := fun v ev r f => by
  obtain ⟨u, eu, ev⟩ := Option.bind_eq_some_iff.mp ev
  obtain ⟨r1, g1, g2⟩ := ha u eu r f
  obtain ⟨w, r2, g3, g4⟩ := hb u v ev r1 g2
  exact ⟨w, r2, by rw [ex, g1, R.bind_ok]; exact g3, g4⟩
theorem sf_seq {x : Option τ'} {q : τ' → List Sp} {y : τ' → Option (Fw ρ σ τ)} (ha : SN C ps a x q) (hb : ∀ u, SF C (q u) b (y u) k M qb qn) : SF C ps (.seq a b) (x.bind y) k M qb qn := fun v ev r f => by
  obtain ⟨u, eu, ev⟩ := Option.bind_eq_some_iff.mp ev
  obtain ⟨r1, g1, g2⟩ := ha u eu r f
  obtain ⟨w, r2, g3, g4⟩ := hb u v ev r1 g2
  exact ⟨w, r2, by rw [ex, g1, R.bind_ok]; exact g3, g4⟩
/-- what stands behind a return is never run -/
theorem st_dead {x : Option ρ} (h : ST C ps a x k M) : ST C ps (.seq a b) x k M := fun v ev r f => by
  obtain ⟨w, r', g1, g2⟩ := h v ev r f
  exact ⟨w, r', by rw [ex, g1, R.bind_ok], g2⟩
theorem sf_st {x : Option ρ} (h : ST C ps a x k M) : SF C ps a (x.bind fun v => some (.ret v : Fw ρ σ τ)) k M qb qn := fun f ef r ft => by
  obtain ⟨v, ev, ef⟩ := Option.bind_eq_some_iff.mp ef
  cases ef
  obtain ⟨w, r', g1, g2⟩ := h v ev r ft
  exact ⟨_, r', g1, g2⟩
theorem sf_sn {x : Option τ} (h : SN C ps a x qn) : SF C ps a (x.bind fun v => some (.next v : Fw ρ σ τ)) k M qb qn := fun f ef r ft => by
  obtain ⟨v, ev, ef⟩ := Option.bind_eq_some_iff.mp ef
  cases ef
  obtain ⟨r', g1, g2⟩ := h v ev r ft
  exact ⟨_, r', g1, g2⟩
theorem sf_brk (s : σ) (h : Le ps (qb s)) : SF C ps (.seq .brk b) (some (.brk s : Fw ρ σ τ)) k M qb qn := fun f ef r ft => by
  cases ef
  exact ⟨.brk, r, by rw [ex, ex]; rfl, ft.le h⟩
def thnO : Fw ρ σ τ → (τ → Option (Fw ρ σ τ')) → Option (Fw ρ σ τ')
  | .ret v, _ => some (.ret v)
  | .brk s, _ => some (.brk s)
  | .next s, y => y s
def thnR {ε : Type} : Fw ρ ε τ → (τ → Option ρ) → Option ρ
  | .ret v, _ => some v
  | .brk _, _ => none
  | .next s, y => y s
theorem sf_seqF {x : Option (Fw ρ σ τ')} {q : τ' → List Sp} {y : τ' → Option (Fw ρ σ τ)} (ha : SF C ps a x k M qb q) (hb : ∀ u, SF C (q u) b (y u) k M qb qn) : SF C ps (.seq a b) (x.bind fun f => thnO f y) k M qb qn := fun v ev r f => by
  obtain ⟨u, eu, ev⟩ := Option.bind_eq_some_iff.mp ev
  obtain ⟨fl, r1, g1, g2⟩ := ha u eu r f
  rw [ex, g1, R.bind_ok]
  cases u with
  | ret u =>
    cases ev
    cases fl with
    | ret w => exact ⟨_, _, rfl, g2⟩
    | next => exact g2.elim
    | brk => exact g2.elim
  | brk u =>
    cases ev
    cases fl with
    | ret w => exact g2.elim
    | next => exact g2.elim
    | brk => exact ⟨_, _, rfl, g2⟩
  | next u =>
    cases fl with
    | ret w => exact g2.elim
    | next => exact hb u v ev r1 g2
    | brk => exact g2.elim
theorem st_seqF {x : Option (Fw ρ σ τ)} {y : τ → Option ρ} (ha : SF C ps a x k M qb qn) (hb : ∀ u, ST C (qn u) b (y u) k M) : ST C ps (.seq a b) (x.bind fun f => thnR f y) k M := fun v ev r f => by
  obtain ⟨u, eu, ev⟩ := Option.bind_eq_some_iff.mp ev
  obtain ⟨fl, r1, g1, g2⟩ := ha u eu r f
  rw [ex, g1, R.bind_ok]
  cases u with
  | ret u =>
    cases ev
    cases fl with
    | ret w => exact ⟨_, _, rfl, g2⟩
    | next => exact g2.elim
    | brk => exact g2.elim
  | brk u => cases ev
  | next u =>
    cases fl with
    | ret w => exact g2.elim
    | next => exact hb u v ev r1 g2
    | brk => exact g2.elim
/-! if -/
theorem ite_ex {x : Option τ} {d : τ → Bool} {q : τ → List Sp} (h : EX C ps c x (fun u => .d (.bl (d u))) q) {u : τ} (eu : x = some u) {r : Env} (f : Fit ps r) : ∃ r1, (∀ a b, ex C (.ite c a b) r = bif d u then ex C a r1 else ex C b r1) ∧ Fit (q u) r1 := by
  obtain ⟨w, r1, g1, g2, g3⟩ := h u eu r f
  cases g2
  refine ⟨r1, fun a b => ?_, g3⟩
  rw [ex]
  unfold test
  rw [g1]
  cases d u <;> rfl
theorem sn_ite {x : Option τ} {d : τ → Bool} {q : τ → List Sp} {y z : τ → Option σ} {I : σ → List Sp} (h : EX C ps c x (fun u => .d (.bl (d u))) q) (ha : ∀ u, SN C (q u) a (y u) I) (hb : ∀ u, SN C (q u) b (z u) I) : SN C ps (.ite c a b) (x.bind fun u => bif d u then y u else z u) I := fun v ev r f => by
  obtain ⟨u, eu, ev⟩ := Option.bind_eq_some_iff.mp ev
  obtain ⟨r1, g1, g2⟩ := ite_ex h eu f
  rw [g1]
  cases hd : d u with
  | true => rw [hd] at ev; exact ha u v ev r1 g2
  | false => rw [hd] at ev; exact hb u v ev r1 g2
theorem st_ite {x : Option τ} {d : τ → Bool} {q : τ → List Sp} {y z : τ → Option ρ} (h : EX C ps c x (fun u => .d (.bl (d u))) q) (ha : ∀ u, ST C (q u) a (y u) k M) (hb : ∀ u, ST C (q u) b (z u) k M) : ST C ps (.ite c a b) (x.bind fun u => bif d u then y u else z u) k M := fun v ev r f => by
  obtain ⟨u, eu, ev⟩ := Option.bind_eq_some_iff.mp ev
  obtain ⟨r1, g1, g2⟩ := ite_ex h eu f
  rw [g1]
  cases hd : d u with
  | true => rw [hd] at ev; exact ha u v ev r1 g2
  | false => rw [hd] at ev; exact hb u v ev r1 g2
theorem sf_ite {x : Option τ'} {d : τ' → Bool} {q : τ' → List Sp} {y z : τ' → Option (Fw ρ σ τ)} (h : EX C ps c x (fun u => .d (.bl (d u))) q) (ha : ∀ u, SF C (q u) a (y u) k M qb qn) (hb : ∀ u, SF C (q u) b (z u) k M qb qn) : SF C ps (.ite c a b) (x.bind fun u => bif d u then y u else z u) k M qb qn := fun v ev r f => by
  obtain ⟨u, eu, ev⟩ := Option.bind_eq_some_iff.mp ev
  obtain ⟨r1, g1, g2⟩ := ite_ex h eu f
  rw [g1]
  cases hd : d u with
  | true => rw [hd] at ev; exact ha u v ev r1 g2
  | false => rw [hd] at ev; exact hb u v ev r1 g2
/-- what follows, pushed into both ways -/
theorem st_push {x : Option τ} {d : τ → Bool} {q : τ → List Sp} {y z : τ → Option ρ} (h : EX C ps c x (fun u => .d (.bl (d u))) q) (ha : ∀ u, ST C (q u) (.seq a s) (y u) k M) (hb : ∀ u, ST C (q u) (.seq b s) (z u) k M) : ST C ps (.seq (.ite c a b) s) (x.bind fun u => bif d u then y u else z u) k M := fun v ev r f => by
  obtain ⟨u, eu, ev⟩ := Option.bind_eq_some_iff.mp ev
  obtain ⟨r1, g1, g2⟩ := ite_ex h eu f
  rw [ex, g1]
  cases hd : d u with
  | true =>
    rw [hd] at ev
    obtain ⟨w, r', k1, k2⟩ := ha u v ev r1 g2
    rw [ex] at k1
    exact ⟨w, r', k1, k2⟩
  | false =>
    rw [hd] at ev
    obtain ⟨w, r', k1, k2⟩ := hb u v ev r1 g2
    rw [ex] at k1
    exact ⟨w, r', k1, k2⟩
theorem sf_push {x : Option τ'} {d : τ' → Bool} {q : τ' → List Sp} {y z : τ' → Option (Fw ρ σ τ)} (h : EX C ps c x (fun u => .d (.bl (d u))) q) (ha : ∀ u, SF C (q u) (.seq a s) (y u) k M qb qn) (hb : ∀ u, SF C (q u) (.seq b s) (z u) k M qb qn) : SF C ps (.seq (.ite c a b) s) (x.bind fun u => bif d u then y u else z u) k M qb qn := fun v ev r f => by
  obtain ⟨u, eu, ev⟩ := Option.bind_eq_some_iff.mp ev
  obtain ⟨r1, g1, g2⟩ := ite_ex h eu f
  rw [ex, g1]
  cases hd : d u with
  | true =>
    rw [hd] at ev
    obtain ⟨w, r', k1, k2⟩ := ha u v ev r1 g2
    rw [ex] at k1
    exact ⟨w, r', k1, k2⟩
  | false =>
    rw [hd] at ev
    obtain ⟨w, r', k1, k2⟩ := hb u v ev r1 g2
    rw [ex] at k1
    exact ⟨w, r', k1, k2⟩
/-! stores -/
def asn1 : Wk → Sp
  | .d x => .val x
  | .o xs => .acc .free xs
  | .v _ _ => .any
def okS (ps : List Sp) (i : Nat) : Bool := Nat.blt i ps.length && unh (gt ps i)
theorem putW_is {w : W} {k : Wk} {i : Nat} {r : Env} (f : Fit ps r) (h : k.Is w) (n : NoV k) (o : okS ps i = true) : ∃ r', putW r i w = .ok () r' ∧ Fit (st ps i (asn1 k)) r' := by
  unfold okS at o
  rw [Bool.and_eq_true] at o
  have hi : i < ps.length := Nat.le_of_ble_eq_true o.1
  cases k with
  | d x =>
    cases h
    obtain ⟨g1, g2⟩ := f.put (p := .val x) (s := .val x) rfl hi o.2
    exact ⟨_, by rw [putW, g1]; rfl, g2⟩
  | o xs =>
    cases h
    obtain ⟨g1, g2⟩ := f.put (p := .acc .free xs) (s := .acc .free xs) rfl hi o.2
    exact ⟨_, by rw [putW, g1]; rfl, g2⟩
  | v _ _ => exact n.elim
theorem sn_asn {x : Option τ} {q : τ → List Sp} {ke : τ → Wk} {i : Nat} (h : EX C ps e x ke q) (hk : ∀ u, NoV (ke u)) (ho : ∀ u, okS (q u) i = true) : SN C ps (.asn (.nm i) e) x fun u => st (q u) i (asn1 (ke u)) := fun v ev r f => by
  obtain ⟨w, r1, g1, g2, g3⟩ := h v ev r f
  obtain ⟨r2, g4, g5⟩ := putW_is g3 g2 (hk v) (ho v)
  exact ⟨r2, by rw [ex, g1, R.bind_ok]; dsimp only; rw [g4]; rfl, g5⟩
theorem sn_asnT {x : Option τ} {q qs : τ → List Sp} {ke : τ → Wk} {t : Tg} {d : τ → D} (h : EX C ps e x ke q) (s : ∀ u, See (q u) (ke u) (d u)) (ha : ∀ u, asgS (.tp t) (d u) (q u) = some (qs u)) : SN C ps (.asn (.tp t) e) x qs := fun v ev r f => by
  obtain ⟨w, r1, g1, g2, g3⟩ := h v ev r f
  obtain ⟨r2, g4, g5⟩ := Fit.asg g3 (ha v)
  refine ⟨r2, ?_, g5⟩
  rw [ex, g1, R.bind_ok]
  dsimp only
  unfold vw
  rw [(s v).view g3 g2]
  dsimp only
  have h2 := ha v
  cases hd : d v with
  | tup ds => rw [hd] at g4; dsimp only; rw [g4]; rfl
  | _ => rw [hd] at h2; simp [asgS] at h2
theorem sn_asnL {i j : Nat} {xs : List D} (h : gt ps j = .acc .free xs) (ho : okS (st ps j (.val (.lst xs))) i = true) : SN C ps (.asn (.nm i) (.var j)) (some ()) fun _ => st (st ps j (.val (.lst xs))) i (.val (.lst xs)) := fun v ev r f => by
  have g := f.acc h
  have f2 : Fit (st ps j (.val (.lst xs))) (sets r j (.val (.lst xs))) := f.set rfl
  unfold okS at ho
  rw [Bool.and_eq_true] at ho
  obtain ⟨g1, g2⟩ := f2.put (p := .val (.lst xs)) (s := .val (.lst xs)) rfl (Nat.le_of_ble_eq_true ho.1) ho.2
  refine ⟨_, ?_, g2⟩
  rw [ex, MP.ev, g, R.bind_ok]
  dsimp only
  rw [putW]
  unfold MP.take
  dsimp only
  rw [g]
  dsimp only
  rw [R.bind_ok, g1]
  rfl
theorem sn_expr {x : Option τ} {q : τ → List Sp} {ke : τ → Wk} (h : EX C ps e x ke q) : SN C ps (.expr e) x q := fun v ev r f => by
  obtain ⟨w, r1, g1, g2, g3⟩ := h v ev r f
  exact ⟨r1, by rw [ex, g1, R.bind_ok], g3⟩
def noVs : List Wk → Bool
  | [] => true
  | .v _ _ :: _ => false
  | _ :: ks => noVs ks
def parS : Tg → List Wk → List Sp → Option (List Sp)
  | .nil, [], ps => some ps
  | .cons (.nm i) ts, .d x :: ks, ps => if okS ps i then parS ts ks (st ps i (.val x)) else none
  | .cons (.nm i) ts, .o x :: ks, ps => if okS ps i then parS ts ks (st ps i (.acc .free x)) else none
  | _, _, _ => none
theorem par_slots : ∀ {t : Tg} {ks : List Wk} {ps qs : List Sp}, parS t ks ps = some qs → slW ks = []
  | _, [], _, _, _ => rfl
  | .cons (.nm i) ts, .d x :: ks, ps, qs, h => by
    rw [parS] at h
    split at h
    · exact par_slots (ks := ks) h
    · cases h
  | .cons (.nm i) ts, .o x :: ks, ps, qs, h => by
    rw [parS] at h
    split at h
    · exact par_slots (ks := ks) h
    · cases h
  | .cons (.nm i) ts, .v _ _ :: ks, ps, qs, h => by simp [parS] at h
  | .nil, _ :: _, _, _, h => by simp [parS] at h
  | .nm _, _ :: _, _, _, h => by simp [parS] at h
  | .tp _, _ :: _, _, _, h => by simp [parS] at h
  | .cons .nil _, _ :: _, _, _, h => by simp [parS] at h
  | .cons (.tp _) _, _ :: _, _, _, h => by simp [parS] at h
  | .cons (.cons _ _) _, _ :: _, _, _, h => by simp [parS] at h
theorem par_is : ∀ {t : Tg} {ks : List Wk} {ws : List W} {ps qs : List Sp} {r : Env}, parS t ks ps = some qs → Iss ks ws → Fit ps r → ∃ r', putWs t ws r = .ok () r' ∧ Fit qs r'
  | .nil, [], [], ps, qs, r, h, _, f => by
    rw [parS] at h
    cases h
    exact ⟨r, by rw [putWs], f⟩
  | _, [], _ :: _, _, _, _, _, h, _ => h.elim
  | _, _ :: _, [], _, _, _, _, h, _ => h.elim
  | .cons (.nm i) ts, .d x :: ks, w :: ws, ps, qs, r, h, hi, f => by
    rw [parS] at h
    split at h
    · rename_i o
      obtain ⟨r1, g1, g2⟩ := putW_is f hi.1 trivial o
      obtain ⟨r2, g3, g4⟩ := par_is h hi.2 g2
      refine ⟨r2, ?_, g4⟩
      rw [putWs, hi.2.slots, par_slots h]
      show (putW r i w).bind _ = _
      rw [g1]
      exact g3
    · cases h
  | .cons (.nm i) ts, .o x :: ks, w :: ws, ps, qs, r, h, hi, f => by
    rw [parS] at h
    split at h
    · rename_i o
      obtain ⟨r1, g1, g2⟩ := putW_is f hi.1 trivial o
      obtain ⟨r2, g3, g4⟩ := par_is h hi.2 g2
      refine ⟨r2, ?_, g4⟩
      rw [putWs, hi.2.slots, par_slots h]
      show (putW r i w).bind _ = _
      rw [g1]
      exact g3
    · cases h
  | .cons (.nm i) ts, .v _ _ :: ks, _, ps, qs, r, h, _, _ => by simp [parS] at h
  | .nil, _ :: _, _, _, _, _, h, _, _ => by simp [parS] at h
  | .nm _, ks, _, _, _, _, h, _, _ => by cases ks <;> simp [parS] at h
  | .tp _, ks, _, _, _, _, h, _, _ => by cases ks <;> simp [parS] at h
  | .cons a _, [], _, _, _, _, h, _, _ => by simp [parS] at h
  | .cons .nil _, _ :: _, _, _, _, _, h, _, _ => by simp [parS] at h
  | .cons (.tp _) _, _ :: _, _, _, _, _, h, _, _ => by simp [parS] at h
  | .cons (.cons _ _) _, _ :: _, _, _, _, _, h, _, _ => by simp [parS] at h
theorem sn_par {es : E} {x : Option τ} {q qs : τ → List Sp} {ks : τ → List Wk} {t : Tg} (h : EXs C ps es x ks q) (ha : ∀ u, parS t (ks u) (q u) = some (qs u)) : SN C ps (.par t es) x qs := fun v ev r f => by
  obtain ⟨ws, r1, g1, g2, g3⟩ := h v ev r f
  obtain ⟨r2, g4, g5⟩ := par_is (ha v) g2 g3
  exact ⟨r2, by rw [ex, g1, R.bind_ok, g4]; rfl, g5⟩
theorem sn_setix {v : E} {i : Nat} {m : Md} {enc : α → D} {x : Option τ} {g : τ → α} {q : τ → List Sp} {y : τ → Option γ} {n : τ → γ → Int} {qe : τ → γ → List Sp} {l : τ → γ → List α} (hv : EX C ps v x (fun u => .d (enc (g u))) q) (h0 : ∀ u, isMt (gt (q u) i) = true) (he : ∀ u, EX C (q u) e (y u) (fun w => .d (.int (n u w))) (qe u))
    (h1 : ∀ u w, gt (qe u w) i = .acc m ((l u w).map enc)) (hm : mtM m = true) : SN C ps (.setix i e v) (x.bind fun u => (y u).bind fun w => (setO (l u w) (n u w) (g u)).bind fun c => some (c, u, w)) (fun p => st (qe p.2.1 p.2.2) i (.acc m (p.1.map enc))) := fun v' ev r f => by
  obtain ⟨u, eu, ev⟩ := Option.bind_eq_some_iff.mp ev
  obtain ⟨w, ew, ev⟩ := Option.bind_eq_some_iff.mp ev
  obtain ⟨c, ec, ev⟩ := Option.bind_eq_some_iff.mp ev
  cases ev
  obtain ⟨w1, r1, g1, g2, g3⟩ := hv u eu r f
  cases g2
  obtain ⟨w2, r2, g4, g5, g6⟩ := he u w ew r1 g3
  cases g5
  unfold setO at ec
  obtain ⟨j, ej, ec⟩ := Option.map_eq_some_iff.mp ec
  cases ec
  refine ⟨sets r2 i (.acc m (((l u w).set j (g u)).map enc)), ?_, g6.set rfl⟩
  rw [ex, g1, R.bind_ok]
  obtain ⟨_, _, _, k1⟩ := mut_is (r := r1) (i := i) (γ := Fl) (f := fun _ _ => (MP.ev C e r1).bind fun y r2 => match (W.val (enc (g u))), y with
    | .val d, .val (.int k) => mutL r2 i fun m xs => match ixN xs.length k with
      | some j => R.ok Fl.next (sets r2 i (.acc m (xs.set j d)))
      | none => .no
    | _, _ => .no) g3 (h0 u)
  refine Eq.trans k1 ?_
  rw [g4, R.bind_ok]
  dsimp only
  rw [mut_at g6 (h1 u w) hm, List.length_map, ej]
  dsimp only
  rw [List.map_set]
/-! handed back -/
def MO (ps : List Sp) (M : List (Nat × List D)) : Prop := ∀ p ∈ M, gt ps p.1 = .acc .fix p.2
theorem MO.nil : MO ps [] := fun _ h => nomatch h
theorem MO.cons {i : Nat} {xs : List D} {M : List (Nat × List D)} (h : gt ps i = .acc .fix xs) (hM : MO ps M) : MO ps ((i, xs) :: M) := fun p hp => by
  rcases List.mem_cons.mp hp with e | hp
  · subst e; exact h
  · exact hM p hp
theorem st_ret {x : Option τ} {q : τ → List Sp} {ke : τ → Wk} (f : τ → ρ) (h : EX C ps e x ke q) (hn : ∀ u, NoV (ke u)) (hk : ∀ u, ke u = k (f u)) (hM : ∀ u, MO (q u) (M (f u))) : ST C ps (.ret e) (x.bind fun u => some (f u)) k M := fun v ev r ft => by
  obtain ⟨u, eu, ev⟩ := Option.bind_eq_some_iff.mp ev
  cases ev
  obtain ⟨w, r1, g1, g2, g3⟩ := h u eu r ft
  refine ⟨w, r1, by rw [ex, g1, R.bind_ok], fun p hp => g3.acc (hM u p hp), ?_⟩
  have hn := hn u
  have hk := hk u
  cases hke : ke u with
  | d d => rw [hke] at g2 hk; exact .inl ⟨_, g2, hk.symm⟩
  | o xs => rw [hke] at g2 hk; exact .inr (.inl ⟨_, g2, hk.symm⟩)
  | v _ _ => rw [hke] at hn; exact hn.elim
theorem st_retL {i : Nat} {xs : List D} (v : ρ) (h : gt ps i = .acc .free xs) (hk : k v = .o xs) (hM : MO ps (M v)) : ST C ps (.ret (.var i)) (some v) k M := fun v' e r f => by
  cases e
  exact ⟨.slot i, r, by rw [ex, MP.ev, f.acc h, R.bind_ok], fun p hp => f.acc (hM p hp), .inr (.inr ⟨i, xs, rfl, f.acc h, hk⟩)⟩
theorem st_retn (v : ρ) (hk : k v = .d .non) (hM : MO ps (M v)) : ST C ps .retn (some v) k M := fun v' e r f => by
  cases e
  exact ⟨.val .non, r, by rw [ex], fun p hp => f.acc (hM p hp), .inl ⟨_, rfl, hk⟩⟩
end
end MT

-- part Ty4
set_option maxHeartbeats 1000000
namespace MT
open MP
/-! ### loops -/
section
variable {α σ ρ τ ε : Type}
def foldO (f : α → σ → Option σ) : List α → σ → Option σ
  | [], s => some s
  | a :: l, s => (f a s).bind fun s' => foldO f l s'
def forO (f : α → σ → Option (Fw ρ σ σ)) : List α → σ → Option (Fw ρ ε σ)
  | [], s => some (.next s)
  | a :: l, s => (f a s).bind fun
    | .ret v => some (.ret v)
    | .brk s' => some (.next s')
    | .next s' => forO f l s'
/-- c: whether to go on, and what is known then -/
def whO (c : σ → Option τ) (b : τ → Bool) (out : τ → σ) (f : τ → Option σ) : Nat → σ → Option σ
  | 0, _ => none
  | n + 1, s => (c s).bind fun u => bif b u then (f u).bind fun s' => whO c b out f n s' else some (out u)
def whF (c : σ → Option τ) (b : τ → Bool) (out : τ → σ) (f : τ → Option (Fw ρ σ σ)) : Nat → σ → Option (Fw ρ ε σ)
  | 0, _ => none
  | n + 1, s => (c s).bind fun u => bif b u then (f u).bind fun
    | .ret v => some (.ret v)
    | .brk s' => some (.next s')
    | .next s' => whF c b out f n s' else some (.next (out u))
end
theorem unlocks_keep {r0 r : Env} {ws : List W} {j : Nat} {s : Sl} (h : gets r j = s) (n : ∀ xs, s ≠ .acc .lck xs) : gets (unlocks r0 r ws) j = s := by
  rcases unlocks_at (r0 := r0) (ws := ws) (r := r) j with e | ⟨m, ys, xs, _, _, e, _⟩
  · rw [e]; exact h
  · rw [h] at e; exact (n xs e).elim
theorem RetOk.unlock {k : Wk} {M : List (Nat × List D)} {w : W} {r0 r : Env} {ws : List W} (h : RetOk k M w r) : RetOk k M w (unlocks r0 r ws) := by
  refine ⟨fun p hp => unlocks_keep (h.1 p hp) (fun xs z => by cases z), ?_⟩
  rcases h.2 with h | h | ⟨i, xs, h1, h2, h3⟩
  · exact .inl h
  · exact .inr (.inl h)
  · exact .inr (.inr ⟨i, xs, h1, unlocks_keep h2 fun xs z => (nomatch z), h3⟩)
section
variable {C : CallF} {ps : List Sp} {e c es : E} {a b s : S} {α β γ σ τ ρ ε : Type} {k : ρ → Wk} {M : ρ → List (Nat × List D)}
theorem forL_run {t : Tg} {enc : α → D} {I : σ → List Sp} {bs : α → σ → List Sp} {f : α → σ → Option (Fw ρ σ σ)} (ha : ∀ a s, asgS t (enc a) (I s) = some (bs a s)) (hb : ∀ a s, SF C (bs a s) b (f a s) k M I I) :
    ∀ (l : List α) (s : σ) (v : Fw ρ ε σ), forO f l s = some v → ∀ r, Fit (I s) r → ∃ fl r', forL (ML.frS C t b) (l.map enc) r = .ok fl r' ∧ FwOk k M (fun _ => []) I v fl r'
  | [], s, v, e, r, ft => by
    cases e
    exact ⟨.next, r, by rw [List.map_nil, forL], ft⟩
  | a :: l, s, v, e, r, ft => by
    rw [forO] at e
    obtain ⟨u, eu, e⟩ := Option.bind_eq_some_iff.mp e
    obtain ⟨r1, g1, g2⟩ := Fit.asg ft (ha a s)
    obtain ⟨fl, r2, g3, g4⟩ := hb a s u eu r1 g2
    rw [List.map_cons, forL]
    unfold ML.frS
    rw [g1]
    dsimp only
    rw [g3, R.bind_ok]
    cases u with
    | ret u =>
      cases e
      cases fl with
      | ret w => exact ⟨_, _, rfl, g4⟩
      | next => exact g4.elim
      | brk => exact g4.elim
    | brk u =>
      cases e
      cases fl with
      | ret w => exact g4.elim
      | next => exact g4.elim
      | brk => exact ⟨_, _, rfl, g4⟩
    | next u =>
      cases fl with
      | ret w => exact g4.elim
      | brk => exact g4.elim
      | next => exact forL_run ha hb l u v e r2 g4
theorem foldL_run {t : Tg} {enc : α → D} {I : σ → List Sp} {bs : α → σ → List Sp} {f : α → σ → Option σ} (ha : ∀ a s, asgS t (enc a) (I s) = some (bs a s)) (hb : ∀ a s, SN C (bs a s) b (f a s) I) :
    ∀ (l : List α) (s v : σ), foldO f l s = some v → ∀ r, Fit (I s) r → ∃ r', forL (ML.frS C t b) (l.map enc) r = .ok .next r' ∧ Fit (I v) r'
  | [], s, v, e, r, ft => by
    cases e
    exact ⟨r, by rw [List.map_nil, forL], ft⟩
  | a :: l, s, v, e, r, ft => by
    rw [foldO] at e
    obtain ⟨u, eu, e⟩ := Option.bind_eq_some_iff.mp e
    obtain ⟨r1, g1, g2⟩ := Fit.asg ft (ha a s)
    obtain ⟨r2, g3, g4⟩ := hb a s u eu r1 g2
    rw [List.map_cons, forL]
    unfold ML.frS
    rw [g1]
    dsimp only
    rw [g3, R.bind_ok]
    exact foldL_run ha hb l u v e r2 g4
/-- a for that goes through -/
theorem sn_for {t : Tg} {ik : Ik} {sl : List Nat} {x : Option τ} {l : τ → List α} {enc : α → D} {q : τ → List Sp} {bs : α → σ → List Sp} {f : α → σ → Option σ} (I J : σ → List Sp) (s0 : τ → σ) (hi : IX C ps ik es x l enc sl q) (h0 : ∀ u, Le (lockS (q u) sl) (I (s0 u)))
    (ha : ∀ a s, asgS t (enc a) (I s) = some (bs a s)) (hb : ∀ a s, SN C (bs a s) b (f a s) I) (hq : ∀ u s, Le (unlockS (q u) (I s) sl) (J s)) : SN C ps (.for_ t ik es b) (x.bind fun u => foldO f (l u) (s0 u)) J := fun v ev r ft => by
  obtain ⟨u, eu, ev⟩ := Option.bind_eq_some_iff.mp ev
  obtain ⟨ws, r1, g1, rfl, g3, g4, g5⟩ := hi u eu r ft
  obtain ⟨r2, g6, g7⟩ := foldL_run ha hb (l u) (s0 u) v ev _ ((g3.lock g5).le (h0 u))
  refine ⟨unlocks r1 r2 ws, ?_, (Fit.unlock g3 g7 g5).le (hq u v)⟩
  rw [ML.ex_for, g1, R.bind_ok, g4]
  dsimp only
  rw [g6]
  rfl
theorem sf_for {t : Tg} {ik : Ik} {sl : List Nat} {x : Option τ} {l : τ → List α} {enc : α → D} {q : τ → List Sp} {bs : α → σ → List Sp} {f : α → σ → Option (Fw ρ σ σ)} {qb : ε → List Sp} (I J : σ → List Sp) (s0 : τ → σ) (hi : IX C ps ik es x l enc sl q) (h0 : ∀ u, Le (lockS (q u) sl) (I (s0 u)))
    (ha : ∀ a s, asgS t (enc a) (I s) = some (bs a s)) (hb : ∀ a s, SF C (bs a s) b (f a s) k M I I) (hq : ∀ u s, Le (unlockS (q u) (I s) sl) (J s)) : SF C ps (.for_ t ik es b) (x.bind fun u => forO f (l u) (s0 u)) k M qb J := fun v ev r ft => by
  obtain ⟨u, eu, ev⟩ := Option.bind_eq_some_iff.mp ev
  obtain ⟨ws, r1, g1, rfl, g3, g4, g5⟩ := hi u eu r ft
  obtain ⟨fl, r2, g6, g7⟩ := forL_run (ε := ε) ha hb (l u) (s0 u) v ev _ ((g3.lock g5).le (h0 u))
  refine ⟨fl, unlocks r1 r2 ws, ?_, ?_⟩
  · rw [ML.ex_for, g1, R.bind_ok, g4]
    dsimp only
    rw [g6]
    rfl
  · cases v with
    | ret v =>
      cases fl with
      | ret w => exact RetOk.unlock g7
      | next => exact g7.elim
      | brk => exact g7.elim
    | brk v =>
      cases fl with
      | ret w => exact g7.elim
      | next => exact g7.elim
      | brk =>
        have h : ∀ (l : List α) (s : σ), forO (ε := ε) f l s ≠ some (.brk v) := fun l => by
          induction l with
          | nil => intro s z; cases z
          | cons a l ih =>
            intro s z
            rw [forO] at z
            obtain ⟨u, eu, z⟩ := Option.bind_eq_some_iff.mp z
            cases u with
            | ret _ => cases z
            | brk _ => cases z
            | next s' => exact ih s' z
        exact (h _ _ ev).elim
    | next v =>
      cases fl with
      | ret w => exact g7.elim
      | brk => exact g7.elim
      | next => exact (Fit.unlock g3 g7 g5).le (hq u v)
theorem wh_run {I : σ → List Sp} {cx : σ → Option τ} {vb : τ → Bool} {q : τ → List Sp} {out : τ → σ} {f : τ → Option σ} (hc : ∀ s, EX C (I s) c (cx s) (fun u => .d (.bl (vb u))) q) (ho : ∀ u, Le (q u) (I (out u))) (hb : ∀ u, SN C (q u) b (f u) I) :
    ∀ (n : Nat) (s v : σ), whO cx vb out f n s = some v → ∀ r, Fit (I s) r → ∃ r', whL (test C c) (ex C b) n r = .ok .next r' ∧ Fit (I v) r'
  | 0, s, v, e, r, ft => by cases e
  | n + 1, s, v, e, r, ft => by
    rw [whO] at e
    obtain ⟨u, eu, e⟩ := Option.bind_eq_some_iff.mp e
    obtain ⟨w, r1, g1, g2, g3⟩ := hc s u eu r ft
    cases g2
    rw [whL]
    unfold test
    rw [g1, R.bind_ok]
    cases hd : vb u with
    | false =>
      rw [hd] at e
      cases e
      exact ⟨r1, rfl, g3.le (ho u)⟩
    | true =>
      rw [hd] at e
      obtain ⟨s', es, e⟩ := Option.bind_eq_some_iff.mp e
      obtain ⟨r2, g4, g5⟩ := hb u s' es r1 g3
      obtain ⟨r3, g6, g7⟩ := wh_run hc ho hb n s' v e r2 g5
      refine ⟨r3, ?_, g7⟩
      show ((asB (.val (.bl true)) r1).bind _) = _
      show ((ex C b r1).bind _) = _
      rw [g4, R.bind_ok]
      exact g6
theorem sn_wh {cx : σ → Option τ} {vb : τ → Bool} {q : τ → List Sp} {f : τ → Option σ} (I : σ → List Sp) (s0 : σ) (out : τ → σ) (h0 : Le ps (I s0)) (hc : ∀ s, EX C (I s) c (cx s) (fun u => .d (.bl (vb u))) q) (ho : ∀ u, Le (q u) (I (out u))) (hb : ∀ u, SN C (q u) b (f u) I) :
    SN C ps (.wh c b) (whO cx vb out f WN s0) I := fun v ev r ft => by
  obtain ⟨r', g1, g2⟩ := wh_run hc ho hb WN s0 v ev r (ft.le h0)
  exact ⟨r', by rw [ex]; exact g1, g2⟩
theorem whF_run {I : σ → List Sp} {cx : σ → Option τ} {vb : τ → Bool} {q : τ → List Sp} {out : τ → σ} {f : τ → Option (Fw ρ σ σ)} {qb : ε → List Sp} (hc : ∀ s, EX C (I s) c (cx s) (fun u => .d (.bl (vb u))) q) (ho : ∀ u, Le (q u) (I (out u))) (hb : ∀ u, SF C (q u) b (f u) k M I I) :
    ∀ (n : Nat) (s : σ) (v : Fw ρ ε σ), whF cx vb out f n s = some v → ∀ r, Fit (I s) r → ∃ fl r', whL (test C c) (ex C b) n r = .ok fl r' ∧ FwOk k M qb I v fl r'
  | 0, s, v, e, r, ft => by cases e
  | n + 1, s, v, e, r, ft => by
    rw [whF] at e
    obtain ⟨u, eu, e⟩ := Option.bind_eq_some_iff.mp e
    obtain ⟨w, r1, g1, g2, g3⟩ := hc s u eu r ft
    cases g2
    rw [whL]
    unfold test
    rw [g1, R.bind_ok]
    cases hd : vb u with
    | false =>
      rw [hd] at e
      cases e
      exact ⟨.next, r1, rfl, g3.le (ho u)⟩
    | true =>
      rw [hd] at e
      obtain ⟨s', es, e⟩ := Option.bind_eq_some_iff.mp e
      obtain ⟨fl, r2, g4, g5⟩ := hb u s' es r1 g3
      show ∃ fl r', ((ex C b r1).bind _) = _ ∧ _
      rw [g4, R.bind_ok]
      cases s' with
      | ret s' =>
        cases e
        cases fl with
        | ret w => exact ⟨_, _, rfl, g5⟩
        | next => exact g5.elim
        | brk => exact g5.elim
      | brk s' =>
        cases e
        cases fl with
        | ret w => exact g5.elim
        | next => exact g5.elim
        | brk => exact ⟨_, _, rfl, g5⟩
      | next s' =>
        cases fl with
        | ret w => exact g5.elim
        | brk => exact g5.elim
        | next => exact whF_run hc ho hb n s' v e r2 g5
theorem sf_wh {cx : σ → Option τ} {vb : τ → Bool} {q : τ → List Sp} {f : τ → Option (Fw ρ σ σ)} {qb : ε → List Sp} (I : σ → List Sp) (s0 : σ) (out : τ → σ) (h0 : Le ps (I s0)) (hc : ∀ s, EX C (I s) c (cx s) (fun u => .d (.bl (vb u))) q) (ho : ∀ u, Le (q u) (I (out u))) (hb : ∀ u, SF C (q u) b (f u) k M I I) :
    SF C ps (.wh c b) (whF cx vb out f WN s0) k M qb I := fun v ev r ft => by
  obtain ⟨fl, r', g1, g2⟩ := whF_run hc ho hb WN s0 v ev r (ft.le h0)
  exact ⟨fl, r', by rw [ex]; exact g1, g2⟩
end
/-! ### defs -/
def ini : List Sl → Nat → List Sp
  | [], n => List.replicate n .any
  | .val d :: ss, n => .val d :: ini ss n
  | .acc m xs :: ss, n => .acc m xs :: ini ss n
  | .no :: ss, n => .any :: ini ss n
theorem fit_rep : ∀ n : Nat, Fit (List.replicate n .any) (List.replicate n .no)
  | 0 => trivial
  | n + 1 => ⟨rfl, fit_rep n⟩
theorem fit_ini : ∀ (ss : List Sl) (n : Nat), Fit (ini ss n) (ss ++ List.replicate n .no)
  | [], n => fit_rep n
  | .val d :: ss, n => ⟨rfl, fit_ini ss n⟩
  | .acc m xs :: ss, n => ⟨rfl, fit_ini ss n⟩
  | .no :: ss, n => ⟨rfl, fit_ini ss n⟩
def lkM : List (Nat × List D) → Nat → Option (List D)
  | [], _ => none
  | (i, xs) :: M, j => if Nat.beq i j then some xs else lkM M j
theorem lkM_mem : ∀ {M : List (Nat × List D)} {j : Nat} {xs : List D}, lkM M j = some xs → (j, xs) ∈ M
  | [], _, _, h => nomatch h
  | (i, ys) :: M, j, xs, h => by
    rw [lkM] at h
    split at h
    · rename_i e
      cases h
      have := Nat.eq_of_beq_eq_true e
      subst this
      exact List.mem_cons_self
    · exact List.mem_cons_of_mem _ (lkM_mem h)
def outM (M : List (Nat × List D)) : Nat → List Sl → Option (List Sl)
  | _, [] => some []
  | i, .acc _ _ :: ss => match lkM M i, outM M (i + 1) ss with
    | some xs, some out => some (.acc .fix xs :: out)
    | _, _ => none
  | i, s :: ss => match outM M (i + 1) ss with
    | some out => some (s :: out)
    | none => none
theorem outM_is {M : List (Nat × List D)} {r : Env} (h : ∀ p ∈ M, gets r p.1 = .acc .fix p.2) : ∀ {ss out : List Sl} {i : Nat}, outM M i ss = some out → outsF r i ss = out
  | [], _, _, e => by cases e; rfl
  | .acc m ys :: ss, out, i, e => by
    rw [outM] at e
    split at e
    · rename_i xs o e1 e2
      cases e
      rw [outsF, h _ (lkM_mem e1), outM_is h e2]
    · cases e
  | .val d :: ss, out, i, e => by
    rw [outM] at e
    · split at e
      · rename_i o e2
        cases e
        show Sl.val d :: outsF r (i + 1) ss = _
        rw [outM_is h e2]
      · cases e
    · intro m xs z; cases z
  | .no :: ss, out, i, e => by
    rw [outM] at e
    · split at e
      · rename_i o e2
        cases e
        show Sl.no :: outsF r (i + 1) ss = _
        rw [outM_is h e2]
      · cases e
    · intro m xs z; cases z
section
variable {ρ : Type} {k : ρ → Wk} {M : ρ → List (Nat × List D)} {x : Option ρ} {P : Nat → Option Fn} {n f : Nat} {fn : Fn} {ss : List Sl} {out : ρ → List Sl}
theorem fin_ret {v : ρ} {w : W} {r : Env} (h : RetOk (k v) (M v) w r) (ho : outM (M v) 0 ss = some (out v)) : ∃ w', (R.ok (Fl.ret w) r).fin ss = .ok w' (out v) ∧ (k v).Is w' ∧ NoV (k v) := by
  rcases h.2 with ⟨d, h1, h2⟩ | ⟨xs, h1, h2⟩ | ⟨i, xs, h1, h2, h3⟩
  · subst h1
    refine ⟨.val d, ?_, by rw [h2]; rfl, by rw [h2]; trivial⟩
    show R.ok _ (outs ss r) = _
    unfold outs
    rw [outM_is h.1 ho]
  · subst h1
    refine ⟨.own xs, ?_, by rw [h2]; rfl, by rw [h2]; trivial⟩
    show R.ok _ (outs ss r) = _
    unfold outs
    rw [outM_is h.1 ho]
  · subst h1
    refine ⟨.own xs, ?_, by rw [h3]; rfl, by rw [h3]; trivial⟩
    show ((outW (.slot i) r).bind fun w' r' => .ok w' (outs ss r')) = _
    unfold outW
    dsimp only
    rw [h2]
    show R.ok _ (outs ss (sets r i .no)) = _
    unfold outs
    rw [outM_is (fun p hp => ?_) ho]
    have hp' := h.1 p hp
    rw [gets_sets]
    split
    · rename_i e
      rw [e.1, h2] at hp'
      cases hp'
    · exact hp'
theorem fn_of (hP : P f = some fn) (hl : ss.length = fn.n) (hb : ST (callF P n) (ini ss (fn.m - fn.n)) fn.b x k M) (ho : ∀ v, outM (M v) 0 ss = some (out v)) : FN (callF P (n + 1)) f ss x k out := fun v e => by
  obtain ⟨w, r', g1, g2⟩ := hb v e _ (fit_ini ss (fn.m - fn.n))
  obtain ⟨w', g3, g4, g5⟩ := fin_ret (out := out) g2 (ho v)
  refine ⟨w', ?_, g4, g5⟩
  rw [callF]
  dsimp only
  rw [hP]
  dsimp only
  rw [if_pos hl, g1]
  exact g3
/-- a def that ends without a return -/
theorem fn_next {τ : Type} {y : Option τ} {q : τ → List Sp} {N : τ → List (Nat × List D)} {out : τ → List Sl} (hP : P f = some fn) (hl : ss.length = fn.n) (hb : SN (callF P n) (ini ss (fn.m - fn.n)) fn.b y q) (hM : ∀ v, MO (q v) (N v)) (ho : ∀ v, outM (N v) 0 ss = some (out v)) : FN (callF P (n + 1)) f ss y (fun _ => .d .non) out := fun v e => by
  obtain ⟨r', g1, g2⟩ := hb v e _ (fit_ini ss (fn.m - fn.n))
  refine ⟨.val .non, ?_, rfl, trivial⟩
  rw [callF]
  dsimp only
  rw [hP]
  dsimp only
  rw [if_pos hl, g1]
  show R.ok _ (outs ss r') = _
  unfold outs
  rw [outM_is (fun p hp => g2.acc (hM v p hp)) (ho v)]
end
end MT

-- part Ty5
set_option maxHeartbeats 1000000
namespace MT
open MP
/-! ### plain values as values of MP -/
abbrev eI (n : Int) : D := .int n
abbrev eB (b : Bool) : D := .bl b
abbrev eS (s : List Nat) : D := .str s
abbrev eN (_ : Unit) : D := .non
abbrev eD (d : D) : D := d
abbrev eZ (l : List Int) : D := .scr l
abbrev eT {α : Type} (e : α → D) (l : List α) : D := .tup (List.map e l)
abbrev eL {α : Type} (e : α → D) (l : List α) : D := .lst (List.map e l)
abbrev e0 (_ : Unit) : D := .tup []
abbrev e1 {α : Type} (e : α → D) (a : α) : D := .tup [e a]
section
variable {α β γ δ ε ζ : Type}
abbrev e2 (a : α → D) (b : β → D) (p : α × β) : D := .tup [a p.1, b p.2]
abbrev e3 (a : α → D) (b : β → D) (c : γ → D) (p : α × β × γ) : D := .tup [a p.1, b p.2.1, c p.2.2]
abbrev e4 (a : α → D) (b : β → D) (c : γ → D) (d : δ → D) (p : α × β × γ × δ) : D := .tup [a p.1, b p.2.1, c p.2.2.1, d p.2.2.2]
abbrev e5 (a : α → D) (b : β → D) (c : γ → D) (d : δ → D) (e : ε → D) (p : α × β × γ × δ × ε) : D := .tup [a p.1, b p.2.1, c p.2.2.1, d p.2.2.2.1, e p.2.2.2.2]
abbrev e6 (a : α → D) (b : β → D) (c : γ → D) (d : δ → D) (e : ε → D) (f : ζ → D) (p : α × β × γ × δ × ε × ζ) : D := .tup [a p.1, b p.2.1, c p.2.2.1, d p.2.2.2.1, e p.2.2.2.2.1, f p.2.2.2.2.2]
end
abbrev eO {α : Type} (e : α → D) : Option α → D
  | none => .non
  | some a => e a
/-! casts -/
def asI : D → Option Int
  | .int i => some i
  | _ => none
def asBo : D → Option Bool
  | .bl b => some b
  | _ => none
def asS : D → Option (List Nat)
  | .str s => some s
  | _ => none
theorem asI_k {d : D} {c : Int} (h : asI d = some c) : Wk.d (eD d) = .d (eI c) := by
  cases d <;> first | (cases h; rfl) | cases h
theorem asBo_k {d : D} {c : Bool} (h : asBo d = some c) : Wk.d (eD d) = .d (eB c) := by
  cases d <;> first | (cases h; rfl) | cases h
theorem asS_k {d : D} {c : List Nat} (h : asS d = some c) : Wk.d (eD d) = .d (eS c) := by
  cases d <;> first | (cases h; rfl) | cases h
section
variable {C : CallF} {ps : List Sp} {a b c e es : E} {α β γ σ τ : Type}
theorem EV.cast {k : Wk} {k' : γ → Wk} (z : Option γ) (h : EV C ps e k) (hz : ∀ c, z = some c → k = k' c) : EX C ps e z k' fun _ => ps := fun v ev r f => by
  obtain ⟨w, r', g1, g2, g3⟩ := h r f
  exact ⟨w, r', g1, by rw [← hz v ev]; exact g2, g3⟩
theorem EX.cast {x : Option τ} {k : τ → Wk} {q : τ → List Sp} {k' : γ → Wk} {q0 : List Sp} (g : τ → Option γ) (h : EX C ps e x k q) (hq : ∀ u, q u = q0) (hz : ∀ u c, g u = some c → k u = k' c) : EX C ps e (Option.bind x g) k' fun _ => q0 := fun v ev r f => by
  obtain ⟨u, eu, ev⟩ := Option.bind_eq_some_iff.mp ev
  obtain ⟨w, r', g1, g2, g3⟩ := h u eu r f
  exact ⟨w, r', g1, by rw [← hz u v ev]; exact g2, by rw [← hq u]; exact g3⟩
theorem EX.castS {x : Option τ} {k : τ → Wk} {q : τ → List Sp} {k' : γ → Wk} (g : τ → Option γ) (h : EX C ps e x k q) (hz : ∀ u c, g u = some c → k u = k' c) : EX C ps e (Option.bind x fun u => Option.bind (g u) fun c => some (c, u)) (fun p => k' p.1) fun p => q p.2 := fun v ev r f => by
  obtain ⟨u, eu, ev⟩ := Option.bind_eq_some_iff.mp ev
  obtain ⟨c, ec, ev⟩ := Option.bind_eq_some_iff.mp ev
  cases ev
  obtain ⟨w, r', g1, g2, g3⟩ := h u eu r f
  exact ⟨w, r', g1, by show (k' c).Is w; rw [← hz u c ec]; exact g2, g3⟩
theorem ex_callV0 {f : Nat} {ks : List Wk} {ss : List Sl} {y : Option γ} {k : γ → Wk} {out : γ → List Sl} (h : EVs C ps es ks) (ha : argSp ps ks = some ss) (hn : nodupN (slW ks) = true) (hf : FN C f ss y k out) (hq : ∀ v, backSp ks (out v) ps = ps) : EX C ps (.call f es) y k fun _ => ps := fun v e r ft => by
  obtain ⟨w, r', g1, g2, g3⟩ := ex_callV h ha hn hf v e r ft
  exact ⟨w, r', g1, g2, by have g4 : Fit (backSp ks (out v) ps) r' := g3; rw [hq v] at g4; exact g4⟩
theorem ex_isiD {o : Ty} {d : D} (h : EV C ps e (.d d)) : EX C ps (.isi e o) (isTy o d) (fun c => .d (eB c)) fun _ => ps := fun v ev r f => by
  obtain ⟨w, r1, g1, g2, g3⟩ := h r f
  cases g2
  exact ⟨_, r1, by rw [MP.ev, g1, R.bind_ok]; unfold vw; dsimp only [view]; rw [ev]; rfl, rfl, g3⟩
theorem EV.eq {k k' : Wk} (h : EV C ps e k) (hk : k = k') : EV C ps e k' := hk ▸ h
theorem EX.eq {x : Option τ} {k k' : τ → Wk} {q : τ → List Sp} (h : EX C ps e x k q) (hk : ∀ u, k u = k' u) : EX C ps e x k' q := fun v ev r f => by
  obtain ⟨w, r', g1, g2, g3⟩ := h v ev r f
  exact ⟨w, r', g1, by rw [← hk]; exact g2, g3⟩
theorem eqM {f : α → D} {g : β → D} {c : α → β} (h : ∀ a, f a = g (c a)) (l : List α) : List.map f l = List.map g (List.map c l) := by
  rw [List.map_map]; exact List.map_congr_left fun a _ => h a
theorem eqL {f : α → D} {g : β → D} {c : α → β} (h : ∀ a, f a = g (c a)) (l : List α) : eL f l = eL g (List.map c l) := congrArg D.lst (eqM h l)
theorem eqT {f : α → D} {g : β → D} {c : α → β} (h : ∀ a, f a = g (c a)) (l : List α) : eT f l = eT g (List.map c l) := congrArg D.tup (eqM h l)
theorem eqO {f : α → D} {g : β → D} {c : α → β} (h : ∀ a, f a = g (c a)) (l : Option α) : eO f l = eO g (Option.map c l) := by
  cases l with
  | none => rfl
  | some a => exact h a
/-! chains -/
def chainO (o1 o2 : Cm) (a b c : D) : Option Bool := Option.bind (cmpOp o1 a b) fun t => bif t then cmpOp o2 b c else some false
theorem ev_chain {o1 o2 : Cm} {ka kb kc : Wk} {d1 d2 d3 : D} {t t2 : Bool} (ha : EV C ps a ka) (hb : EV C ps b kb) (hc : EV C ps c kc) (sa : See ps ka d1) (sb : See ps kb d2) (sc : See ps kc d3) (h1 : cmpOp o1 d1 d2 = some t) (h2 : cmpOp o2 d2 d3 = some t2) : EV C ps (.chain o1 o2 a b c) (.d (eB (t && t2))) := fun r f => by
  obtain ⟨w1, r1, g1, g2, g3⟩ := ha r f
  obtain ⟨w2, r2, g4, g5, g6⟩ := hb r1 g3
  rw [ev, g1, R.bind_ok, g4, R.bind_ok]
  unfold vw
  rw [sa.view g6 g2, sb.view g6 g5]
  dsimp only
  rw [h1]
  cases t with
  | false => exact ⟨_, r2, rfl, rfl, g6⟩
  | true =>
    obtain ⟨w3, r3, g7, g8, g9⟩ := hc r2 g6
    refine ⟨_, r3, ?_, rfl, g9⟩
    show ((MP.ev C c r2).bind _) = _
    rw [g7, R.bind_ok, sb.view g9 g5, sc.view g9 g8]
    dsimp only
    rw [h2]
    rfl
theorem zt_chain {o1 o2 : Cm} {d1 d2 d3 : D} {t t2 : Bool} (h1 : cmpOp o1 d1 d2 = some t) (h2 : cmpOp o2 d2 d3 = some t2) : ∀ c, some (t && t2) = some c → chainO o1 o2 d1 d2 d3 = some c := fun c e => by
  cases e
  unfold chainO
  rw [h1, Option.bind_some, h2]
  cases t <;> rfl
theorem ex_chain {o1 o2 : Cm} {x : Option τ} {ks : τ → List Wk} {kc : τ → Wk} {q : τ → List Sp} {q0 : List Sp} {d1 d2 d3 : τ → D} {z : τ → Option Bool} (h : EXs C ps (.cons a (.cons b .nil)) x ks q) (hc : ∀ u, EV C (q u) c (kc u)) (s : ∀ u, Sees (q u) (ks u) [d1 u, d2 u]) (sc : ∀ u, See (q u) (kc u) (d3 u)) (hq : ∀ u, q u = q0)
    (hz : ∀ u t, z u = some t → chainO o1 o2 (d1 u) (d2 u) (d3 u) = some t) : EX C ps (.chain o1 o2 a b c) (Option.bind x z) (fun c => .d (eB c)) fun _ => q0 := fun v e r f => by
  obtain ⟨u, eu, e⟩ := Option.bind_eq_some_iff.mp e
  obtain ⟨ws, r2, g1, g2, g3⟩ := h u eu r f
  obtain ⟨w1, r1, w2, rfl, e1, e2⟩ := two_inv g1
  have hz := hz u v e
  have s1 := s u
  cases hk : ks u with
  | nil => rw [hk] at g2; exact g2.elim
  | cons k1 kt =>
    rw [hk] at g2 s1
    cases kt with
    | nil => exact g2.2.elim
    | cons k2 kt2 =>
      have v1 := s1.1.view g3 g2.1
      have v2 := s1.2.1.view g3 g2.2.1
      rw [ev, e1, R.bind_ok, e2, R.bind_ok]
      unfold vw
      rw [v1, v2]
      dsimp only
      unfold chainO at hz
      obtain ⟨t, et, hz⟩ := Option.bind_eq_some_iff.mp hz
      rw [et]
      cases t with
      | false =>
        cases hz
        exact ⟨_, r2, rfl, rfl, by rw [← hq u]; exact g3⟩
      | true =>
        obtain ⟨w3, r3, g7, g8, g9⟩ := hc u r2 g3
        refine ⟨_, r3, ?_, rfl, by rw [← hq u]; exact g9⟩
        show ((MP.ev C c r2).bind _) = _
        rw [g7, R.bind_ok, s1.2.1.view g9 g2.2.1, (sc u).view g9 g8]
        dsimp only
        rw [show cmpOp o2 (d2 u) (d3 u) = some v from hz]
        rfl
theorem ev_cmpK {op : Cm} {k ka kb : Wk} {da db : D} (ha : EV C ps a ka) (hb : EV C ps b kb) (sa : See ps ka da) (sb : See ps kb db) (h : OpF ((cmpOp op da db).map fun t => .val (.bl t)) k) : EV C ps (.cmp op a b) k := fun r f => by
  obtain ⟨w1, r1, g1, g2, g3⟩ := ha r f
  obtain ⟨w2, r2, g4, g5, g6⟩ := hb r1 g3
  obtain ⟨w, g7, g8⟩ := h.use
  exact ⟨w, r2, str_cmp r w1 r1 w2 r2 _ _ w g1 g4 (sa.view g6 g2) (sb.view g6 g5) g7, g8, g6⟩
theorem ev_subK {k ka kb : Wk} {da db : D} (ha : EV C ps a ka) (hb : EV C ps b kb) (sa : See ps ka da) (sb : See ps kb db) (h : OpF ((subOp da db).map .val) k) : EV C ps (.sub a b) k := fun r f => by
  obtain ⟨w1, r1, g1, g2, g3⟩ := ha r f
  obtain ⟨w2, r2, g4, g5, g6⟩ := hb r1 g3
  obtain ⟨w, g7, g8⟩ := h.use
  exact ⟨w, r2, str_sub r w1 r1 w2 r2 _ _ w g1 g4 (sa.view g6 g2) (sb.view g6 g5) g7, g8, g6⟩
theorem ex_cut {lo hi : E} {l h : τ → Option Int} {x : Option τ} {ka : τ → Wk} {q : τ → List Sp} {q0 : List Sp} {da : τ → D} {z : τ → γ} {k : γ → Wk} (ha : EX C ps a x ka q) (hl : ∀ u, PV C (q u) lo (l u)) (hh : ∀ u, PV C (q u) hi (h u)) (sa : ∀ u, See (q u) (ka u) (da u)) (hq : ∀ u, q u = q0) (g : ∀ u, OpF (cutOp (l u) (h u) (da u)) (k (z u))) :
    EX C ps (.cut a lo hi) (Option.bind x fun u => some (z u)) k fun _ => q0 := fun v e r f => by
  obtain ⟨u, eu, e⟩ := Option.bind_eq_some_iff.mp e
  cases e
  obtain ⟨w1, r1, g1, g2, g3⟩ := ha u eu r f
  obtain ⟨r2, g4, g5⟩ := (hl u).run g3
  obtain ⟨r3, g6, g7⟩ := (hh u).run g5
  obtain ⟨w, g8, g9⟩ := (g u).use
  exact ⟨w, r3, by rw [ev, g1, R.bind_ok, g4, R.bind_ok, g6, R.bind_ok]; unfold vw; rw [(sa u).view g7 g2]; dsimp only; rw [g8]; rfl, g9, by rw [← hq u]; exact g7⟩
/-- a slice of a tuple -/
def cutD (l h : Option Int) (d : D) : Option D := match d with
  | .tup xs => some (.tup (cut xs l h))
  | _ => none
theorem ex_cutD {lo hi : E} {l h : Option Int} {d : D} (ha : EV C ps a (.d d)) (hl : PV C ps lo l) (hh : PV C ps hi h) : EX C ps (.cut a lo hi) (cutD l h d) (fun c => .d (eD c)) fun _ => ps := fun v e r f => by
  obtain ⟨w1, r1, g1, g2, g3⟩ := ha r f
  cases g2
  obtain ⟨r2, g4, g5⟩ := hl.run g3
  obtain ⟨r3, g6, g7⟩ := hh.run g5
  cases d <;> try (cases e; done)
  cases e
  exact ⟨_, r3, by rw [ev, g1, R.bind_ok, g4, R.bind_ok, g6, R.bind_ok]; rfl, rfl, g7⟩
end
section
variable {C : CallF} {ps : List Sp} {e c : E} {a b s : S} {α β γ σ τ ρ ε : Type} {k : ρ → Wk} {M : ρ → List (Nat × List D)} {qb : σ → List Sp} {qn : τ → List Sp}
theorem SN.to {x : Option τ} {q q' : τ → List Sp} (h : SN C ps a x q) (hl : ∀ v, Le (q v) (q' v)) : SN C ps a x q' := fun v ev r f => by
  obtain ⟨r', g1, g2⟩ := h v ev r f
  exact ⟨r', g1, g2.le (hl v)⟩
theorem sn_end {I : σ → List Sp} (g : σ) (h : Le ps (I g)) : SN C ps .skip (some g) I := fun v ev r f => by
  cases ev
  exact ⟨r, by rw [ex], f.le h⟩
theorem sn_none {I : σ → List Sp} : SN C ps a none I := fun v ev => by cases ev
theorem sn_dead {I : σ → List Sp} (h : SN C ps a (none : Option σ) I) : SN C ps (.seq a b) none I := fun v ev => by cases ev
theorem st_none : ST C ps a none k M := fun v ev => by cases ev
theorem sf_none : SF C ps a (none : Option (Fw ρ σ τ)) k M qb qn := fun v ev => by cases ev
theorem sf_end (g : τ) (h : Le ps (qn g)) : SF C ps .skip (some (.next g : Fw ρ σ τ)) k M qb qn := fun v ev r f => by
  cases ev
  exact ⟨.next, r, by rw [ex], f.le h⟩
def fzS (ps : List Sp) (i : Nat) : Option (List Sp) := match gt ps i with
  | .acc .free xs => some (st ps i (.val (.lst xs)))
  | _ => none
theorem sn_fz {i : Nat} {x : Option τ} {q q' : τ → List Sp} (h : SN C ps a x q) (hi : ∀ u, fzS (q u) i = some (q' u)) : SN C ps (.fz a i) x q' := fun v ev r f => by
  obtain ⟨r', g1, g2⟩ := h v ev r f
  have hi := hi v
  unfold fzS at hi
  split at hi
  · rename_i xs e
    have hi' := (Option.some.inj hi).symm
    rw [hi']
    have g := g2.acc e
    refine ⟨sets r' i (.val (.lst xs)), ?_, g2.set rfl⟩
    rw [ex, g1, R.bind_ok]
    dsimp only
    unfold MP.take
    dsimp only
    rw [g]
    rfl
  · cases hi
theorem sn_fz0 {i : Nat} {x : Option τ} {q : τ → List Sp} {d : τ → D} (h : SN C ps a x q) (hi : ∀ u, gt (q u) i = .val (d u)) : SN C ps (.fz a i) x q := fun v ev r f => by
  obtain ⟨r', g1, g2⟩ := h v ev r f
  have g := g2.val (hi v)
  refine ⟨r', ?_, g2⟩
  rw [ex, g1, R.bind_ok]
  dsimp only
  unfold MP.take
  dsimp only
  rw [g]
  rfl
end
/-! ### operators -/
theorem zt {γ : Type} {o : Option W} {k : γ → Wk} {v : γ} (h : OpF o (k v)) : ∀ c, some v = some c → OpF o (k c) := fun c e => by cases e; exact h
theorem zi {α : Type} {o : Option (List D)} {l : List α} {enc : α → D} (h : o = some (l.map enc)) : ∀ c, some l = some c → o = some (c.map enc) := fun c e => by cases e; exact h
def binI (op : Op) (d e : D) : Option Int := match binOp op d e with
  | some (.val (.int i)) => some i
  | _ => none
def binD (op : Op) (d e : D) : Option D := match binOp op d e with
  | some (.val v) => some v
  | _ => none
theorem z_binI {op : Op} {d e : D} {c : Int} (h : binI op d e = some c) : OpF (binOp op d e) (.d (eI c)) := by
  unfold binI at h
  split at h
  · rename_i g; cases h; exact g
  · cases h
theorem z_binD {op : Op} {d e : D} {c : D} (h : binD op d e = some c) : OpF (binOp op d e) (.d (eD c)) := by
  unfold binD at h
  split at h
  · rename_i g; cases h; exact g
  · cases h
def mulO (i j : Int) : Option Int := if mulOk i j then some (i * j) else none
def fdivO (i j : Int) : Option Int := if 0 < j ∧ j < 1073741824 then some (i / j) else none
def modO (i j : Int) : Option Int := if 0 < j then some (i % j) else none
def powO (i j : Int) : Option Int := if 0 ≤ j ∧ j ≤ 1000 ∧ i.natAbs < 18446744073709551616 then some (i ^ j.toNat) else none
theorem z_mul {i j c : Int} (h : mulO i j = some c) : OpF (binOp .mul (eI i) (eI j)) (.d (eI c)) := by
  unfold mulO at h
  split at h
  · rename_i g; cases h; exact if_pos g
  · cases h
theorem z_fdiv {i j c : Int} (h : fdivO i j = some c) : OpF (binOp .fdiv (eI i) (eI j)) (.d (eI c)) := by
  unfold fdivO at h
  split at h
  · rename_i g; cases h; exact if_pos g
  · cases h
theorem z_mod {i j c : Int} (h : modO i j = some c) : OpF (binOp .mod (eI i) (eI j)) (.d (eI c)) := by
  unfold modO at h
  split at h
  · rename_i g; cases h; exact if_pos g
  · cases h
theorem z_pow {i j c : Int} (h : powO i j = some c) : OpF (binOp .pow (eI i) (eI j)) (.d (eI c)) := by
  unfold powO at h
  split at h
  · rename_i g; cases h; exact if_pos g
  · cases h
theorem op_mod {i j : Int} (h : 0 < j) : OpF (binOp .mod (eI i) (eI j)) (.d (eI (i % j))) := if_pos h
theorem op_fdiv {i j : Int} (h : 0 < j ∧ j < 1073741824) : OpF (binOp .fdiv (eI i) (eI j)) (.d (eI (i / j))) := if_pos h
section
variable {α β : Type} {e : α → D} {f : β → D}
def catO (l m : List α) : Option (List α) := if l.length + m.length ≤ LIM then some (l ++ m) else none
theorem z_catL {l m c : List α} (h : catO l m = some c) : OpF (binOp .add (eL e l) (eL e m)) (.o (List.map e c)) := by
  unfold catO at h
  split at h
  · rename_i g
    cases h
    show (if (l.map e).length + (m.map e).length ≤ LIM then some (W.own (l.map e ++ m.map e)) else none) = _
    rw [List.length_map, List.length_map, if_pos g, ← List.map_append]
  · cases h
theorem z_catT {l m c : List α} (h : catO l m = some c) : OpF (binOp .add (eT e l) (eT e m)) (.d (eT e c)) := by
  unfold catO at h
  split at h
  · rename_i g
    cases h
    show (if (l.map e).length + (m.map e).length ≤ LIM then some (W.val (.tup (l.map e ++ m.map e))) else none) = _
    rw [List.length_map, List.length_map, if_pos g, ← List.map_append]
  · cases h
theorem z_catS {l m c : List Nat} (h : catO l m = some c) : OpF (binOp .add (eS l) (eS m)) (.d (eS c)) := by
  unfold catO at h
  split at h
  · rename_i g; cases h; exact if_pos g
  · cases h
/-! plain data that == tells apart -/
class EqE (e : α → D) [DecidableEq α] (k : outParam Nat) : Prop where
  eq : ∀ a b, eqD (e a) (e b) = decide (a = b)
  pl : ∀ a, pln (e a) = true
  de : ∀ a, dep (e a) ≤ k
end
/-- a in l -/
def inB {α : Type} [DecidableEq α] (a : α) (l : List α) : Bool := decide (a ∈ l)
theorem inB_iff {α : Type} [DecidableEq α] {a : α} {l : List α} : inB a l = true ↔ a ∈ l := decide_eq_true_iff
theorem inB_no {α : Type} [DecidableEq α] {a : α} {l : List α} : inB a l = false ↔ a ∉ l := decide_eq_false_iff_not
theorem dec_of_beq {α : Type} [DecidableEq α] {a b : α} [BEq α] [LawfulBEq α] : (a == b) = decide (a = b) := by
  by_cases h : a = b
  · subst h; simp
  · simp [h]
instance : EqE eI 0 := ⟨fun a b => by show (a == b) = _; exact dec_of_beq, fun _ => rfl, fun _ => Nat.le_refl _⟩
instance : EqE eB 0 := ⟨fun a b => by show (a == b) = _; exact dec_of_beq, fun _ => rfl, fun _ => Nat.le_refl _⟩
instance : EqE eS 0 := ⟨fun a b => by show (a == b) = _; exact dec_of_beq, fun _ => rfl, fun _ => Nat.le_refl _⟩
instance : EqE eN 0 := ⟨fun a b => by cases a; cases b; rfl, fun _ => rfl, fun _ => Nat.le_refl _⟩
section
variable {α β γ δ : Type} [DecidableEq α] [DecidableEq β] [DecidableEq γ] [DecidableEq δ] {e : α → D} {f : β → D} {g : γ → D} {h : δ → D} {k k2 k3 k4 : Nat}
theorem eqDs_map (H : EqE e k) : ∀ l m : List α, eqDs (l.map e) (m.map e) = decide (l = m)
  | [], [] => by simp [eqDs]
  | [], _ :: _ => by simp [eqDs]
  | _ :: _, [] => by simp [eqDs]
  | x :: l, y :: m => by
    rw [List.map_cons, List.map_cons, eqDs, H.eq, eqDs_map H l m]
    by_cases h1 : x = y <;> by_cases h2 : l = m <;> simp [h1, h2]
instance [H : EqE e k] : EqE (eT e) (k + 1) := ⟨fun a b => by rw [eqD]; exact eqDs_map H a b, fun a => by rw [pln]; exact ML.plns_map H.pl a, fun a => by rw [dep]; exact Nat.succ_le_succ (ML.deps_map H.de a)⟩
instance [H : EqE e k] : EqE (eL e) (k + 1) := ⟨fun a b => by rw [eqD]; exact eqDs_map H a b, fun a => by rw [pln]; exact ML.plns_map H.pl a, fun a => by rw [dep]; exact Nat.succ_le_succ (ML.deps_map H.de a)⟩
instance [H : EqE e k] : EqE (e1 e) (k + 1) := ⟨fun a b => by simp [eqD, eqDs, H.eq], fun a => by simp [pln, plns, H.pl], fun a => by have := H.de a; simp [dep, deps]; omega⟩
instance [H : EqE e k] [H2 : EqE f k2] : EqE (e2 e f) (max k k2 + 1) := ⟨fun a b => by simp [eqD, eqDs, H.eq, H2.eq, Prod.ext_iff], fun a => by simp [pln, plns, H.pl, H2.pl], fun a => by have := H.de a.1; have := H2.de a.2; simp [dep, deps]; omega⟩
instance [H : EqE e k] [H2 : EqE f k2] [H3 : EqE g k3] : EqE (e3 e f g) (max k (max k2 k3) + 1) := ⟨fun a b => by simp [eqD, eqDs, H.eq, H2.eq, H3.eq, Prod.ext_iff], fun a => by simp [pln, plns, H.pl, H2.pl, H3.pl], fun a => by have := H.de a.1; have := H2.de a.2.1; have := H3.de a.2.2; simp [dep, deps]; omega⟩
instance [H : EqE e k] [H2 : EqE f k2] [H3 : EqE g k3] [H4 : EqE h k4] : EqE (e4 e f g h) (max k (max k2 (max k3 k4)) + 1) := ⟨fun a b => by simp [eqD, eqDs, H.eq, H2.eq, H3.eq, H4.eq, Prod.ext_iff], fun a => by simp [pln, plns, H.pl, H2.pl, H3.pl, H4.pl], fun a => by have := H.de a.1; have := H2.de a.2.1; have := H3.de a.2.2.1; have := H4.de a.2.2.2; simp [dep, deps]; omega⟩
class NonE (e : α → D) : Prop where
  ne : ∀ a, eqD .non (e a) = false ∧ eqD (e a) .non = false
theorem eqOk_e [H : EqE e k] (hk : k ≤ 64) (a b : α) : eqOk (e a) (e b) = true := by
  unfold eqOk
  rw [H.pl, H.pl, decide_eq_true (by have := H.de a; omega)]
  rfl
theorem q_eq [H : EqE e k] (a b : α) (hk : k ≤ 64 := by decide) : OpF ((cmpOp .eq (e a) (e b)).map fun t => .val (.bl t)) (.d (eB (decide (a = b)))) := by
  show (if eqOk (e a) (e b) then some (eqD (e a) (e b)) else none).map _ = _
  rw [if_pos (eqOk_e hk a b), H.eq]
  rfl
theorem q_ne [H : EqE e k] (a b : α) (hk : k ≤ 64 := by decide) : OpF ((cmpOp .ne (e a) (e b)).map fun t => .val (.bl t)) (.d (eB (!decide (a = b)))) := by
  show (if eqOk (e a) (e b) then some (!eqD (e a) (e b)) else none).map _ = _
  rw [if_pos (eqOk_e hk a b), H.eq]
  rfl
theorem memD_e [H : EqE e k] (a : α) : ∀ l : List α, memD (e a) (l.map e) = decide (a ∈ l)
  | [] => by simp [memD]
  | x :: l => by
    have ih := memD_e (H := H) a l
    unfold memD at ih ⊢
    rw [List.map_cons, List.any_cons, ih, H.eq]
    by_cases h1 : a = x
    · subst h1; simp
    · have : ¬ x = a := fun z => h1 z.symm
      simp [h1, this]
theorem q_memT [H : EqE e k] (a : α) (l : List α) (hk : k + 1 ≤ 64 := by decide) : OpF ((cmpOp .mem (e a) (eT e l)).map fun t => .val (.bl t)) (.d (eB (inB a l))) := by
  show (if eqOk (eT e l) (.tup [e a]) then some (memD (e a) (l.map e)) else none).map _ = _
  rw [if_pos (show eqOk (eT e l) (.tup [e a]) = true from eqOk_e (e := eT e) hk l [a]), memD_e (H := H)]
  rfl
theorem q_memL [H : EqE e k] (a : α) (l : List α) (hk : k + 1 ≤ 64 := by decide) : OpF ((cmpOp .mem (e a) (eL e l)).map fun t => .val (.bl t)) (.d (eB (inB a l))) := by
  show (if eqOk (eL e l) (.lst [e a]) then some (memD (e a) (l.map e)) else none).map _ = _
  rw [if_pos (show eqOk (eL e l) (.lst [e a]) = true from eqOk_e (e := eL e) hk l [a]), memD_e (H := H)]
  rfl
theorem q_nomemT [H : EqE e k] (a : α) (l : List α) (hk : k + 1 ≤ 64 := by decide) : OpF ((cmpOp .nomem (e a) (eT e l)).map fun t => .val (.bl t)) (.d (eB (!inB a l))) := by
  show (if eqOk (eT e l) (.tup [e a]) then some (!memD (e a) (l.map e)) else none).map _ = _
  rw [if_pos (show eqOk (eT e l) (.tup [e a]) = true from eqOk_e (e := eT e) hk l [a]), memD_e (H := H)]
  rfl
theorem q_nomemL [H : EqE e k] (a : α) (l : List α) (hk : k + 1 ≤ 64 := by decide) : OpF ((cmpOp .nomem (e a) (eL e l)).map fun t => .val (.bl t)) (.d (eB (!inB a l))) := by
  show (if eqOk (eL e l) (.lst [e a]) then some (!memD (e a) (l.map e)) else none).map _ = _
  rw [if_pos (show eqOk (eL e l) (.lst [e a]) = true from eqOk_e (e := eL e) hk l [a]), memD_e (H := H)]
  rfl
end
instance : NonE eI := ⟨fun _ => ⟨rfl, rfl⟩⟩
instance : NonE eB := ⟨fun _ => ⟨rfl, rfl⟩⟩
instance : NonE eS := ⟨fun _ => ⟨rfl, rfl⟩⟩
section
variable {α β γ : Type} {e : α → D} {f : β → D} {g : γ → D}
instance : NonE (eT e) := ⟨fun _ => ⟨by simp [eqD], by simp [eqD]⟩⟩
instance : NonE (eL e) := ⟨fun _ => ⟨by simp [eqD], by simp [eqD]⟩⟩
instance : NonE (e1 e) := ⟨fun _ => ⟨by simp [eqD], by simp [eqD]⟩⟩
instance : NonE (e2 e f) := ⟨fun _ => ⟨by simp [eqD], by simp [eqD]⟩⟩
instance : NonE (e3 e f g) := ⟨fun _ => ⟨by simp [eqD], by simp [eqD]⟩⟩
instance [DecidableEq α] {k : Nat} [H : EqE e k] [N : NonE e] : EqE (eO e) k := ⟨fun a b => by
  cases a with
  | none =>
    cases b with
    | none => simp [eqD]
    | some b => simpa using (N.ne b).1
  | some a =>
    cases b with
    | none => simpa using (N.ne a).2
    | some b => simpa using H.eq a b, fun a => by
  cases a with
  | none => rfl
  | some a => exact H.pl a, fun a => by
  cases a with
  | none => exact Nat.zero_le _
  | some a => exact H.de a⟩
end
theorem q_is {d : D} : OpF ((cmpOp .is_ d .non).map fun t => .val (.bl t)) (.d (eB (isNon d))) := by cases d <;> rfl
theorem q_isnot {d : D} : OpF ((cmpOp .isnot d .non).map fun t => .val (.bl t)) (.d (eB (!isNon d))) := by cases d <;> rfl
theorem z_cmp {op : Cm} {d e : D} {c : Bool} (h : cmpOp op d e = some c) : OpF ((cmpOp op d e).map fun t => .val (.bl t)) (.d (eB c)) := by rw [h]; rfl
theorem z_subD {d e c : D} (h : subOp d e = some c) : OpF ((subOp d e).map .val) (.d (eD c)) := by rw [h]; rfl
section
variable {α β : Type} {e : α → D} {f : β → D}
theorem z_getL {l : List α} {i : Int} {c : α} (h : getO l i = some c) : OpF ((subOp (eL e l) (eI i)).map .val) (.d (e c)) := by
  show (((ixN (l.map e).length i).bind fun k => (l.map e)[k]?).map W.val) = _
  unfold getO at h
  obtain ⟨k, e1, e2⟩ := Option.bind_eq_some_iff.mp h
  rw [List.length_map, e1, Option.bind_some, List.getElem?_map, e2]
  rfl
theorem z_getT {l : List α} {i : Int} {c : α} (h : getO l i = some c) : OpF ((subOp (eT e l) (eI i)).map .val) (.d (e c)) := by
  show (((ixN (l.map e).length i).bind fun k => (l.map e)[k]?).map W.val) = _
  unfold getO at h
  obtain ⟨k, e1, e2⟩ := Option.bind_eq_some_iff.mp h
  rw [List.length_map, e1, Option.bind_some, List.getElem?_map, e2]
  rfl
theorem op_cutT {l : List α} {a b : Option Int} : OpF (cutOp a b (eT e l)) (.d (eT e (cut l a b))) := by
  show some (W.val (.tup (cut (l.map e) a b))) = _
  rw [ML.cut_map]
theorem op_cutL {l : List α} {a b : Option Int} : OpF (cutOp a b (eL e l)) (.o (List.map e (cut l a b))) := by
  show some (W.own (cut (l.map e) a b)) = _
  rw [ML.cut_map]
theorem op_cutZ {l : List Int} {a b : Option Int} : OpF (cutOp a b (eZ l)) (.o (List.map eI (cut l a b))) := rfl
theorem op_lenL {l : List α} : OpF (biOp .len [eL e l]) (.d (eI (l.length : Int))) := by
  show some (W.val (.int ((l.map e).length : Int))) = _
  rw [List.length_map]
theorem op_lenT {l : List α} : OpF (biOp .len [eT e l]) (.d (eI (l.length : Int))) := by
  show some (W.val (.int ((l.map e).length : Int))) = _
  rw [List.length_map]
theorem op_lenS {l : List Nat} : OpF (biOp .len [eS l]) (.d (eI (l.length : Int))) := rfl
def lenD : D → Option Int
  | .lst xs => some xs.length
  | .tup xs => some xs.length
  | .str xs => some xs.length
  | _ => none
theorem z_lenD {d : D} {c : Int} (h : lenD d = some c) : OpF (biOp .len [d]) (.d (eI c)) := by
  cases d <;> first | (cases h; rfl) | cases h
theorem getsB_ok : ∀ l : List Bool, getsB (l.map eB) = some l
  | [] => rfl
  | b :: l => by rw [List.map_cons, getsB, getsB_ok l]; rfl
theorem getsI_ok : ∀ l : List Int, getsI (l.map eI) = some l
  | [] => rfl
  | b :: l => by rw [List.map_cons, getsI, getsI_ok l]; rfl
theorem op_all {l : List Bool} : OpF (biOp .all [eL eB l]) (.d (eB (l.all id))) := by
  show (getsB (l.map eB)).map _ = _
  rw [getsB_ok]; rfl
theorem op_any {l : List Bool} : OpF (biOp .any [eL eB l]) (.d (eB (l.any id))) := by
  show (getsB (l.map eB)).map _ = _
  rw [getsB_ok]; rfl
theorem op_sum {l : List Int} : OpF (biOp .sum [eL eI l]) (.d (eI l.sum)) := by
  show (getsI (l.map eI)).map _ = _
  rw [getsI_ok]; rfl
theorem op_sortI {l : List Int} : OpF (biOp .sorted [eL eI l]) (.o (List.map eI (sortI l))) := by
  show sorted1 _ (getsI (l.map eI)) = _
  rw [getsI_ok]; rfl
/-- the order of the values -/
def leE (e : α → D) (a b : α) : Bool := !ltD (e b) (e a)
def sortO (e : α → D) (l : List α) : Option (List α) := match l with
  | [] => some []
  | _ => if getsI (l.map e) = none ∧ srtOk (l.map e) = true then some (l.mergeSort (leE e)) else none
theorem z_sortL {l c : List α} (h : sortO e l = some c) : OpF (biOp .sorted [eL e l]) (.o (List.map e c)) := by
  cases l with
  | nil => cases h; rfl
  | cons x r =>
    unfold sortO at h
    dsimp only at h
    split at h
    · rename_i g
      cases h
      show sorted1 ((x :: r).map e) (getsI ((x :: r).map e)) = _
      rw [g.1]
      show (if srtOk ((x :: r).map e) then some (W.own (sortD ((x :: r).map e))) else none) = _
      rw [if_pos g.2]
      unfold sortD
      rw [List.map_mergeSort (r := leE e) (s := fun a b => !ltD b a) (f := e) fun _ _ _ _ => rfl]
    · cases h
/-- the same of a tuple -/
def sortTO (e : α → D) (l : List α) : Option (List α) := if srtOk (l.map e) = true then some (l.mergeSort (leE e)) else none
theorem z_sortT {l c : List α} (h : sortTO e l = some c) : OpF (biOp .sorted [eT e l]) (.o (List.map e c)) := by
  unfold sortTO at h
  split at h
  · rename_i g
    cases h
    show (if srtOk (l.map e) then some (W.own (sortD (l.map e))) else none) = _
    rw [if_pos g]
    unfold sortD
    rw [List.map_mergeSort (r := leE e) (s := fun a b => !ltD b a) (f := e) fun _ _ _ _ => rfl]
  · cases h
def sortsetI (l : List Int) : Option (List Int) := if l.length ≤ 4000 ∧ (sortU l).length < 64 then some (sortU l) else none
theorem z_sortsetIL {l c : List Int} (h : sortsetI l = some c) : OpF (biOp .sortset [eL eI l]) (.o (List.map eI c)) := by
  unfold sortsetI at h
  split at h
  · rename_i g
    cases h
    show sortset1 _ (getsI (l.map eI)) = _
    rw [getsI_ok]
    exact if_pos g
  · cases h
theorem z_sortsetIT {l c : List Int} (h : sortsetI l = some c) : OpF (biOp .sortset [eT eI l]) (.o (List.map eI c)) := by
  unfold sortsetI at h
  split at h
  · rename_i g
    cases h
    show sortset1 _ (getsI (l.map eI)) = _
    rw [getsI_ok]
    exact if_pos g
  · cases h
/-- values that lie as tuples of ints -/
class TE (e : α → D) where
  to : α → List Int
  of : List Int → α
  eq : ∀ a, e a = tupI (to a)
  inv : ∀ a, of (to a) = a
instance : TE (eT eI) := ⟨id, id, fun _ => rfl, fun _ => rfl⟩
instance : TE (e1 eI) := ⟨fun a => [a], fun l => l.headD 0, fun _ => rfl, fun _ => rfl⟩
instance : TE (e2 eI eI) := ⟨fun p => [p.1, p.2], fun l => (l.getD 0 0, l.getD 1 0), fun _ => rfl, fun _ => rfl⟩
instance : TE (e3 eI eI eI) := ⟨fun p => [p.1, p.2.1, p.2.2], fun l => (l.getD 0 0, l.getD 1 0, l.getD 2 0), fun _ => rfl, fun _ => rfl⟩
def sortsetT (e : α → D) [TE e] (l : List α) : Option (List α) := if (l.map (TE.to e)).all (fun k => !k.isEmpty) = true ∧ (sortUL (l.map (TE.to e))).length < 63 then some ((sortUL (l.map (TE.to e))).map (TE.of e)) else none
theorem getsT_e [T : TE e] : ∀ l : List α, getsT (l.map e) = some (l.map T.to)
  | [] => rfl
  | a :: l => by
    rw [List.map_cons, T.eq a]
    show (match getsI ((T.to a).map .int), getsT (l.map e) with | some ns, some ks => some (ns :: ks) | _, _ => none) = _
    rw [show getsI ((T.to a).map .int) = some (T.to a) from getsI_ok _, getsT_e l]
    rfl
theorem sortset_e [T : TE e] {l c : List α} (h : sortsetT e l = some c) : sortset1 (l.map e) (getsI (l.map e)) = some (.own (c.map e)) := by
  unfold sortsetT at h
  split at h
  · rename_i g
    cases h
    have out : (sortUL (l.map T.to)).map tupI = ((sortUL (l.map T.to)).map T.of).map e := by
      rw [List.map_map]
      refine List.map_congr_left fun y hy => ?_
      obtain ⟨a, _, rfl⟩ := List.mem_map.mp ((sortUL_mem _ _).mp hy)
      show _ = e (T.of (T.to a))
      rw [T.inv, T.eq]
    cases l with
    | nil => rfl
    | cons a r =>
      have e0 : getsI ((a :: r).map e) = none := by rw [List.map_cons, T.eq a]; rfl
      rw [e0]
      unfold sortset1
      rw [getsT_e]
      show (if _ then _ else _) = _
      rw [if_pos g, ← out]
  · cases h
theorem z_sortsetTL [TE e] {l c : List α} (h : sortsetT e l = some c) : OpF (biOp .sortset [eL e l]) (.o (List.map e c)) := sortset_e h
theorem z_sortsetTT [TE e] {l c : List α} (h : sortsetT e l = some c) : OpF (biOp .sortset [eT e l]) (.o (List.map e c)) := sortset_e h
/-- the least -/
def minE (e : α → D) (m : α) : List α → α
  | [] => m
  | x :: r => minE e (if ltD (e x) (e m) then x else m) r
theorem minE_e : ∀ (r : List α) (m : α), minD (e m) (r.map e) = e (minE e m r)
  | [], m => rfl
  | x :: r, m => by
    rw [List.map_cons, minD, minE, ← minE_e r]
    split <;> rfl
def min1D (e : α → D) : List α → Option α
  | [] => none
  | x :: r => if getsI ((x :: r).map e) = none ∧ alAll ((x :: r).map e) = true then some (minE e x r) else none
theorem z_min1D {l : List α} {c : α} (h : min1D e l = some c) : OpF (biOp .min1 [eL e l]) (.d (e c)) := by
  cases l with
  | nil => cases h
  | cons x r =>
    unfold min1D at h
    dsimp only at h
    split at h
    · rename_i g
      cases h
      show min1 ((x :: r).map e) (getsI ((x :: r).map e)) = _
      rw [g.1]
      show (if alAll ((x :: r).map e) then some (W.val (minD (e x) (r.map e))) else none) = _
      rw [if_pos g.2, minE_e]
    · cases h
/-- < of pairs -/
def ltP (a b : Int × Int) : Bool := decide (a.1 < b.1 ∨ (a.1 = b.1 ∧ a.2 < b.2))
theorem ltP_D (a b : Int × Int) : ltD (e2 eI eI a) (e2 eI eI b) = ltP a b := by
  unfold ltP
  simp only [ltD, ltDs, eqD]
  by_cases h : a.1 = b.1
  · simp [h]
    by_cases h2 : a.2 = b.2
    · simp [h2]
    · simp [h2]
  · simp [h]
theorem al_ints : ∀ l m : List Int, alDs (l.map eI) (m.map eI) = true
  | [], m => by cases m <;> simp [alDs]
  | _ :: _, [] => by simp [alDs]
  | _ :: l, _ :: m => by simp [alDs, alD, al_ints l m]
theorem pl_ints : ∀ l : List Int, plns (l.map eI) = true
  | [] => rfl
  | _ :: l => by simp [plns, pln, pl_ints l]
theorem dp_ints : ∀ l : List Int, deps (l.map eI) = 0
  | [] => rfl
  | _ :: l => by simp [deps, dep, dp_ints l]
theorem ltOk_ints (l m : List Int) : ltOk (eT eI l) (eT eI m) = true := by
  unfold ltOk
  simp [alD, pln, dep, al_ints, pl_ints, dp_ints]
theorem ltDs_ints : ∀ l m : List Int, ltDs (l.map eI) (m.map eI) = decide (l < m)
  | [], [] => by simp [ltDs]
  | [], _ :: _ => by simp [ltDs]
  | _ :: _, [] => by simp [ltDs]
  | x :: l, y :: m => by
    simp only [List.map_cons, ltDs, eqD, ltDs_ints l m, ltD, List.cons_lt_cons_iff]
    by_cases h : x = y
    · simp [h]
    · simp [h]
theorem q_ltT (a b : List Int) : OpF ((cmpOp .lt (eT eI a) (eT eI b)).map fun t => .val (.bl t)) (.d (eB (decide (a < b)))) := by
  show (if ltOk (eT eI a) (eT eI b) then some (ltDs (a.map eI) (b.map eI)) else none).map _ = _
  rw [if_pos (ltOk_ints a b), ltDs_ints]; rfl
theorem q_gtT (a b : List Int) : OpF ((cmpOp .gt (eT eI a) (eT eI b)).map fun t => .val (.bl t)) (.d (eB (decide (b < a)))) := by
  show (if ltOk (eT eI b) (eT eI a) then some (ltDs (b.map eI) (a.map eI)) else none).map _ = _
  rw [if_pos (ltOk_ints b a), ltDs_ints]; rfl
theorem q_lt2 (a b : Int × Int) : OpF ((cmpOp .lt (e2 eI eI a) (e2 eI eI b)).map fun t => .val (.bl t)) (.d (eB (ltP a b))) := by
  show (if ltOk (e2 eI eI a) (e2 eI eI b) then some (ltDs [eI a.1, eI a.2] [eI b.1, eI b.2]) else none).map _ = _
  have h := ltP_D a b
  rw [ltD] at h
  rw [if_pos (show ltOk (e2 eI eI a) (e2 eI eI b) = true from ltOk_ints [a.1, a.2] [b.1, b.2]), h]; rfl
theorem q_gt2 (a b : Int × Int) : OpF ((cmpOp .gt (e2 eI eI a) (e2 eI eI b)).map fun t => .val (.bl t)) (.d (eB (ltP b a))) := by
  show (if ltOk (e2 eI eI b) (e2 eI eI a) then some (ltDs [eI b.1, eI b.2] [eI a.1, eI a.2]) else none).map _ = _
  have h := ltP_D b a
  rw [ltD] at h
  rw [if_pos (show ltOk (e2 eI eI b) (e2 eI eI a) = true from ltOk_ints [b.1, b.2] [a.1, a.2]), h]; rfl
def sum2O (L : List (List α)) : Option (List α) := match L with
  | [] => none
  | _ => if L.flatten.length ≤ LIM then some L.flatten else none
theorem sumL_map : ∀ (L : List (List α)) (acc : List α), acc.length + L.flatten.length ≤ LIM → sumL (acc.map e) (L.map (eL e)) = some ((acc ++ L.flatten).map e)
  | [], acc, _ => by simp [sumL]
  | l :: L, acc, h => by
    rw [List.flatten_cons, List.length_append] at h
    rw [List.map_cons, sumL, List.length_map, List.length_map, if_pos (by omega), ← List.map_append, sumL_map L _ (by rw [List.length_append]; omega), List.flatten_cons, List.append_assoc]
theorem z_sum2 {L : List (List α)} {c : List α} (h : sum2O L = some c) : OpF (biOp .sum2 [eL (eL e) L, .lst []]) (.o (List.map e c)) := by
  cases L with
  | nil => cases h
  | cons l L =>
    unfold sum2O at h
    dsimp only at h
    split at h
    · rename_i g
      cases h
      show (sumL [] (eL e l :: L.map (eL e))).map W.own = _
      have := sumL_map (e := e) (l :: L) [] (by simpa using g)
      rw [show sumL [] (eL e l :: L.map (eL e)) = _ from this]
      rfl
    · cases h
abbrev absI (i : Int) : Int := if i < 0 then -i else i
abbrev min2I (i j : Int) : Int := if j < i then j else i
abbrev max2I (i j : Int) : Int := if j > i then j else i
def biI (b : Bi) (d : D) : Option Int := match biOp b [d] with
  | some (.val (.int i)) => some i
  | _ => none
theorem z_biI {b : Bi} {d : D} {c : Int} (h : biI b d = some c) : OpF (biOp b [d]) (.d (eI c)) := by
  unfold biI at h
  split at h
  · rename_i g; cases h; exact g
  · cases h
def lrngO (n : Int) : Option (List Int) := if n ≤ 1048576 ∧ -1073741824 ≤ n then some ((List.range n.toNat).map fun (k : Nat) => (k : Int)) else none
theorem z_lrng {n : Int} {c : List Int} (h : lrngO n = some c) : OpF (biOp .listrange [eI n]) (.o (List.map eI c)) := by
  unfold lrngO at h
  split at h
  · rename_i g
    cases h
    show (if n ≤ 1048576 ∧ -1073741824 ≤ n then some (W.own ((List.range n.toNat).map fun (k : Nat) => D.int (k : Int))) else none) = _
    rw [if_pos g, List.map_map]
    rfl
  · cases h
def lensetO (e : α → D) (l : List α) : Option Int := match biOp .lenset [eL e l] with
  | some (.val (.int i)) => some i
  | _ => none
theorem z_lensetL {l : List α} {c : Int} (h : lensetO e l = some c) : OpF (biOp .lenset [eL e l]) (.d (eI c)) := by
  unfold lensetO at h
  split at h
  · rename_i g; cases h; exact g
  · cases h
def min1O (e : Int → D) (l : List Int) : Option Int := match l with
  | [] => none
  | x :: r => some (minI x r)
def max1O (e : Int → D) (l : List Int) : Option Int := match l with
  | [] => none
  | x :: r => some (maxI x r)
theorem z_min1L {l : List Int} {c : Int} (h : min1O eI l = some c) : OpF (biOp .min1 [eL eI l]) (.d (eI c)) := by
  show min1 _ (getsI (l.map eI)) = _
  rw [getsI_ok]
  cases l with
  | nil => cases h
  | cons x r => cases h; rfl
theorem z_max1L {l : List Int} {c : Int} (h : max1O eI l = some c) : OpF (biOp .max1 [eL eI l]) (.d (eI c)) := by
  show max1 (l.map eI) (getsI (l.map eI)) = _
  rw [getsI_ok]
  cases l with
  | nil => cases h
  | cons x r => cases h; rfl
/-! what is walked -/
def rng1O (n : Int) : Option (List Int) := if n ≤ 1048576 ∧ -1073741824 ≤ n then some ((List.range n.toNat).map fun (k : Nat) => (k : Int)) else none
def rng2O (a b : Int) : Option (List Int) := if b - a ≤ 1048576 ∧ -1073741824 ≤ a ∧ a ≤ 1073741824 ∧ b ≤ 1073741824 ∧ -1073741824 ≤ b then some ((List.range (b - a).toNat).map fun (k : Nat) => a + (k : Int)) else none
theorem it_rng1 {n : Int} {c : List Int} (h : rng1O n = some c) : itOp .rng1 [eI n] = some (c.map eI) := by
  unfold rng1O at h
  split at h
  · rename_i g
    cases h
    show (if n ≤ 1048576 ∧ -1073741824 ≤ n then some ((List.range n.toNat).map fun (k : Nat) => D.int (0 + (k : Int))) else none) = _
    rw [if_pos g, List.map_map]
    congr 2
    funext k
    simp
  · cases h
theorem it_rng2 {a b : Int} {c : List Int} (h : rng2O a b = some c) : itOp .rng2 [eI a, eI b] = some (c.map eI) := by
  unfold rng2O at h
  split at h
  · rename_i g
    cases h
    show (if b - a ≤ 1048576 ∧ -1073741824 ≤ a ∧ a ≤ 1073741824 ∧ b ≤ 1073741824 ∧ -1073741824 ≤ b then some ((List.range (b - a).toNat).map fun (k : Nat) => D.int (a + (k : Int))) else none) = _
    rw [if_pos g, List.map_map]
    rfl
  · cases h
theorem it_seqL {l : List α} : itOp .seq [eL e l] = some (l.map e) := rfl
theorem it_seqT {l : List α} : itOp .seq [eT e l] = some (l.map e) := rfl
theorem it_seqD {d : D} {c : List D} (h : items d = some c) : itOp .seq [d] = some (c.map eD) := by
  rw [show c.map eD = c from List.map_id c]
  exact h
def enumI (l : List α) : List (Int × α) := l.zipIdx.map fun p => ((p.2 : Int), p.1)
theorem enumD_eI : ∀ (l : List α) (k : Nat), enumD k (l.map e) = ((l.zipIdx k).map fun p => ((p.2 : Int), p.1)).map (e2 eI e)
  | [], _ => rfl
  | x :: l, k => by
    rw [List.map_cons, enumD, enumD_eI l, List.zipIdx_cons, List.map_cons, List.map_cons]
theorem it_enumL {l : List α} : itOp .enum [eL e l] = some ((enumI l).map (e2 eI e)) := congrArg some (enumD_eI l 0)
theorem it_enumT {l : List α} : itOp .enum [eT e l] = some ((enumI l).map (e2 eI e)) := congrArg some (enumD_eI l 0)
def enumO (d : D) : Option (List (Int × D)) := (items d).map enumI
theorem it_enumD {d : D} {c : List (Int × D)} (h : enumO d = some c) : itOp .enum [d] = some (c.map (e2 eI eD)) := by
  unfold enumO at h
  obtain ⟨l, e1, rfl⟩ := Option.map_eq_some_iff.mp h
  cases d <;> first | (cases e1; done) | skip
  · cases e1; have := enumD_eI (e := eD) l 0; rw [show l.map eD = l from List.map_id l] at this; exact congrArg some this
  · cases e1; have := enumD_eI (e := eD) l 0; rw [show l.map eD = l from List.map_id l] at this; exact congrArg some this
theorem zip_e : ∀ (l : List α) (m : List β), List.zipWith (fun x y => D.tup [x, y]) (l.map e) (m.map f) = (List.zip l m).map (e2 e f)
  | [], _ => by simp
  | _ :: _, [] => by simp
  | x :: l, y :: m => by
    rw [List.map_cons, List.map_cons, List.zipWith_cons_cons, zip_e, List.zip_cons_cons, List.map_cons]
theorem it_zipL {l : List α} {m : List β} : itOp .zip [eL e l, eL f m] = some ((List.zip l m).map (e2 e f)) := congrArg some (zip_e l m)
theorem it_zipT {l : List α} {m : List β} : itOp .zip [eT e l, eT f m] = some ((List.zip l m).map (e2 e f)) := congrArg some (zip_e l m)
def zipO (a b : D) : Option (List (D × D)) := match a, b with
  | .lst xs, .lst ys => some (List.zip xs ys)
  | .tup xs, .tup ys => some (List.zip xs ys)
  | _, _ => none
theorem it_zipD {a b : D} {c : List (D × D)} (h : zipO a b = some c) : itOp .zip [a, b] = some (c.map (e2 eD eD)) := by
  unfold zipO at h
  split at h
  · rename_i xs ys
    cases h
    have := zip_e (e := eD) (f := eD) xs ys
    rw [show xs.map eD = xs from List.map_id xs, show ys.map eD = ys from List.map_id ys] at this
    exact congrArg some this
  · rename_i xs ys
    cases h
    have := zip_e (e := eD) (f := eD) xs ys
    rw [show xs.map eD = xs from List.map_id xs, show ys.map eD = ys from List.map_id ys] at this
    exact congrArg some this
  · cases h
def un2 : List D → Option (List (D × D))
  | [] => some []
  | .tup [a, b] :: l => (un2 l).map ((a, b) :: ·)
  | _ :: _ => none
def un3 : List D → Option (List (D × D × D))
  | [] => some []
  | .tup [a, b, c] :: l => (un3 l).map ((a, b, c) :: ·)
  | _ :: _ => none
theorem un2_is : ∀ {l : List D} {c : List (D × D)}, un2 l = some c → l = c.map (e2 eD eD)
  | [], c, h => by cases h; rfl
  | x :: l, c, h => by
    unfold un2 at h
    split at h
    · rename_i e; cases e
    · rename_i a b l' e
      cases e
      obtain ⟨c', e1, rfl⟩ := Option.map_eq_some_iff.mp h
      rw [un2_is e1]; rfl
    · cases h
theorem un3_is : ∀ {l : List D} {c : List (D × D × D)}, un3 l = some c → l = c.map (e3 eD eD eD)
  | [], c, h => by cases h; rfl
  | x :: l, c, h => by
    unfold un3 at h
    split at h
    · rename_i e; cases e
    · rename_i a b d l' e
      cases e
      obtain ⟨c', e1, rfl⟩ := Option.map_eq_some_iff.mp h
      rw [un3_is e1]; rfl
    · cases h
def items2 (d : D) : Option (List (D × D)) := (items d).bind un2
def items3 (d : D) : Option (List (D × D × D)) := (items d).bind un3
theorem it_seq2D {d : D} {c : List (D × D)} (h : items2 d = some c) : itOp .seq [d] = some (c.map (e2 eD eD)) := by
  obtain ⟨l, e1, e2⟩ := Option.bind_eq_some_iff.mp h
  rw [← un2_is e2]
  exact e1
theorem it_seq3D {d : D} {c : List (D × D × D)} (h : items3 d = some c) : itOp .seq [d] = some (c.map (e3 eD eD eD)) := by
  obtain ⟨l, e1, e2⟩ := Option.bind_eq_some_iff.mp h
  rw [← un3_is e2]
  exact e1
end
end MT

-- part Ty6
set_option maxHeartbeats 1000000
/-! The def that fills a dict by pairs that meet. -/
namespace MT
open MP
def folP (d e : D) : Option (List (Int × Int)) := (folS d e).map fun ks => ks.map (TE.of (e := e2 eI eI))
theorem folS_ne {d e : D} {ks : List (List Int)} (h : folS d e = some ks) : ∀ k ∈ ks, ∃ a t, k = [a, t] := fun k hk => by
  unfold folS at h
  obtain ⟨xs, _, h1⟩ := Option.bind_eq_some_iff.mp h
  obtain ⟨ys, _, h2⟩ := Option.bind_eq_some_iff.mp h1
  obtain ⟨as, _, h3⟩ := Option.bind_eq_some_iff.mp h2
  obtain ⟨bs, _, h4⟩ := Option.bind_eq_some_iff.mp h3
  split at h4
  · cases h4
    have := (sortUL_mem _ _).mp hk
    obtain ⟨a, _, h5⟩ := List.mem_flatMap.mp this
    unfold rowK at h5
    split at h5
    · obtain ⟨l, _, e⟩ := List.mem_filterMap.mp h5
      split at e
      · split at e
        · cases e; exact ⟨_, _, rfl⟩
        · cases e
      · cases e
    · cases h5
  · cases h4
theorem fn_folw {P : Nat → Option Fn} {f n : Nat} (hP : P f = some ⟨2, 7, .folw⟩) (d e : D) : FN (callF P (n + 1)) f [.val (eD d), .val (eD e)] (folP d e) (fun v => .o (List.map (e2 eI eI) v)) (fun _ => [.val (eD d), .val (eD e)]) := fun v h => by
  unfold folP at h
  obtain ⟨ks, h1, h2⟩ := Option.map_eq_some_iff.mp h
  subst h2
  have out : (ks.map (TE.of (e := e2 eI eI))).map (e2 eI eI) = ks.map tupI := by
    rw [List.map_map]
    refine List.map_congr_left fun k hk => ?_
    obtain ⟨a, t, rfl⟩ := folS_ne h1 k hk
    rfl
  refine ⟨.own (ks.map tupI), ?_, ?_, trivial⟩
  · rw [callF]
    dsimp only
    rw [hP]
    show (ex (callF P n) .folw [.val d, .val e, .no, .no, .no, .no, .no]).fin _ = _
    rw [ex, folR]
    rw [h1]
    rfl
  · show Wk.Is (.o _) _
    rw [out]
    rfl
end MT

-- part X04
set_option maxHeartbeats 1000000
namespace MT
open MP
/-- is_integer -/
def t_is_integer (thing' : Int) : Option (Bool) :=
  (Option.bind (some (true && (!false))) fun (u1 : Bool) => some u1)
theorem t_is_integer_ok (n : Nat) (thing' : Int) : FN (callF prog (n + 1)) 0 [.val (eI thing')] (t_is_integer thing') (fun (v : Bool) => .d (eB v)) (fun (v : Bool) => [.val (eI thing')]) := by
  have h : ST (callF prog (n + 0)) [.val (eI thing')] b_is_integer _ (fun (v : Bool) => .d (eB v)) (fun (v : Bool) => []) := (st_dead (st_ret (fun (u1 : Bool) => u1) (EV.up (k := (fun c => .d (eB c))) (true && (!false)) (ev_tk (ev_and (ev_isi (da := (eI thing')) (ev_var (d := eI thing') rfl) rfl rfl) (ev_not (ev_isi (da := (eI thing')) (ev_var (d := eI thing') rfl) rfl rfl))))) (fun _ => trivial) (fun _ => rfl) (fun _ => MO.nil)))
  exact fn_of (fn := f_is_integer) rfl rfl h (fun _ => rfl)
/-- is_within -/
def t_is_within (thing' : Int) (low' : Int) (high' : Int) : Option (Bool) :=
  (Option.bind ((Option.bind (t_is_integer thing') fun (c2 : Bool) => bif c2 then some (decide (low' ≤ thing') && decide (thing' ≤ high')) else some false)) fun (c4 : Bool) => some c4)
theorem t_is_within_ok (n : Nat) (thing' : Int) (low' : Int) (high' : Int) : FN (callF prog (n + 2)) 1 [.val (eI thing'), .val (eI low'), .val (eI high')] (t_is_within thing' low' high') (fun (v : Bool) => .d (eB v)) (fun (v : Bool) => [.val (eI thing'), .val (eI low'), .val (eI high')]) := by
  have h : ST (callF prog (n + 1)) [.val (eI thing'), .val (eI low'), .val (eI high')] b_is_within _ (fun (v : Bool) => .d (eB v)) (fun (v : Bool) => []) := (st_dead (st_ret (fun (c4 : Bool) => c4) (ex_tk (d := fun (c4 : Bool) => eB c4) (ex_and (d := fun (c2 : Bool) => c2) (k := fun c => .d (eB c)) (fun _ => false) (ex_callV0 (evs_cons (ev_tk (ev_var (d := eI thing') rfl)) evs_nil) rfl rfl (t_is_integer_ok (n + 0) thing') (fun _ => rfl)) (fun (c2 : Bool) => (EV.up (k := (fun c => .d (eB c))) (decide (low' ≤ thing') && decide (thing' ≤ high')) (ev_chain (t := decide (low' ≤ thing')) (t2 := decide (thing' ≤ high')) (ev_var (d := eI low') rfl) (ev_var (d := eI thing') rfl) (ev_var (d := eI high') rfl) rfl rfl rfl rfl rfl))) (fun _ => rfl) (fun _ => Le.refl))) (fun _ => trivial) (fun _ => rfl) (fun _ => MO.nil)))
  exact fn_of (fn := f_is_within) rfl rfl h (fun _ => rfl)
/-- is_tuple -/
def t_is_tuple (thing' : (Int × Int)) (least' : Int) (most' : Int) : Option (Bool) :=
  (Option.bind (some (true && (decide (least' ≤ (List.length [thing'.1, thing'.2] : Int)) && decide ((List.length [thing'.1, thing'.2] : Int) ≤ most')))) fun (u6 : Bool) => some u6)
theorem t_is_tuple_ok (n : Nat) (thing' : (Int × Int)) (least' : Int) (most' : Int) : FN (callF prog (n + 1)) 2 [.val ((e2 eI eI) thing'), .val (eI least'), .val (eI most')] (t_is_tuple thing' least' most') (fun (v : Bool) => .d (eB v)) (fun (v : Bool) => [.val ((e2 eI eI) thing'), .val (eI least'), .val (eI most')]) := by
  have h : ST (callF prog (n + 0)) [.val ((e2 eI eI) thing'), .val (eI least'), .val (eI most')] b_is_tuple _ (fun (v : Bool) => .d (eB v)) (fun (v : Bool) => []) := (st_dead (st_ret (fun (u6 : Bool) => u6) (EV.up (k := (fun c => .d (eB c))) (true && (decide (least' ≤ (List.length [thing'.1, thing'.2] : Int)) && decide ((List.length [thing'.1, thing'.2] : Int) ≤ most'))) (ev_tk (ev_and (ev_isi (da := ((e2 eI eI) thing')) (ev_var (d := (e2 eI eI) thing') rfl) rfl rfl) (ev_chain (t := decide (least' ≤ (List.length [thing'.1, thing'.2] : Int))) (t2 := decide ((List.length [thing'.1, thing'.2] : Int) ≤ most')) (ev_var (d := eI least') rfl) (ev_bi (k := .d (eI (List.length [thing'.1, thing'.2] : Int))) (ds := [((eT eI) [thing'.1, thing'.2])]) (evs_cons (ev_var (d := (e2 eI eI) thing') rfl) evs_nil) ⟨rfl, trivial⟩ op_lenT) (ev_var (d := eI most') rfl) rfl rfl rfl rfl rfl)))) (fun _ => trivial) (fun _ => rfl) (fun _ => MO.nil)))
  exact fn_of (fn := f_is_tuple) rfl rfl h (fun _ => rfl)
/-- is_size -/
def t_is_size (thing' : Int) : Option (Bool) :=
  (Option.bind (t_is_within thing' 1 6) fun (c7 : Bool) => some c7)
theorem t_is_size_ok (n : Nat) (thing' : Int) : FN (callF prog (n + 3)) 3 [.val (eI thing')] (t_is_size thing') (fun (v : Bool) => .d (eB v)) (fun (v : Bool) => [.val (eI thing')]) := by
  have h : ST (callF prog (n + 2)) [.val (eI thing')] b_is_size _ (fun (v : Bool) => .d (eB v)) (fun (v : Bool) => []) := (st_dead (st_ret (fun (c7 : Bool) => c7) (ex_tk (d := fun (c7 : Bool) => eB c7) (ex_callV0 (evs_cons (ev_tk (ev_var (d := eI thing') rfl)) (evs_cons ev_lit (evs_cons (ev_tk ev_lit) evs_nil))) rfl rfl (t_is_within_ok (n + 0) thing' 1 6) (fun _ => rfl))) (fun _ => trivial) (fun _ => rfl) (fun _ => MO.nil)))
  exact fn_of (fn := f_is_size) rfl rfl h (fun _ => rfl)
/-- check_size -/
def t_check_size (size' : Int) : Option (Unit) :=
  (Option.bind ((Option.bind (t_is_size size') fun (c8 : Bool) => bif (!c8) then none else some ())) fun p9 => some ())
theorem t_check_size_ok (n : Nat) (size' : Int) : FN (callF prog (n + 4)) 4 [.val (eI size')] (t_check_size size') (fun (_ : Unit) => .d .non) (fun (v : Unit) => [.val (eI size')]) := by
  have h : SN (callF prog (n + 3)) [.val (eI size')] b_check_size _ (fun (v : Unit) => [.any]) := (sn_seq (sn_ite (d := fun (c8 : Bool) => (!c8)) (I := fun (p9 : Unit) => [.val (eI size')]) (ex_not (d := fun (c8 : Bool) => c8) (ex_callV0 (evs_cons (ev_tk (ev_var (d := eI size') rfl)) evs_nil) rfl rfl (t_is_size_ok (n + 0) size') (fun _ => rfl))) (fun (c8 : Bool) => sn_none) (fun (c8 : Bool) => (sn_end () (Le.same Le.nil)))) (fun p9 => (sn_end () (Le.drop rfl Le.nil))))
  exact fn_next (fn := f_check_size) (N := (fun (v : Unit) => [])) rfl rfl h (fun _ => MO.nil) (fun _ => rfl)
/-- are_pairs -/
def t_are_pairs (size' : Int) (thing' : (List (Int × Int))) : Option (Bool) :=
  (Option.bind ((Option.bind (some (!true)) fun (u16 : Bool) => bif u16 then some true else (Option.bind ((Option.bind ((Option.bind (some thing') fun (l12 : List (Int × Int)) => compO (fun (a10 : (Int × Int)) => some true) (fun (a10 : (Int × Int)) => t_is_tuple a10 2 2) l12)) fun (c14 : List Bool) => some (List.all c14 id))) fun (c15 : Bool) => some (!c15)))) fun (c17 : Bool) => bif c17 then (Option.bind (some false) fun (u18 : Bool) => some u18) else (Option.bind (some ()) fun (p19 : Unit) => (Option.bind ((Option.bind ((Option.bind (some thing') fun (l28 : List (Int × Int)) => compO (fun (a20 : (Int × Int)) => some true) (fun (a20 : (Int × Int)) => (Option.bind ((Option.bind (some [a20.1, a20.2]) fun (l24 : List Int) => compO (fun (a21 : Int) => some true) (fun (a21 : Int) => t_is_within a21 0 (size' - 1)) l24)) fun (c26 : List Bool) => some (List.all c26 id))) l28)) fun (c30 : List Bool) => some (List.all c30 id))) fun (c31 : Bool) => bif (!c31) then (Option.bind (some false) fun (u32 : Bool) => some u32) else (Option.bind (some ()) fun (p33 : Unit) => (Option.bind (some (List.all (List.map (fun (a34 : ((Int × Int) × (Int × Int))) => (ltP a34.1 a34.2)) (List.filter (fun (a34 : ((Int × Int) × (Int × Int))) => true) (List.zip thing' (cut thing' (some 1) none)))) id)) fun (u37 : Bool) => some u37)))))
theorem t_are_pairs_ok (n : Nat) (size' : Int) (thing' : (List (Int × Int))) : FN (callF prog (n + 3)) 5 [.val (eI size'), .val ((eT (e2 eI eI)) thing')] (t_are_pairs size' thing') (fun (v : Bool) => .d (eB v)) (fun (v : Bool) => [.val (eI size'), .val ((eT (e2 eI eI)) thing')]) := by
  have h : ST (callF prog (n + 2)) [.val (eI size'), .val ((eT (e2 eI eI)) thing'), .any, .any, .any] b_are_pairs _ (fun (v : Bool) => .d (eB v)) (fun (v : Bool) => []) := (st_push (d := fun (c17 : Bool) => c17) (ex_or (d := fun (u16 : Bool) => u16) (k := fun c => .d (eB c)) (fun _ => true) (EV.up (k := (fun c => .d (eB c))) (!true) (ev_not (ev_isi (da := ((eT (e2 eI eI)) thing')) (ev_var (d := (eT (e2 eI eI)) thing') rfl) rfl rfl))) (fun (u16 : Bool) => (EX.map (k' := (fun c => .d (eB c))) (q' := fun _ => _) (fun (c15 : Bool) => (!c15)) (ex_not (d := fun (c15 : Bool) => c15) (ex_opN (ds := fun (c14 : List Bool) => [(eL eB c14)]) (z := fun (c14 : List Bool) => some (List.all c14 id)) (k := (fun c => .d (eB c))) str_bi (exs_consL (ex_lc (p := fun l12 (a10 : (Int × Int)) => some true) (g := fun l12 (a10 : (Int × Int)) => t_is_tuple a10 2 2) (enc' := eB) (IV.up (iv_of (ds := [((eT (e2 eI eI)) thing')]) (l := thing') (enc := (e2 eI eI)) (evs_cons (ev_var (d := (eT (e2 eI eI)) thing') rfl) evs_nil) ⟨rfl, trivial⟩ it_seqT)) (fun l12 a10 => rfl) (fun l12 a10 => (EV.up (k := (fun c => .d (eB c))) true ev_lit)) (fun l12 a10 => (ex_tk (d := fun (c11 : Bool) => eB c11) (ex_callV0 (evs_cons (ev_tk (ev_var (d := (e2 eI eI) a10) rfl)) (evs_cons ev_lit (evs_cons ev_lit evs_nil))) rfl rfl (t_is_tuple_ok (n + 1) a10 2 2) (fun _ => rfl)))) (fun _ _ => Le.refl) (fun _ => rfl)) (fun (c14 : List Bool) => evs_nil)) (fun (c14 : List Bool) => ⟨rfl, trivial⟩) (fun _ => rfl) (fun (c14 : List Bool) => zt (k := (fun c => .d (eB c))) op_all))) (fun _ => rfl) (fun _ => rfl))) (fun _ => rfl) (fun _ => Le.refl)) (fun (c17 : Bool) => (st_dead (st_dead (st_ret (fun (u18 : Bool) => u18) (EV.up (k := (fun c => .d (eB c))) false ev_lit) (fun _ => trivial) (fun _ => rfl) (fun _ => MO.nil))))) (fun (c17 : Bool) => (st_seq (q := fun (p19 : Unit) => [.val (eI size'), .val ((eT (e2 eI eI)) thing'), .any, .any, .any]) (sn_end () (Le.same (Le.same (Le.drop rfl (Le.drop rfl (Le.drop rfl Le.nil)))))) (fun p19 => (st_push (d := fun (c31 : Bool) => (!c31)) (ex_not (d := fun (c31 : Bool) => c31) (ex_opN (ds := fun (c30 : List Bool) => [(eL eB c30)]) (z := fun (c30 : List Bool) => some (List.all c30 id)) (k := (fun c => .d (eB c))) str_bi (exs_consL (ex_lc (p := fun l28 (a20 : (Int × Int)) => some true) (g := fun l28 (a20 : (Int × Int)) => (Option.bind ((Option.bind (some [a20.1, a20.2]) fun (l24 : List Int) => compO (fun (a21 : Int) => some true) (fun (a21 : Int) => t_is_within a21 0 (size' - 1)) l24)) fun (c26 : List Bool) => some (List.all c26 id))) (enc' := eB) (IV.up (iv_of (ds := [((eT (e2 eI eI)) thing')]) (l := thing') (enc := (e2 eI eI)) (evs_cons (ev_var (d := (eT (e2 eI eI)) thing') rfl) evs_nil) ⟨rfl, trivial⟩ it_seqT)) (fun l28 a20 => rfl) (fun l28 a20 => (EV.up (k := (fun c => .d (eB c))) true ev_lit)) (fun l28 a20 => (ex_tk (d := fun (c27 : Bool) => eB c27) (ex_opN (ds := fun (c26 : List Bool) => [(eL eB c26)]) (z := fun (c26 : List Bool) => some (List.all c26 id)) (k := (fun c => .d (eB c))) str_bi (exs_consL (ex_lc (p := fun l24 (a21 : Int) => some true) (g := fun l24 (a21 : Int) => t_is_within a21 0 (size' - 1)) (enc' := eB) (IV.up (iv_of (ds := [((eT eI) [a20.1, a20.2])]) (l := [a20.1, a20.2]) (enc := eI) (evs_cons (ev_var (d := (e2 eI eI) a20) rfl) evs_nil) ⟨rfl, trivial⟩ it_seqT)) (fun l24 a21 => rfl) (fun l24 a21 => (EV.up (k := (fun c => .d (eB c))) true ev_lit)) (fun l24 a21 => (ex_tk (d := fun (c23 : Bool) => eB c23) (ex_callV0 (evs_cons (ev_tk (ev_var (d := eI a21) rfl)) (evs_cons ev_lit (evs_cons (ev_tk (ev_bin (k := .d (eI (size' - 1))) (da := (eI size')) (db := (eI 1)) (ev_var (d := eI size') rfl) ev_lit rfl rfl rfl)) evs_nil))) rfl rfl (t_is_within_ok (n + 0) a21 0 (size' - 1)) (fun _ => rfl)))) (fun _ _ => Le.refl) (fun _ => rfl)) (fun (c26 : List Bool) => evs_nil)) (fun (c26 : List Bool) => ⟨rfl, trivial⟩) (fun _ => rfl) (fun (c26 : List Bool) => zt (k := (fun c => .d (eB c))) op_all)))) (fun _ _ => Le.refl) (fun _ => rfl)) (fun (c30 : List Bool) => evs_nil)) (fun (c30 : List Bool) => ⟨rfl, trivial⟩) (fun _ => rfl) (fun (c30 : List Bool) => zt (k := (fun c => .d (eB c))) op_all))) (fun (c31 : Bool) => (st_dead (st_dead (st_ret (fun (u32 : Bool) => u32) (EV.up (k := (fun c => .d (eB c))) false ev_lit) (fun _ => trivial) (fun _ => rfl) (fun _ => MO.nil))))) (fun (c31 : Bool) => (st_seq (q := fun (p33 : Unit) => [.val (eI size'), .val ((eT (e2 eI eI)) thing'), .any, .any, .any]) (sn_end () (Le.same (Le.same (Le.drop rfl (Le.drop rfl (Le.drop rfl Le.nil)))))) (fun p33 => (st_dead (st_ret (fun (u37 : Bool) => u37) (EV.up (k := (fun c => .d (eB c))) (List.all (List.map (fun (a34 : ((Int × Int) × (Int × Int))) => (ltP a34.1 a34.2)) (List.filter (fun (a34 : ((Int × Int) × (Int × Int))) => true) (List.zip thing' (cut thing' (some 1) none)))) id) (ev_tk (ev_bi (k := .d (eB (List.all (List.map (fun (a34 : ((Int × Int) × (Int × Int))) => (ltP a34.1 a34.2)) (List.filter (fun (a34 : ((Int × Int) × (Int × Int))) => true) (List.zip thing' (cut thing' (some 1) none)))) id))) (ds := [(eL eB (List.map (fun (a34 : ((Int × Int) × (Int × Int))) => (ltP a34.1 a34.2)) (List.filter (fun (a34 : ((Int × Int) × (Int × Int))) => true) (List.zip thing' (cut thing' (some 1) none)))))]) (evs_cons (ev_lc (p := fun (a34 : ((Int × Int) × (Int × Int))) => true) (g := fun (a34 : ((Int × Int) × (Int × Int))) => (ltP a34.1 a34.2)) (enc' := eB) (iv_of (ds := [((eT (e2 eI eI)) thing'), ((eT (e2 eI eI)) (cut thing' (some 1) none))]) (l := (List.zip thing' (cut thing' (some 1) none))) (enc := (e2 (e2 eI eI) (e2 eI eI))) (evs_cons (ev_var (d := (eT (e2 eI eI)) thing') rfl) (evs_cons (ev_cut (k := .d ((eT (e2 eI eI)) (cut thing' (some 1) none))) (da := ((eT (e2 eI eI)) thing')) (ev_var (d := (eT (e2 eI eI)) thing') rfl) (pv_of ev_lit (fun z => nomatch z)) pv_no rfl op_cutT) evs_nil)) ⟨rfl, rfl, trivial⟩ it_zipT) (fun a34 => rfl) (fun a34 => ev_lit) (fun a34 => (ev_cmpK (k := .d (eB (ltP a34.1 a34.2))) (da := ((e2 eI eI) a34.1)) (db := ((e2 eI eI) a34.2)) (ev_var (d := (e2 eI eI) a34.1) rfl) (ev_var (d := (e2 eI eI) a34.2) rfl) rfl rfl (q_lt2 _ _))) (fun _ => Le.refl) rfl) evs_nil) ⟨rfl, trivial⟩ op_all))) (fun _ => trivial) (fun _ => rfl) (fun _ => MO.nil)))))))))))
  exact fn_of (fn := f_are_pairs) rfl rfl h (fun _ => rfl)
/-- check_any -/
def t_check_any (pairs' : (List (Int × Int))) : Option (Unit) :=
  (Option.bind ((Option.bind (t_are_pairs 6 pairs') fun (c38 : Bool) => bif (!c38) then none else some ())) fun p39 => some ())
theorem t_check_any_ok (n : Nat) (pairs' : (List (Int × Int))) : FN (callF prog (n + 4)) 6 [.val ((eT (e2 eI eI)) pairs')] (t_check_any pairs') (fun (_ : Unit) => .d .non) (fun (v : Unit) => [.val ((eT (e2 eI eI)) pairs')]) := by
  have h : SN (callF prog (n + 3)) [.val ((eT (e2 eI eI)) pairs')] b_check_any _ (fun (v : Unit) => [.any]) := (sn_seq (sn_ite (d := fun (c38 : Bool) => (!c38)) (I := fun (p39 : Unit) => [.val ((eT (e2 eI eI)) pairs')]) (ex_not (d := fun (c38 : Bool) => c38) (ex_callV0 (evs_cons (ev_tk ev_lit) (evs_cons (ev_tk (ev_var (d := (eT (e2 eI eI)) pairs') rfl)) evs_nil)) rfl rfl (t_are_pairs_ok (n + 0) 6 pairs') (fun _ => rfl))) (fun (c38 : Bool) => sn_none) (fun (c38 : Bool) => (sn_end () (Le.same Le.nil)))) (fun p39 => (sn_end () (Le.drop rfl Le.nil))))
  exact fn_next (fn := f_check_any) (N := (fun (v : Unit) => [])) rfl rfl h (fun _ => MO.nil) (fun _ => rfl)
/-- check_sized -/
def t_check_sized (size' : Int) (pairs' : (List (Int × Int))) : Option (Unit) :=
  (Option.bind (t_check_size size') fun (c40 : Unit) => (Option.bind ((Option.bind (t_are_pairs size' pairs') fun (c41 : Bool) => bif (!c41) then none else some ())) fun p42 => some ()))
theorem t_check_sized_ok (n : Nat) (size' : Int) (pairs' : (List (Int × Int))) : FN (callF prog (n + 5)) 7 [.val (eI size'), .val ((eT (e2 eI eI)) pairs')] (t_check_sized size' pairs') (fun (_ : Unit) => .d .non) (fun (v : Unit) => [.val (eI size'), .val ((eT (e2 eI eI)) pairs')]) := by
  have h : SN (callF prog (n + 4)) [.val (eI size'), .val ((eT (e2 eI eI)) pairs')] b_check_sized _ (fun (v : Unit) => [.any, .any]) := (sn_seq (SN.to (q' := fun (c40 : Unit) => [.val (eI size'), .val ((eT (e2 eI eI)) pairs')]) (sn_expr (ex_callV0 (evs_cons (ev_tk (ev_var (d := eI size') rfl)) evs_nil) rfl rfl (t_check_size_ok (n + 0) size') (fun _ => rfl))) (fun _ => (Le.same (Le.same Le.nil)))) (fun (c40 : Unit) => (sn_seq (sn_ite (d := fun (c41 : Bool) => (!c41)) (I := fun (p42 : Unit) => [.val (eI size'), .val ((eT (e2 eI eI)) pairs')]) (ex_not (d := fun (c41 : Bool) => c41) (ex_callV0 (evs_cons (ev_tk (ev_var (d := eI size') rfl)) (evs_cons (ev_tk (ev_var (d := (eT (e2 eI eI)) pairs') rfl)) evs_nil)) rfl rfl (t_are_pairs_ok (n + 1) size' pairs') (fun _ => rfl))) (fun (c41 : Bool) => sn_none) (fun (c41 : Bool) => (sn_end () (Le.same (Le.same Le.nil))))) (fun p42 => (sn_end () (Le.drop rfl (Le.drop rfl Le.nil)))))))
  exact fn_next (fn := f_check_sized) (N := (fun (v : Unit) => [])) rfl rfl h (fun _ => MO.nil) (fun _ => rfl)
/-- turned -/
def t_turned (pairs' : (List (Int × Int))) : Option ((List (Int × Int))) :=
  (Option.bind (t_check_any pairs') fun (c43 : Unit) => (Option.bind ((Option.bind (sortO (e2 eI eI) (List.map (fun (a44 : (Int × Int)) => (a44.2, a44.1)) (List.filter (fun (a44 : (Int × Int)) => true) pairs'))) fun (c45 : (List (Int × Int))) => some c45)) fun (c46 : (List (Int × Int))) => some c46))
theorem t_turned_ok (n : Nat) (pairs' : (List (Int × Int))) : FN (callF prog (n + 5)) 8 [.val ((eT (e2 eI eI)) pairs')] (t_turned pairs') (fun (v : (List (Int × Int))) => .d ((eT (e2 eI eI)) v)) (fun (v : (List (Int × Int))) => [.val ((eT (e2 eI eI)) pairs')]) := by
  have h : ST (callF prog (n + 4)) [.val ((eT (e2 eI eI)) pairs'), .any, .any] b_turned _ (fun (v : (List (Int × Int))) => .d ((eT (e2 eI eI)) v)) (fun (v : (List (Int × Int))) => []) := (st_seq (SN.to (q' := fun (c43 : Unit) => [.val ((eT (e2 eI eI)) pairs'), .any, .any]) (sn_expr (ex_callV0 (evs_cons (ev_tk (ev_var (d := (eT (e2 eI eI)) pairs') rfl)) evs_nil) rfl rfl (t_check_any_ok (n + 0) pairs') (fun _ => rfl))) (fun _ => (Le.same (Le.drop rfl (Le.drop rfl Le.nil))))) (fun (c43 : Unit) => (st_dead (st_ret (fun (c46 : (List (Int × Int))) => c46) (ex_tk (d := fun (c46 : (List (Int × Int))) => (eT (e2 eI eI)) c46) (ex_opN (ds := fun (c45 : (List (Int × Int))) => [(eL (e2 eI eI) c45)]) (z := fun (c45 : (List (Int × Int))) => some c45) (k := (fun c => .d ((eT (e2 eI eI)) c))) str_bi (exs_consL (ex_opNV (z := sortO (e2 eI eI) (List.map (fun (a44 : (Int × Int)) => (a44.2, a44.1)) (List.filter (fun (a44 : (Int × Int)) => true) pairs'))) (k := (fun c => .o (List.map (e2 eI eI) c))) (ds := [(eL (e2 eI eI) (List.map (fun (a44 : (Int × Int)) => (a44.2, a44.1)) (List.filter (fun (a44 : (Int × Int)) => true) pairs')))]) str_bi (evs_cons (ev_lc (p := fun (a44 : (Int × Int)) => true) (g := fun (a44 : (Int × Int)) => (a44.2, a44.1)) (enc' := (e2 eI eI)) (iv_of (ds := [((eT (e2 eI eI)) pairs')]) (l := pairs') (enc := (e2 eI eI)) (evs_cons (ev_var (d := (eT (e2 eI eI)) pairs') rfl) evs_nil) ⟨rfl, trivial⟩ it_seqT) (fun a44 => rfl) (fun a44 => ev_lit) (fun a44 => (ev_tup (evs_cons (ev_tk (ev_var (d := eI a44.2) rfl)) (evs_cons (ev_tk (ev_var (d := eI a44.1) rfl)) evs_nil)) (AllD.cons (AllD.cons AllD.nil)))) (fun _ => Le.refl) rfl) evs_nil) ⟨rfl, trivial⟩ (fun c => z_sortL)) (fun (c45 : (List (Int × Int))) => evs_nil)) (fun (c45 : (List (Int × Int))) => ⟨rfl, trivial⟩) (fun _ => rfl) (fun (c45 : (List (Int × Int))) => zt (k := (fun c => .d ((eT (e2 eI eI)) c))) rfl))) (fun _ => trivial) (fun _ => rfl) (fun _ => MO.nil)))))
  exact fn_of (fn := f_turned) rfl rfl h (fun _ => rfl)
/-- followed_of -/
def t_followed_of (one' other' : D) : Option (List (Int × Int)) := folP one' other'
theorem t_followed_of_ok (n : Nat) (one' other' : D) : FN (callF prog (n + 1)) 9 [.val (eD one'), .val (eD other')] (t_followed_of one' other') (fun (v : List (Int × Int)) => .o (List.map (e2 eI eI) v)) (fun (_ : List (Int × Int)) => [.val (eD one'), .val (eD other')]) := fn_folw rfl one' other'
/-- followed -/
def t_followed (one' : (List (Int × Int))) (other' : (List (Int × Int))) : Option ((List (Int × Int))) :=
  (Option.bind (t_check_any one') fun (c47 : Unit) => (Option.bind (t_check_any other') fun (c48 : Unit) => (Option.bind ((Option.bind (t_followed_of ((eT (e2 eI eI)) one') ((eT (e2 eI eI)) other')) fun (c49 : (List (Int × Int))) => some c49)) fun (c50 : (List (Int × Int))) => some c50)))
theorem t_followed_ok (n : Nat) (one' : (List (Int × Int))) (other' : (List (Int × Int))) : FN (callF prog (n + 5)) 10 [.val ((eT (e2 eI eI)) one'), .val ((eT (e2 eI eI)) other')] (t_followed one' other') (fun (v : (List (Int × Int))) => .d ((eT (e2 eI eI)) v)) (fun (v : (List (Int × Int))) => [.val ((eT (e2 eI eI)) one'), .val ((eT (e2 eI eI)) other')]) := by
  have h : ST (callF prog (n + 4)) [.val ((eT (e2 eI eI)) one'), .val ((eT (e2 eI eI)) other')] b_followed _ (fun (v : (List (Int × Int))) => .d ((eT (e2 eI eI)) v)) (fun (v : (List (Int × Int))) => []) := (st_seq (SN.to (q' := fun (c47 : Unit) => [.val ((eT (e2 eI eI)) one'), .val ((eT (e2 eI eI)) other')]) (sn_expr (ex_callV0 (evs_cons (ev_tk (ev_var (d := (eT (e2 eI eI)) one') rfl)) evs_nil) rfl rfl (t_check_any_ok (n + 0) one') (fun _ => rfl))) (fun _ => (Le.same (Le.same Le.nil)))) (fun (c47 : Unit) => (st_seq (SN.to (q' := fun (c48 : Unit) => [.val ((eT (e2 eI eI)) one'), .val ((eT (e2 eI eI)) other')]) (sn_expr (ex_callV0 (evs_cons (ev_tk (ev_var (d := (eT (e2 eI eI)) other') rfl)) evs_nil) rfl rfl (t_check_any_ok (n + 0) other') (fun _ => rfl))) (fun _ => (Le.same (Le.same Le.nil)))) (fun (c48 : Unit) => (st_dead (st_ret (fun (c50 : (List (Int × Int))) => c50) (ex_tk (d := fun (c50 : (List (Int × Int))) => (eT (e2 eI eI)) c50) (ex_opN (ds := fun (c49 : (List (Int × Int))) => [(eL (e2 eI eI) c49)]) (z := fun (c49 : (List (Int × Int))) => some c49) (k := (fun c => .d ((eT (e2 eI eI)) c))) str_bi (exs_consL (ex_callV0 (evs_cons (ev_tk (ev_var (d := (eT (e2 eI eI)) one') rfl)) (evs_cons (ev_tk (ev_var (d := (eT (e2 eI eI)) other') rfl)) evs_nil)) rfl rfl (t_followed_of_ok (n + 3) ((eT (e2 eI eI)) one') ((eT (e2 eI eI)) other')) (fun _ => rfl)) (fun (c49 : (List (Int × Int))) => evs_nil)) (fun (c49 : (List (Int × Int))) => ⟨rfl, trivial⟩) (fun _ => rfl) (fun (c49 : (List (Int × Int))) => zt (k := (fun c => .d ((eT (e2 eI eI)) c))) rfl))) (fun _ => trivial) (fun _ => rfl) (fun _ => MO.nil)))))))
  exact fn_of (fn := f_followed) rfl rfl h (fun _ => rfl)
/-- often_of -/
def t_often_of (pairs' : (List (Int × Int))) : Option ((List (Int × Int))) :=
  (Option.bind (sortsetT (e2 eI eI) pairs') fun (c51 : (List (Int × Int))) => (Option.bind ((whO (fun (s52 : (List (Int × Int)) × (List (Int × Int))) => (Option.bind (some (!decide (s52.1 = s52.2))) fun (u54 : Bool) => some (u54, (s52.1, s52.2)))) (fun (p55 : Bool × (List (Int × Int)) × (List (Int × Int))) => p55.1) (fun (p55 : Bool × (List (Int × Int)) × (List (Int × Int))) => p55.2) (fun (p55 : Bool × (List (Int × Int)) × (List (Int × Int))) => (Option.bind (some p55.2.1) fun (u56 : (List (Int × Int))) => (Option.bind ((Option.bind ((Option.bind (t_followed_of ((eL (e2 eI eI)) p55.2.1) ((eL (e2 eI eI)) p55.2.1)) fun (c57 : (List (Int × Int))) => catO p55.2.1 c57)) fun (c58 : (List (Int × Int))) => sortsetT (e2 eI eI) c58)) fun (c59 : (List (Int × Int))) => some (c59, u56)))) WN (c51, []))) fun s52 => (Option.bind (some s52.1) fun (u60 : (List (Int × Int))) => some u60)))
theorem t_often_of_ok (n : Nat) (pairs' : (List (Int × Int))) : FN (callF prog (n + 2)) 11 [.val ((eT (e2 eI eI)) pairs')] (t_often_of pairs') (fun (v : (List (Int × Int))) => .d ((eL (e2 eI eI)) v)) (fun (v : (List (Int × Int))) => [.val ((eT (e2 eI eI)) pairs')]) := by
  have h : ST (callF prog (n + 1)) [.val ((eT (e2 eI eI)) pairs'), .any, .any] b_often_of _ (fun (v : (List (Int × Int))) => .d ((eL (e2 eI eI)) v)) (fun (v : (List (Int × Int))) => []) := (st_seq (SN.to (q' := fun (c51 : (List (Int × Int))) => [.any, .val ((eL (e2 eI eI)) c51), .val ((eL (e2 eI eI)) [])]) (sn_fz (sn_fz (sn_par (exs_consL (ex_opNV (z := sortsetT (e2 eI eI) pairs') (k := (fun c => .o (List.map (e2 eI eI) c))) (ds := [((eT (e2 eI eI)) pairs')]) str_bi (evs_cons (ev_var (d := (eT (e2 eI eI)) pairs') rfl) evs_nil) ⟨rfl, trivial⟩ (fun c => z_sortsetTT)) (fun (c51 : (List (Int × Int))) => (evs_cons (ev_list evs_nil AllD.nil) evs_nil))) (fun _ => rfl)) (fun _ => rfl)) (fun _ => rfl)) (fun _ => (Le.drop rfl (Le.same (Le.same Le.nil))))) (fun (c51 : (List (Int × Int))) => (st_seq (sn_wh (vb := fun (p55 : Bool × (List (Int × Int)) × (List (Int × Int))) => p55.1) (fun (s52 : (List (Int × Int)) × (List (Int × Int))) => [.any, .val ((eL (e2 eI eI)) s52.1), .val ((eL (e2 eI eI)) s52.2)]) (c51, []) (fun (p55 : Bool × (List (Int × Int)) × (List (Int × Int))) => p55.2) (Le.drop rfl (Le.same (Le.same Le.nil))) (fun s52 => (EX.map (k' := fun (p55 : Bool × (List (Int × Int)) × (List (Int × Int))) => .d (eB p55.1)) (q' := fun (p55 : Bool × (List (Int × Int)) × (List (Int × Int))) => [.any, .val ((eL (e2 eI eI)) p55.2.1), .val ((eL (e2 eI eI)) p55.2.2)]) (fun (u54 : Bool) => (u54, (s52.1, s52.2))) (EV.up (k := (fun c => .d (eB c))) (!decide (s52.1 = s52.2)) (ev_cmpK (k := .d (eB (!decide (s52.1 = s52.2)))) (da := ((eL (e2 eI eI)) s52.1)) (db := ((eL (e2 eI eI)) s52.2)) (ev_var (d := (eL (e2 eI eI)) s52.1) rfl) (ev_var (d := (eL (e2 eI eI)) s52.2) rfl) rfl rfl (q_ne _ _))) (fun _ => rfl) (fun _ => rfl))) (fun _ => (Le.drop rfl (Le.same (Le.same Le.nil)))) (fun (p55 : Bool × (List (Int × Int)) × (List (Int × Int))) => (sn_seq (SN.to (q' := fun (u56 : (List (Int × Int))) => [.any, .val ((eL (e2 eI eI)) p55.2.1), .val ((eL (e2 eI eI)) u56)]) (sn_asn (EV.up (k := (fun c => .d ((eL (e2 eI eI)) c))) p55.2.1 (ev_tk (ev_var (d := (eL (e2 eI eI)) p55.2.1) rfl))) (fun _ => trivial) (fun _ => rfl)) (fun _ => (Le.drop rfl (Le.same (Le.same Le.nil))))) (fun (u56 : (List (Int × Int))) => (sn_seq (SN.to (q' := fun (c59 : (List (Int × Int))) => [.any, .val ((eL (e2 eI eI)) c59), .val ((eL (e2 eI eI)) u56)]) (sn_asn (ex_tko (d := fun (c59 : (List (Int × Int))) => List.map (e2 eI eI) c59) (ex_opN (ds := fun (c58 : (List (Int × Int))) => [(eL (e2 eI eI) c58)]) (z := fun (c58 : (List (Int × Int))) => sortsetT (e2 eI eI) c58) (k := (fun c => .o (List.map (e2 eI eI) c))) str_bi (exs_consL (ex_op (d1 := fun (c57 : (List (Int × Int))) => ((eL (e2 eI eI)) p55.2.1)) (d2 := fun (c57 : (List (Int × Int))) => (eL (e2 eI eI) c57)) (z := fun (c57 : (List (Int × Int))) => catO p55.2.1 c57) (k := (fun c => .o (List.map (e2 eI eI) c))) str_bin (exs_consV (ev_var (d := (eL (e2 eI eI)) p55.2.1) rfl) (exs_consL (ex_callV0 (evs_cons (ev_tk (ev_var (d := (eL (e2 eI eI)) p55.2.1) rfl)) (evs_cons (ev_tk (ev_var (d := (eL (e2 eI eI)) p55.2.1) rfl)) evs_nil)) rfl rfl (t_followed_of_ok (n + 0) ((eL (e2 eI eI)) p55.2.1) ((eL (e2 eI eI)) p55.2.1)) (fun _ => rfl)) (fun (c57 : (List (Int × Int))) => evs_nil))) (fun (c57 : (List (Int × Int))) => ⟨rfl, rfl, trivial⟩) (fun _ => rfl) (fun (c57 : (List (Int × Int))) => (fun c => z_catL))) (fun (c58 : (List (Int × Int))) => evs_nil)) (fun (c58 : (List (Int × Int))) => ⟨rfl, trivial⟩) (fun _ => rfl) (fun (c58 : (List (Int × Int))) => (fun c => z_sortsetTL)))) (fun _ => trivial) (fun _ => rfl)) (fun _ => (Le.drop rfl (Le.same (Le.same Le.nil))))) (fun (c59 : (List (Int × Int))) => (sn_end (c59, u56) (Le.drop rfl (Le.same (Le.same Le.nil)))))))))) (fun s52 => (st_dead (st_ret (fun (u60 : (List (Int × Int))) => u60) (EV.up (k := (fun c => .d ((eL (e2 eI eI)) c))) s52.1 (ev_tk (ev_var (d := (eL (e2 eI eI)) s52.1) rfl))) (fun _ => trivial) (fun _ => rfl) (fun _ => MO.nil)))))))
  exact fn_of (fn := f_often_of) rfl rfl h (fun _ => rfl)
/-- often -/
def t_often (pairs' : (List (Int × Int))) : Option ((List (Int × Int))) :=
  (Option.bind (t_check_any pairs') fun (c61 : Unit) => (Option.bind ((Option.bind (t_often_of pairs') fun (c62 : (List (Int × Int))) => some c62)) fun (c63 : (List (Int × Int))) => some c63))
theorem t_often_ok (n : Nat) (pairs' : (List (Int × Int))) : FN (callF prog (n + 5)) 12 [.val ((eT (e2 eI eI)) pairs')] (t_often pairs') (fun (v : (List (Int × Int))) => .d ((eT (e2 eI eI)) v)) (fun (v : (List (Int × Int))) => [.val ((eT (e2 eI eI)) pairs')]) := by
  have h : ST (callF prog (n + 4)) [.val ((eT (e2 eI eI)) pairs')] b_often _ (fun (v : (List (Int × Int))) => .d ((eT (e2 eI eI)) v)) (fun (v : (List (Int × Int))) => []) := (st_seq (SN.to (q' := fun (c61 : Unit) => [.val ((eT (e2 eI eI)) pairs')]) (sn_expr (ex_callV0 (evs_cons (ev_tk (ev_var (d := (eT (e2 eI eI)) pairs') rfl)) evs_nil) rfl rfl (t_check_any_ok (n + 0) pairs') (fun _ => rfl))) (fun _ => (Le.same Le.nil))) (fun (c61 : Unit) => (st_dead (st_ret (fun (c63 : (List (Int × Int))) => c63) (ex_tk (d := fun (c63 : (List (Int × Int))) => (eT (e2 eI eI)) c63) (ex_opN (ds := fun (c62 : (List (Int × Int))) => [((eL (e2 eI eI)) c62)]) (z := fun (c62 : (List (Int × Int))) => some c62) (k := (fun c => .d ((eT (e2 eI eI)) c))) str_bi (exs_consL (ex_callV0 (evs_cons (ev_tk (ev_var (d := (eT (e2 eI eI)) pairs') rfl)) evs_nil) rfl rfl (t_often_of_ok (n + 2) pairs') (fun _ => rfl)) (fun (c62 : (List (Int × Int))) => evs_nil)) (fun (c62 : (List (Int × Int))) => ⟨rfl, trivial⟩) (fun _ => rfl) (fun (c62 : (List (Int × Int))) => zt (k := (fun c => .d ((eT (e2 eI eI)) c))) rfl))) (fun _ => trivial) (fun _ => rfl) (fun _ => MO.nil)))))
  exact fn_of (fn := f_often) rfl rfl h (fun _ => rfl)
/-- with_selves -/
def t_with_selves (size' : Int) (pairs' : (List (Int × Int))) : Option ((List (Int × Int))) :=
  (Option.bind ((Option.bind ((Option.bind ((Option.bind (rng1O size') fun (l65 : List Int) => compO (fun (a66 : Int) => some true) (fun (a66 : Int) => some (a66, a66)) l65)) fun (c69 : List (Int × Int)) => catO pairs' c69)) fun (c70 : (List (Int × Int))) => sortsetT (e2 eI eI) c70)) fun (c71 : (List (Int × Int))) => some c71)
theorem t_with_selves_ok (n : Nat) (size' : Int) (pairs' : (List (Int × Int))) : FN (callF prog (n + 1)) 13 [.val (eI size'), .val ((eL (e2 eI eI)) pairs')] (t_with_selves size' pairs') (fun (v : (List (Int × Int))) => .d ((eL (e2 eI eI)) v)) (fun (v : (List (Int × Int))) => [.val (eI size'), .val ((eL (e2 eI eI)) pairs')]) := by
  have h : ST (callF prog (n + 0)) [.val (eI size'), .val ((eL (e2 eI eI)) pairs'), .any] b_with_selves _ (fun (v : (List (Int × Int))) => .d ((eL (e2 eI eI)) v)) (fun (v : (List (Int × Int))) => []) := (st_dead (st_ret (fun (c71 : (List (Int × Int))) => c71) (ex_tko (d := fun (c71 : (List (Int × Int))) => List.map (e2 eI eI) c71) (ex_opN (ds := fun (c70 : (List (Int × Int))) => [(eL (e2 eI eI) c70)]) (z := fun (c70 : (List (Int × Int))) => sortsetT (e2 eI eI) c70) (k := (fun c => .o (List.map (e2 eI eI) c))) str_bi (exs_consL (ex_op (d1 := fun (c69 : List (Int × Int)) => (eL (e2 eI eI) pairs')) (d2 := fun (c69 : List (Int × Int)) => (eL (e2 eI eI) c69)) (z := fun (c69 : List (Int × Int)) => catO pairs' c69) (k := (fun c => .o (List.map (e2 eI eI) c))) str_bin (exs_consV (ev_bi (k := .o (List.map (e2 eI eI) pairs')) (ds := [((eL (e2 eI eI)) pairs')]) (evs_cons (ev_var (d := (eL (e2 eI eI)) pairs') rfl) evs_nil) ⟨rfl, trivial⟩ rfl) (exs_consL (ex_lc (p := fun l65 (a66 : Int) => some true) (g := fun l65 (a66 : Int) => some (a66, a66)) (enc' := (e2 eI eI)) (ix_v (ds := [(eI size')]) (z := rng1O size') (enc := eI) (evs_cons (ev_var (d := eI size') rfl) evs_nil) ⟨rfl, trivial⟩ (fun c => it_rng1)) (fun l65 a66 => rfl) (fun l65 a66 => (EV.up (k := (fun c => .d (eB c))) true ev_lit)) (fun l65 a66 => (EV.up (k := (fun c => .d ((e2 eI eI) c))) (a66, a66) (ev_tup (evs_cons (ev_tk (ev_var (d := eI a66) rfl)) (evs_cons (ev_tk (ev_var (d := eI a66) rfl)) evs_nil)) (AllD.cons (AllD.cons AllD.nil))))) (fun _ _ => Le.refl) (fun _ => rfl)) (fun (c69 : List (Int × Int)) => evs_nil))) (fun (c69 : List (Int × Int)) => ⟨rfl, rfl, trivial⟩) (fun _ => rfl) (fun (c69 : List (Int × Int)) => (fun c => z_catL))) (fun (c70 : (List (Int × Int))) => evs_nil)) (fun (c70 : (List (Int × Int))) => ⟨rfl, trivial⟩) (fun _ => rfl) (fun (c70 : (List (Int × Int))) => (fun c => z_sortsetTL)))) (fun _ => trivial) (fun _ => rfl) (fun _ => MO.nil)))
  exact fn_of (fn := f_with_selves) rfl rfl h (fun _ => rfl)
/-- often_or_none -/
def t_often_or_none (size' : Int) (pairs' : (List (Int × Int))) : Option ((List (Int × Int))) :=
  (Option.bind (t_check_sized size' pairs') fun (c72 : Unit) => (Option.bind ((Option.bind ((Option.bind (t_often_of pairs') fun (c73 : (List (Int × Int))) => t_with_selves size' c73)) fun (c74 : (List (Int × Int))) => some c74)) fun (c75 : (List (Int × Int))) => some c75))
theorem t_often_or_none_ok (n : Nat) (size' : Int) (pairs' : (List (Int × Int))) : FN (callF prog (n + 6)) 14 [.val (eI size'), .val ((eT (e2 eI eI)) pairs')] (t_often_or_none size' pairs') (fun (v : (List (Int × Int))) => .d ((eT (e2 eI eI)) v)) (fun (v : (List (Int × Int))) => [.val (eI size'), .val ((eT (e2 eI eI)) pairs')]) := by
  have h : ST (callF prog (n + 5)) [.val (eI size'), .val ((eT (e2 eI eI)) pairs')] b_often_or_none _ (fun (v : (List (Int × Int))) => .d ((eT (e2 eI eI)) v)) (fun (v : (List (Int × Int))) => []) := (st_seq (SN.to (q' := fun (c72 : Unit) => [.val (eI size'), .val ((eT (e2 eI eI)) pairs')]) (sn_expr (ex_callV0 (evs_cons (ev_tk (ev_var (d := eI size') rfl)) (evs_cons (ev_tk (ev_var (d := (eT (e2 eI eI)) pairs') rfl)) evs_nil)) rfl rfl (t_check_sized_ok (n + 0) size' pairs') (fun _ => rfl))) (fun _ => (Le.same (Le.same Le.nil)))) (fun (c72 : Unit) => (st_dead (st_ret (fun (c75 : (List (Int × Int))) => c75) (ex_tk (d := fun (c75 : (List (Int × Int))) => (eT (e2 eI eI)) c75) (ex_opN (ds := fun (c74 : (List (Int × Int))) => [((eL (e2 eI eI)) c74)]) (z := fun (c74 : (List (Int × Int))) => some c74) (k := (fun c => .d ((eT (e2 eI eI)) c))) str_bi (exs_consL (ex_callP (exs_consV (ev_tk (ev_var (d := eI size') rfl)) (exs_consL (ex_tk (d := fun (c73 : (List (Int × Int))) => (eL (e2 eI eI)) c73) (ex_callV0 (evs_cons (ev_tk (ev_var (d := (eT (e2 eI eI)) pairs') rfl)) evs_nil) rfl rfl (t_often_of_ok (n + 3) pairs') (fun _ => rfl))) (fun (c73 : (List (Int × Int))) => evs_nil))) (fun _ => rfl) (fun _ => rfl) (fun (c73 : (List (Int × Int))) => (t_with_selves_ok (n + 4) size' c73)) (fun _ _ => rfl)) (fun (c74 : (List (Int × Int))) => evs_nil)) (fun (c74 : (List (Int × Int))) => ⟨rfl, trivial⟩) (fun _ => rfl) (fun (c74 : (List (Int × Int))) => zt (k := (fun c => .d ((eT (e2 eI eI)) c))) rfl))) (fun _ => trivial) (fun _ => rfl) (fun _ => MO.nil)))))
  exact fn_of (fn := f_often_or_none) rfl rfl h (fun _ => rfl)
/-- lots_by -/
def t_lots_by (size' : Int) (pairs' : (List (Int × Int))) : Option ((List (List Int))) :=
  (Option.bind (lrngO size') fun (c76 : (List Int)) => (Option.bind ((Option.bind (some pairs') fun (l91 : List (Int × Int)) => foldO (fun (a78 : (Int × Int)) (s77 : (List Int)) => (Option.bind ((Option.bind ((Option.bind ((Option.bind (getO s77 a78.1) fun (c79 : Int) => Option.bind (getO s77 a78.2) fun (c80 : Int) => some (c79, c80))) fun (p81 : (Int) × Int) => some (min2I p81.1 p81.2))) fun (c82 : Int) => Option.bind ((Option.bind ((Option.bind (getO s77 a78.1) fun (c83 : Int) => Option.bind (getO s77 a78.2) fun (c84 : Int) => some (c83, c84))) fun (p85 : (Int) × Int) => some (max2I p85.1 p85.2))) fun (c86 : Int) => some (c82, c86))) fun (p87 : (Int) × Int) => (Option.bind (some (List.map (fun (a88 : Int) => (bif (decide (a88 = p87.2)) then p87.1 else a88)) (List.filter (fun (a88 : Int) => true) s77))) fun (u90 : (List Int)) => some u90))) l91 c76)) fun s77 => (Option.bind (some []) fun (u92 : (List (List Int))) => (Option.bind ((Option.bind ((Option.bind (sortsetI s77) fun (c93 : (List Int)) => some c93)) fun (l94 : List Int) => foldO (fun (a96 : Int) (s95 : (List (List Int))) => (Option.bind ((Option.bind ((Option.bind ((Option.bind (rng1O size') fun (l97 : List Int) => compO (fun (a98 : Int) => (Option.bind (getO s77 a98) fun (c99 : Int) => some (decide (c99 = a96)))) (fun (a98 : Int) => some a98) l97)) fun (c102 : List Int) => some c102)) fun (c103 : (List Int)) => Option.bind (appO s95 c103) fun c => some (c, c103))) fun (p104 : (List (List Int)) × (List Int)) => some p104.1)) l94 u92)) fun s95 => (Option.bind (sortO (eT eI) s95) fun (c105 : (List (List Int))) => some c105)))))
theorem t_lots_by_ok (n : Nat) (size' : Int) (pairs' : (List (Int × Int))) : FN (callF prog (n + 1)) 15 [.val (eI size'), .val ((eT (e2 eI eI)) pairs')] (t_lots_by size' pairs') (fun (v : (List (List Int))) => .d ((eL (eT eI)) v)) (fun (v : (List (List Int))) => [.val (eI size'), .val ((eT (e2 eI eI)) pairs')]) := by
  have h : ST (callF prog (n + 0)) [.val (eI size'), .val ((eT (e2 eI eI)) pairs'), .any, .any, .any, .any, .any, .any, .any] b_lots_by _ (fun (v : (List (List Int))) => .d ((eL (eT eI)) v)) (fun (v : (List (List Int))) => []) := (st_seq (SN.to (q' := fun (c76 : (List Int)) => [.val (eI size'), .val ((eT (e2 eI eI)) pairs'), .val ((eL eI) c76), .any, .any, .any, .any, .any, .any]) (sn_asn (ex_tko (d := fun (c76 : (List Int)) => List.map eI c76) (ex_opNV (z := lrngO size') (k := (fun c => .o (List.map eI c))) (ds := [(eI size')]) str_bi (evs_cons (ev_var (d := eI size') rfl) evs_nil) ⟨rfl, trivial⟩ (fun c => z_lrng))) (fun _ => trivial) (fun _ => rfl)) (fun _ => (Le.same (Le.same (Le.same (Le.drop rfl (Le.drop rfl (Le.drop rfl (Le.drop rfl (Le.drop rfl (Le.drop rfl Le.nil))))))))))) (fun (c76 : (List Int)) => (st_seq (sn_for (fun (s77 : (List Int)) => [.val (eI size'), .any, .val ((eL eI) s77), .any, .any, .any, .any, .any, .any]) (fun (s77 : (List Int)) => [.val (eI size'), .any, .val ((eL eI) s77), .any, .any, .any, .any, .any, .any]) (fun (l91 : List (Int × Int)) => c76) (IV.up (iv_of (ds := [((eT (e2 eI eI)) pairs')]) (l := pairs') (enc := (e2 eI eI)) (evs_cons (ev_var (d := (eT (e2 eI eI)) pairs') rfl) evs_nil) ⟨rfl, trivial⟩ it_seqT)) (fun _ => (Le.same (Le.drop rfl (Le.same (Le.drop rfl (Le.drop rfl (Le.drop rfl (Le.drop rfl (Le.drop rfl (Le.drop rfl Le.nil)))))))))) (fun _ _ => rfl) (fun a78 s77 => (sn_seq (SN.to (q' := fun (p87 : (Int) × Int) => [.val (eI size'), .any, .val ((eL eI) s77), .any, .any, .val (eI p87.1), .val (eI p87.2), .any, .any]) (sn_par (exs_cons (ex_opN (ds := fun (p81 : (Int) × Int) => [(eI p81.1), (eI p81.2)]) (z := fun (p81 : (Int) × Int) => some (min2I p81.1 p81.2)) (k := (fun c => .d (eI c))) str_bi (exs_cons (ex_opV (z := getO s77 a78.1) (k := (fun c => .d (eI c))) (d1 := ((eL eI) s77)) (d2 := (eI a78.1)) str_sub (ev_var (d := (eL eI) s77) rfl) (ev_var (d := eI a78.1) rfl) rfl rfl (fun c => z_getL)) (fun (c79 : Int) => (exs_consL (ex_opV (z := getO s77 a78.2) (k := (fun c => .d (eI c))) (d1 := ((eL eI) s77)) (d2 := (eI a78.2)) str_sub (ev_var (d := (eL eI) s77) rfl) (ev_var (d := eI a78.2) rfl) rfl rfl (fun c => z_getL)) (fun (c80 : Int) => evs_nil)))) (fun (p81 : (Int) × Int) => ⟨rfl, rfl, trivial⟩) (fun _ => rfl) (fun (p81 : (Int) × Int) => zt (k := (fun c => .d (eI c))) rfl)) (fun (c82 : Int) => (exs_consL (ex_opN (ds := fun (p85 : (Int) × Int) => [(eI p85.1), (eI p85.2)]) (z := fun (p85 : (Int) × Int) => some (max2I p85.1 p85.2)) (k := (fun c => .d (eI c))) str_bi (exs_cons (ex_opV (z := getO s77 a78.1) (k := (fun c => .d (eI c))) (d1 := ((eL eI) s77)) (d2 := (eI a78.1)) str_sub (ev_var (d := (eL eI) s77) rfl) (ev_var (d := eI a78.1) rfl) rfl rfl (fun c => z_getL)) (fun (c83 : Int) => (exs_consL (ex_opV (z := getO s77 a78.2) (k := (fun c => .d (eI c))) (d1 := ((eL eI) s77)) (d2 := (eI a78.2)) str_sub (ev_var (d := (eL eI) s77) rfl) (ev_var (d := eI a78.2) rfl) rfl rfl (fun c => z_getL)) (fun (c84 : Int) => evs_nil)))) (fun (p85 : (Int) × Int) => ⟨rfl, rfl, trivial⟩) (fun _ => rfl) (fun (p85 : (Int) × Int) => zt (k := (fun c => .d (eI c))) rfl)) (fun (c86 : Int) => evs_nil)))) (fun _ => rfl)) (fun _ => (Le.same (Le.drop rfl (Le.same (Le.drop rfl (Le.drop rfl (Le.same (Le.same (Le.drop rfl (Le.drop rfl Le.nil))))))))))) (fun (p87 : (Int) × Int) => (sn_seq (SN.to (q' := fun (u90 : (List Int)) => [.val (eI size'), .any, .val ((eL eI) u90), .any, .any, .any, .any, .any, .any]) (sn_fz (sn_asn (EV.up (k := (fun c => .o (List.map eI c))) (List.map (fun (a88 : Int) => (bif (decide (a88 = p87.2)) then p87.1 else a88)) (List.filter (fun (a88 : Int) => true) s77)) (ev_lc (p := fun (a88 : Int) => true) (g := fun (a88 : Int) => (bif (decide (a88 = p87.2)) then p87.1 else a88)) (enc' := eI) (iv_of (ds := [((eL eI) s77)]) (l := s77) (enc := eI) (evs_cons (ev_var (d := (eL eI) s77) rfl) evs_nil) ⟨rfl, trivial⟩ it_seqL) (fun a88 => rfl) (fun a88 => ev_lit) (fun a88 => (ev_tk (ev_ite (k := (fun c => .d (eI c))) (x := p87.1) (y := a88) (ev_cmpK (k := .d (eB (decide (a88 = p87.2)))) (da := (eI a88)) (db := (eI p87.2)) (ev_var (d := eI a88) rfl) (ev_var (d := eI p87.2) rfl) rfl rfl (q_eq _ _)) (ev_var (d := eI p87.1) rfl) (ev_var (d := eI a88) rfl)))) (fun _ => Le.refl) rfl)) (fun _ => trivial) (fun _ => rfl)) (fun _ => rfl)) (fun _ => (Le.same (Le.drop rfl (Le.same (Le.drop rfl (Le.drop rfl (Le.drop rfl (Le.drop rfl (Le.drop rfl (Le.drop rfl Le.nil))))))))))) (fun (u90 : (List Int)) => (sn_end u90 (Le.same (Le.drop rfl (Le.same (Le.drop rfl (Le.drop rfl (Le.drop rfl (Le.drop rfl (Le.drop rfl (Le.drop rfl Le.nil))))))))))))))) (fun _ _ => (Le.same (Le.drop rfl (Le.same (Le.drop rfl (Le.drop rfl (Le.drop rfl (Le.drop rfl (Le.drop rfl (Le.drop rfl Le.nil))))))))))) (fun s77 => (st_seq (SN.to (q' := fun (u92 : (List (List Int))) => [.val (eI size'), .any, .val ((eL eI) s77), .any, .any, .any, .any, .any, .acc .free (List.map (eT eI) u92)]) (sn_asn (EV.up (k := (fun c => .o (List.map (eT eI) c))) [] (ev_list evs_nil AllD.nil)) (fun _ => trivial) (fun _ => rfl)) (fun _ => (Le.same (Le.drop rfl (Le.same (Le.drop rfl (Le.drop rfl (Le.drop rfl (Le.drop rfl (Le.drop rfl (Le.same Le.nil))))))))))) (fun (u92 : (List (List Int))) => (st_seq (sn_for (fun (s95 : (List (List Int))) => [.val (eI size'), .any, .val ((eL eI) s77), .any, .any, .any, .any, .any, .acc .free (List.map (eT eI) s95)]) (fun (s95 : (List (List Int))) => [.val (eI size'), .any, .val ((eL eI) s77), .any, .any, .any, .any, .any, .acc .free (List.map (eT eI) s95)]) (fun (l94 : List Int) => u92) (ix_p (ds := fun (c93 : (List Int)) => [(eL eI c93)]) (z := fun (c93 : (List Int)) => some c93) (enc := eI) (exs_consL (ex_opNV (z := sortsetI s77) (k := (fun c => .o (List.map eI c))) (ds := [((eL eI) s77)]) str_bi (evs_cons (ev_var (d := (eL eI) s77) rfl) evs_nil) ⟨rfl, trivial⟩ (fun c => z_sortsetIL)) (fun (c93 : (List Int)) => evs_nil)) (fun (c93 : (List Int)) => ⟨rfl, trivial⟩) (fun _ => rfl) (fun _ => rfl) (fun (c93 : (List Int)) => zi it_seqL)) (fun _ => (Le.same (Le.drop rfl (Le.same (Le.drop rfl (Le.drop rfl (Le.drop rfl (Le.drop rfl (Le.drop rfl (Le.same Le.nil)))))))))) (fun _ _ => rfl) (fun a96 s95 => (sn_seq (SN.to (q' := fun (p104 : (List (List Int)) × (List Int)) => [.val (eI size'), .any, .val ((eL eI) s77), .any, .any, .any, .any, .any, .acc .free (List.map (eT eI) p104.1)]) (sn_expr (ex_app (l := fun (c103 : (List Int)) => s95) (g := fun (c103 : (List Int)) => c103) (enc := (eT eI)) (ex_tk (d := fun (c103 : (List Int)) => (eT eI) c103) (ex_opN (ds := fun (c102 : List Int) => [(eL eI c102)]) (z := fun (c102 : List Int) => some c102) (k := (fun c => .d ((eT eI) c))) str_bi (exs_consL (ex_lc (p := fun l97 (a98 : Int) => (Option.bind (getO s77 a98) fun (c99 : Int) => some (decide (c99 = a96)))) (g := fun l97 (a98 : Int) => some a98) (enc' := eI) (ix_v (ds := [(eI size')]) (z := rng1O size') (enc := eI) (evs_cons (ev_var (d := eI size') rfl) evs_nil) ⟨rfl, trivial⟩ (fun c => it_rng1)) (fun l97 a98 => rfl) (fun l97 a98 => (ex_op (d1 := fun (c99 : Int) => (eI c99)) (d2 := fun (c99 : Int) => (eI a96)) (z := fun (c99 : Int) => some (decide (c99 = a96))) (k := (fun c => .d (eB c))) str_cmp (exs_consL (ex_opV (z := getO s77 a98) (k := (fun c => .d (eI c))) (d1 := ((eL eI) s77)) (d2 := (eI a98)) str_sub (ev_var (d := (eL eI) s77) rfl) (ev_var (d := eI a98) rfl) rfl rfl (fun c => z_getL)) (fun (c99 : Int) => (evs_cons (ev_var (d := eI a96) rfl) evs_nil))) (fun (c99 : Int) => ⟨rfl, rfl, trivial⟩) (fun _ => rfl) (fun (c99 : Int) => zt (k := (fun c => .d (eB c))) (q_eq _ _)))) (fun l97 a98 => (EV.up (k := (fun c => .d (eI c))) a98 (ev_tk (ev_var (d := eI a98) rfl)))) (fun _ _ => Le.refl) (fun _ => rfl)) (fun (c102 : List Int) => evs_nil)) (fun (c102 : List Int) => ⟨rfl, trivial⟩) (fun _ => rfl) (fun (c102 : List Int) => zt (k := (fun c => .d ((eT eI) c))) rfl))) rfl (fun _ => rfl) rfl)) (fun _ => (Le.same (Le.drop rfl (Le.same (Le.drop rfl (Le.drop rfl (Le.drop rfl (Le.drop rfl (Le.drop rfl (Le.same Le.nil))))))))))) (fun (p104 : (List (List Int)) × (List Int)) => (sn_end p104.1 (Le.same (Le.drop rfl (Le.same (Le.drop rfl (Le.drop rfl (Le.drop rfl (Le.drop rfl (Le.drop rfl (Le.same Le.nil))))))))))))) (fun _ _ => (Le.same (Le.drop rfl (Le.same (Le.drop rfl (Le.drop rfl (Le.drop rfl (Le.drop rfl (Le.drop rfl (Le.same Le.nil))))))))))) (fun s95 => (st_dead (st_ret (fun (c105 : (List (List Int))) => c105) (ex_tko (d := fun (c105 : (List (List Int))) => List.map (eT eI) c105) (ex_opNV (z := sortO (eT eI) s95) (k := (fun c => .o (List.map (eT eI) c))) (ds := [(eL (eT eI) s95)]) str_bi (evs_cons (ev_varL (xs := List.map (eT eI) s95) rfl) evs_nil) ⟨⟨rfl, rfl⟩, trivial⟩ (fun c => z_sortL))) (fun _ => trivial) (fun _ => rfl) (fun _ => MO.nil)))))))))))
  exact fn_of (fn := f_lots_by) rfl rfl h (fun _ => rfl)
/-- alike_by -/
def t_alike_by (size' : Int) (pairs' : (List (Int × Int))) : Option ((List (List Int))) :=
  (Option.bind (t_check_sized size' pairs') fun (c106 : Unit) => (Option.bind ((Option.bind (t_lots_by size' pairs') fun (c107 : (List (List Int))) => some c107)) fun (c108 : (List (List Int))) => some c108))
theorem t_alike_by_ok (n : Nat) (size' : Int) (pairs' : (List (Int × Int))) : FN (callF prog (n + 6)) 16 [.val (eI size'), .val ((eT (e2 eI eI)) pairs')] (t_alike_by size' pairs') (fun (v : (List (List Int))) => .d ((eT (eT eI)) v)) (fun (v : (List (List Int))) => [.val (eI size'), .val ((eT (e2 eI eI)) pairs')]) := by
  have h : ST (callF prog (n + 5)) [.val (eI size'), .val ((eT (e2 eI eI)) pairs')] b_alike_by _ (fun (v : (List (List Int))) => .d ((eT (eT eI)) v)) (fun (v : (List (List Int))) => []) := (st_seq (SN.to (q' := fun (c106 : Unit) => [.val (eI size'), .val ((eT (e2 eI eI)) pairs')]) (sn_expr (ex_callV0 (evs_cons (ev_tk (ev_var (d := eI size') rfl)) (evs_cons (ev_tk (ev_var (d := (eT (e2 eI eI)) pairs') rfl)) evs_nil)) rfl rfl (t_check_sized_ok (n + 0) size' pairs') (fun _ => rfl))) (fun _ => (Le.same (Le.same Le.nil)))) (fun (c106 : Unit) => (st_dead (st_ret (fun (c108 : (List (List Int))) => c108) (ex_tk (d := fun (c108 : (List (List Int))) => (eT (eT eI)) c108) (ex_opN (ds := fun (c107 : (List (List Int))) => [((eL (eT eI)) c107)]) (z := fun (c107 : (List (List Int))) => some c107) (k := (fun c => .d ((eT (eT eI)) c))) str_bi (exs_consL (ex_callV0 (evs_cons (ev_tk (ev_var (d := eI size') rfl)) (evs_cons (ev_tk (ev_var (d := (eT (e2 eI eI)) pairs') rfl)) evs_nil)) rfl rfl (t_lots_by_ok (n + 4) size' pairs') (fun _ => rfl)) (fun (c107 : (List (List Int))) => evs_nil)) (fun (c107 : (List (List Int))) => ⟨rfl, trivial⟩) (fun _ => rfl) (fun (c107 : (List (List Int))) => zt (k := (fun c => .d ((eT (eT eI)) c))) rfl))) (fun _ => trivial) (fun _ => rfl) (fun _ => MO.nil)))))
  exact fn_of (fn := f_alike_by) rfl rfl h (fun _ => rfl)
/-- _law_hand -/
def t__law_hand (script' : (List Int)) : Option ((List D)) :=
  (Option.bind (some (List.map (fun (a109 : Int) => (absI a109)) (List.filter (fun (a109 : Int) => true) (cut script' none (some 63))))) fun (u112 : (List Int)) => (Option.bind ((Option.bind (mulO 5 (List.length u112 : Int)) fun (c114 : Int) => some (83 + c114))) fun (c115 : Int) => some [((eL eI) u112), (eI 0), (eI 0), (eI c115), (eI 0)]))
theorem t__law_hand_ok (n : Nat) (script' : (List Int)) : FN (callF prog (n + 1)) 17 [.val (eZ script')] (t__law_hand script') (fun (v : (List D)) => .o (List.map eD v)) (fun (v : (List D)) => [.val (eZ script')]) := by
  have h : ST (callF prog (n + 0)) [.val (eZ script'), .any, .any] b__law_hand _ (fun (v : (List D)) => .o (List.map eD v)) (fun (v : (List D)) => []) := (st_seq (SN.to (q' := fun (u112 : (List Int)) => [.any, .val ((eL eI) u112), .any]) (sn_fz (sn_asn (EV.up (k := (fun c => .o (List.map eI c))) (List.map (fun (a109 : Int) => (absI a109)) (List.filter (fun (a109 : Int) => true) (cut script' none (some 63)))) (ev_lc (p := fun (a109 : Int) => true) (g := fun (a109 : Int) => (absI a109)) (enc' := eI) (iv_of (ds := [(eL eI (cut script' none (some 63)))]) (l := (cut script' none (some 63))) (enc := eI) (evs_cons (ev_cut (k := .o (List.map eI (cut script' none (some 63)))) (da := (eZ script')) (ev_var (d := eZ script') rfl) pv_no (pv_of ev_lit (fun z => nomatch z)) rfl op_cutZ) evs_nil) ⟨rfl, trivial⟩ it_seqL) (fun a109 => rfl) (fun a109 => ev_lit) (fun a109 => (ev_tk (ev_bi (k := .d (eI (absI a109))) (ds := [(eI a109)]) (evs_cons (ev_bi (k := .d (eI a109)) (ds := [(eI a109)]) (evs_cons (ev_var (d := eI a109) rfl) evs_nil) ⟨rfl, trivial⟩ rfl) evs_nil) ⟨rfl, trivial⟩ rfl))) (fun _ => Le.refl) rfl)) (fun _ => trivial) (fun _ => rfl)) (fun _ => rfl)) (fun _ => (Le.drop rfl (Le.same (Le.drop rfl Le.nil))))) (fun (u112 : (List Int)) => (st_dead (st_ret (fun (c115 : Int) => [((eL eI) u112), (eI 0), (eI 0), (eI c115), (eI 0)]) (ex_list (exs_consV (ev_tk (ev_var (d := (eL eI) u112) rfl)) (exs_consV ev_lit (exs_consV ev_lit (exs_consL (ex_tk (d := fun (c115 : Int) => eI c115) (ex_op (d1 := fun (c114 : Int) => (eI 83)) (d2 := fun (c114 : Int) => (eI c114)) (z := fun (c114 : Int) => some (83 + c114)) (k := (fun c => .d (eI c))) str_bin (exs_consV ev_lit (exs_consL (ex_opV (z := mulO 5 (List.length u112 : Int)) (k := (fun c => .d (eI c))) (d1 := (eI 5)) (d2 := (eI (List.length u112 : Int))) str_bin ev_lit (ev_bi (k := .d (eI (List.length u112 : Int))) (ds := [((eL eI) u112)]) (evs_cons (ev_var (d := (eL eI) u112) rfl) evs_nil) ⟨rfl, trivial⟩ op_lenL) rfl rfl (fun c => z_mul)) (fun (c114 : Int) => evs_nil))) (fun (c114 : Int) => ⟨rfl, rfl, trivial⟩) (fun _ => rfl) (fun (c114 : Int) => zt (k := (fun c => .d (eI c))) rfl))) (fun (c115 : Int) => (evs_cons ev_lit evs_nil)))))) (fun _ => (AllD.cons (AllD.cons (AllD.cons (AllD.cons (AllD.cons AllD.nil))))))) (fun _ => trivial) (fun _ => rfl) (fun _ => MO.nil)))))
  exact fn_of (fn := f__law_hand) rfl rfl h (fun _ => rfl)
/-- _law_draw -/
def t__law_draw (hand' : (List D)) (many' : Int) : Option (Int × (List D)) :=
  (Option.bind ((Option.bind ((Option.bind ((Option.bind (getO hand' 2) fun (c116 : D) => cmpOp .eq (eD c116) (eI 0))) fun (c117 : Bool) => bif c117 then (Option.bind ((Option.bind (getO hand' 1) fun (c118 : D) => Option.bind ((Option.bind (getO hand' 0) fun (c119 : D) => lenD (eD c119))) fun (c120 : Int) => some (c118, c120))) fun (p121 : (D) × Int) => cmpOp .lt (eD p121.1) (eI p121.2)) else some false)) fun (c123 : Bool) => bif c123 then (Option.bind ((Option.bind ((Option.bind (getO hand' 0) fun (c150 : D) => Option.bind (getO hand' 1) fun (c151 : D) => some (c150, c151))) fun (p152 : (D) × D) => subOp (eD p152.1) (eD p152.2))) fun (c153 : D) => (Option.bind ((Option.bind ((Option.bind (getO hand' 1) fun (c154 : D) => binI .add (eD c154) (eI 1))) fun (c155 : Int) => Option.bind (some 1) fun (u156 : Int) => Option.bind (setO hand' u156 (eI c155)) fun c => some (c, c155, u156))) fun (p157 : (List D) × (Int) × Int) => (Option.bind ((Option.bind ((Option.bind ((Option.bind ((Option.bind ((Option.bind ((Option.bind ((Option.bind (getO p157.1 3) fun (c158 : D) => binI .mul (eD c158) (eI 48271))) fun (c159 : Int) => Option.bind (binI .mul (eD c153) (eI 5)) fun (c160 : Int) => some (c159, c160))) fun (p161 : (Int) × Int) => some (p161.1 + p161.2))) fun (c162 : Int) => some (c162 + 29))) fun (c163 : Int) => some c163)) fun (c164 : Int) => some (c164 % 2147483587))) fun (c165 : Int) => Option.bind (some 3) fun (u166 : Int) => Option.bind (setO p157.1 u166 (eI c165)) fun c => some (c, c165, u166))) fun (p167 : (List D) × (Int) × Int) => (Option.bind ((Option.bind ((Option.bind ((Option.bind (powO 10 18) fun (c168 : Int) => cmpOp .ge (eD c153) (eI c168))) fun (c169 : Bool) => bif c169 then some c153 else some (eI 0))) fun (c172 : D) => Option.bind (some 2) fun (u173 : Int) => Option.bind (setO p167.1 u173 c172) fun c => some (c, c172, u173))) fun (p174 : (List D) × (D) × Int) => some p174.1)))) else some hand')) fun p149 => (Option.bind ((Option.bind (getO p149 2) fun (c175 : D) => cmpOp .gt (eD c175) (eI 0))) fun (c176 : Bool) => bif c176 then (Option.bind ((Option.bind ((Option.bind (getO p149 2) fun (c177 : D) => biI .int (eD c177))) fun (c178 : Int) => modO c178 many')) fun (c179 : Int) => (Option.bind ((Option.bind ((Option.bind (getO p149 2) fun (c180 : D) => binI .fdiv (eD c180) (eI many'))) fun (c181 : Int) => Option.bind (some 2) fun (u182 : Int) => Option.bind (setO p149 u182 (eI c181)) fun c => some (c, c181, u182))) fun (p183 : (List D) × (Int) × Int) => (Option.bind (some c179) fun (u184 : Int) => some (u184, p183.1)))) else (Option.bind (some ()) fun (p185 : Unit) => (Option.bind ((Option.bind ((Option.bind (getO p149 4) fun (c186 : D) => binI .add (eD c186) (eI 1))) fun (c187 : Int) => Option.bind (some 4) fun (u188 : Int) => Option.bind (setO p149 u188 (eI c187)) fun c => some (c, c187, u188))) fun (p189 : (List D) × (Int) × Int) => (Option.bind ((Option.bind ((Option.bind ((Option.bind ((Option.bind ((Option.bind ((Option.bind (getO p189.1 3) fun (c190 : D) => Option.bind ((Option.bind (getO p189.1 4) fun (c191 : D) => binI .mul (eI 7877) (eD c191))) fun (c192 : Int) => some (c190, c192))) fun (p193 : (D) × Int) => binI .add (eD p193.1) (eI p193.2))) fun (c194 : Int) => some c194)) fun (c195 : Int) => mulO c195 69621)) fun (c196 : Int) => some c196)) fun (c197 : Int) => some (c197 % 2147483647))) fun (c198 : Int) => (Option.bind ((Option.bind ((Option.bind (mulO c198 ((c198 / 1103) + 40692)) fun (c201 : Int) => some c201)) fun (c202 : Int) => some (c202 % 2147483399))) fun (c203 : Int) => (Option.bind ((Option.bind ((Option.bind (mulO c203 ((c203 / 2311) + 48271)) fun (c206 : Int) => some c206)) fun (c207 : Int) => some (c207 % 2147483629))) fun (c208 : Int) => (Option.bind (modO (c208 / 16) many') fun (c211 : Int) => some (c211, p189.1)))))))))
theorem t__law_draw_ok (n : Nat) (hand' : (List D)) (many' : Int) : FN (callF prog (n + 1)) 18 [.acc .fix (List.map eD hand'), .val (eI many')] (t__law_draw hand' many') (fun (v : Int × (List D)) => .d (eI v.1)) (fun (v : Int × (List D)) => [.acc .fix (List.map eD v.2), .val (eI many')]) := by
  have h : ST (callF prog (n + 0)) [.acc .fix (List.map eD hand'), .val (eI many'), .any, .any, .any] b__law_draw _ (fun (v : Int × (List D)) => .d (eI v.1)) (fun (v : Int × (List D)) => [(0, List.map eD v.2)]) := (st_seq (sn_ite (d := fun (c123 : Bool) => c123) (I := fun (p149 : (List D)) => [.acc .fix (List.map eD p149), .val (eI many'), .any, .any, .any]) (ex_and (d := fun (c117 : Bool) => c117) (k := fun c => .d (eB c)) (fun _ => false) (ex_op (d1 := fun (c116 : D) => (eD c116)) (d2 := fun (c116 : D) => (eI 0)) (z := fun (c116 : D) => cmpOp .eq (eD c116) (eI 0)) (k := (fun c => .d (eB c))) str_cmp (exs_consL (ex_opV (z := getO hand' 2) (k := (fun c => .d (eD c))) (d1 := (eL eD hand')) (d2 := (eI 2)) str_sub (ev_varL (xs := List.map eD hand') rfl) ev_lit ⟨rfl, rfl⟩ rfl (fun c => z_getL)) (fun (c116 : D) => (evs_cons ev_lit evs_nil))) (fun (c116 : D) => ⟨rfl, rfl, trivial⟩) (fun _ => rfl) (fun (c116 : D) => (fun c => z_cmp))) (fun (c117 : Bool) => (ex_op (d1 := fun (p121 : (D) × Int) => (eD p121.1)) (d2 := fun (p121 : (D) × Int) => (eI p121.2)) (z := fun (p121 : (D) × Int) => cmpOp .lt (eD p121.1) (eI p121.2)) (k := (fun c => .d (eB c))) str_cmp (exs_cons (ex_opV (z := getO hand' 1) (k := (fun c => .d (eD c))) (d1 := (eL eD hand')) (d2 := (eI 1)) str_sub (ev_varL (xs := List.map eD hand') rfl) ev_lit ⟨rfl, rfl⟩ rfl (fun c => z_getL)) (fun (c118 : D) => (exs_consL (ex_opN (ds := fun (c119 : D) => [(eD c119)]) (z := fun (c119 : D) => lenD (eD c119)) (k := (fun c => .d (eI c))) str_bi (exs_consL (ex_opV (z := getO hand' 0) (k := (fun c => .d (eD c))) (d1 := (eL eD hand')) (d2 := (eI 0)) str_sub (ev_varL (xs := List.map eD hand') rfl) ev_lit ⟨rfl, rfl⟩ rfl (fun c => z_getL)) (fun (c119 : D) => evs_nil)) (fun (c119 : D) => ⟨rfl, trivial⟩) (fun _ => rfl) (fun (c119 : D) => (fun c => z_lenD))) (fun (c120 : Int) => evs_nil)))) (fun (p121 : (D) × Int) => ⟨rfl, rfl, trivial⟩) (fun _ => rfl) (fun (p121 : (D) × Int) => (fun c => z_cmp)))) (fun _ => rfl) (fun _ => Le.refl)) (fun (c123 : Bool) => (sn_seq (SN.to (q' := fun (c153 : D) => [.acc .fix (List.map eD hand'), .val (eI many'), .val (eD c153), .any, .any]) (sn_asn (ex_tk (d := fun (c153 : D) => eD c153) (ex_op (d1 := fun (p152 : (D) × D) => (eD p152.1)) (d2 := fun (p152 : (D) × D) => (eD p152.2)) (z := fun (p152 : (D) × D) => subOp (eD p152.1) (eD p152.2)) (k := (fun c => .d (eD c))) str_sub (exs_cons (ex_opV (z := getO hand' 0) (k := (fun c => .d (eD c))) (d1 := (eL eD hand')) (d2 := (eI 0)) str_sub (ev_varL (xs := List.map eD hand') rfl) ev_lit ⟨rfl, rfl⟩ rfl (fun c => z_getL)) (fun (c150 : D) => (exs_consL (ex_opV (z := getO hand' 1) (k := (fun c => .d (eD c))) (d1 := (eL eD hand')) (d2 := (eI 1)) str_sub (ev_varL (xs := List.map eD hand') rfl) ev_lit ⟨rfl, rfl⟩ rfl (fun c => z_getL)) (fun (c151 : D) => evs_nil)))) (fun (p152 : (D) × D) => ⟨rfl, rfl, trivial⟩) (fun _ => rfl) (fun (p152 : (D) × D) => (fun c => z_subD)))) (fun _ => trivial) (fun _ => rfl)) (fun _ => (Le.same (Le.same (Le.same (Le.drop rfl (Le.drop rfl Le.nil))))))) (fun (c153 : D) => (sn_seq (SN.to (q' := fun (p157 : (List D) × (Int) × Int) => [.acc .fix (List.map eD p157.1), .val (eI many'), .val (eD c153), .any, .any]) (sn_setix (enc := eD) (g := fun (c155 : Int) => (eI c155)) (n := fun (c155 : Int) (u156 : Int) => u156) (l := fun (c155 : Int) (u156 : Int) => hand') (ex_tk (d := fun (c155 : Int) => eI c155) (ex_op (d1 := fun (c154 : D) => (eD c154)) (d2 := fun (c154 : D) => (eI 1)) (z := fun (c154 : D) => binI .add (eD c154) (eI 1)) (k := (fun c => .d (eI c))) str_bin (exs_consL (ex_opV (z := getO hand' 1) (k := (fun c => .d (eD c))) (d1 := (eL eD hand')) (d2 := (eI 1)) str_sub (ev_varL (xs := List.map eD hand') rfl) ev_lit ⟨rfl, rfl⟩ rfl (fun c => z_getL)) (fun (c154 : D) => (evs_cons ev_lit evs_nil))) (fun (c154 : D) => ⟨rfl, rfl, trivial⟩) (fun _ => rfl) (fun (c154 : D) => (fun c => z_binI)))) (fun _ => rfl) (fun (c155 : Int) => (EV.up (k := (fun c => .d (eI c))) 1 ev_lit)) (fun _ _ => rfl) rfl) (fun _ => (Le.same (Le.same (Le.same (Le.drop rfl (Le.drop rfl Le.nil))))))) (fun (p157 : (List D) × (Int) × Int) => (sn_seq (SN.to (q' := fun (p167 : (List D) × (Int) × Int) => [.acc .fix (List.map eD p167.1), .val (eI many'), .val (eD c153), .any, .any]) (sn_setix (enc := eD) (g := fun (c165 : Int) => (eI c165)) (n := fun (c165 : Int) (u166 : Int) => u166) (l := fun (c165 : Int) (u166 : Int) => p157.1) (ex_tk (d := fun (c165 : Int) => eI c165) (ex_op (d1 := fun (c164 : Int) => (eI c164)) (d2 := fun (c164 : Int) => (eI 2147483587)) (z := fun (c164 : Int) => some (c164 % 2147483587)) (k := (fun c => .d (eI c))) str_bin (exs_consL (ex_opN (ds := fun (c163 : Int) => [(eI c163)]) (z := fun (c163 : Int) => some c163) (k := (fun c => .d (eI c))) str_bi (exs_consL (ex_op (d1 := fun (c162 : Int) => (eI c162)) (d2 := fun (c162 : Int) => (eI 29)) (z := fun (c162 : Int) => some (c162 + 29)) (k := (fun c => .d (eI c))) str_bin (exs_consL (ex_op (d1 := fun (p161 : (Int) × Int) => (eI p161.1)) (d2 := fun (p161 : (Int) × Int) => (eI p161.2)) (z := fun (p161 : (Int) × Int) => some (p161.1 + p161.2)) (k := (fun c => .d (eI c))) str_bin (exs_cons (ex_op (d1 := fun (c158 : D) => (eD c158)) (d2 := fun (c158 : D) => (eI 48271)) (z := fun (c158 : D) => binI .mul (eD c158) (eI 48271)) (k := (fun c => .d (eI c))) str_bin (exs_consL (ex_opV (z := getO p157.1 3) (k := (fun c => .d (eD c))) (d1 := (eL eD p157.1)) (d2 := (eI 3)) str_sub (ev_varL (xs := List.map eD p157.1) rfl) ev_lit ⟨rfl, rfl⟩ rfl (fun c => z_getL)) (fun (c158 : D) => (evs_cons ev_lit evs_nil))) (fun (c158 : D) => ⟨rfl, rfl, trivial⟩) (fun _ => rfl) (fun (c158 : D) => (fun c => z_binI))) (fun (c159 : Int) => (exs_consL (ex_opV (z := binI .mul (eD c153) (eI 5)) (k := (fun c => .d (eI c))) (d1 := (eD c153)) (d2 := (eI 5)) str_bin (ev_var (d := eD c153) rfl) ev_lit rfl rfl (fun c => z_binI)) (fun (c160 : Int) => evs_nil)))) (fun (p161 : (Int) × Int) => ⟨rfl, rfl, trivial⟩) (fun _ => rfl) (fun (p161 : (Int) × Int) => zt (k := (fun c => .d (eI c))) rfl)) (fun (c162 : Int) => (evs_cons ev_lit evs_nil))) (fun (c162 : Int) => ⟨rfl, rfl, trivial⟩) (fun _ => rfl) (fun (c162 : Int) => zt (k := (fun c => .d (eI c))) rfl)) (fun (c163 : Int) => evs_nil)) (fun (c163 : Int) => ⟨rfl, trivial⟩) (fun _ => rfl) (fun (c163 : Int) => zt (k := (fun c => .d (eI c))) rfl)) (fun (c164 : Int) => (evs_cons ev_lit evs_nil))) (fun (c164 : Int) => ⟨rfl, rfl, trivial⟩) (fun _ => rfl) (fun (c164 : Int) => zt (k := (fun c => .d (eI c))) (op_mod (by decide))))) (fun _ => rfl) (fun (c165 : Int) => (EV.up (k := (fun c => .d (eI c))) 3 ev_lit)) (fun _ _ => rfl) rfl) (fun _ => (Le.same (Le.same (Le.same (Le.drop rfl (Le.drop rfl Le.nil))))))) (fun (p167 : (List D) × (Int) × Int) => (sn_seq (SN.to (q' := fun (p174 : (List D) × (D) × Int) => [.acc .fix (List.map eD p174.1), .val (eI many'), .any, .any, .any]) (sn_setix (enc := eD) (g := fun (c172 : D) => c172) (n := fun (c172 : D) (u173 : Int) => u173) (l := fun (c172 : D) (u173 : Int) => p167.1) (ex_tk (d := fun (c172 : D) => eD c172) (ex_ite (d := fun (c169 : Bool) => c169) (k := (fun c => .d (eD c))) (qs := fun _ => _) (ex_op (d1 := fun (c168 : Int) => (eD c153)) (d2 := fun (c168 : Int) => (eI c168)) (z := fun (c168 : Int) => cmpOp .ge (eD c153) (eI c168)) (k := (fun c => .d (eB c))) str_cmp (exs_consV (ev_var (d := eD c153) rfl) (exs_consL (ex_opV (z := powO 10 18) (k := (fun c => .d (eI c))) (d1 := (eI 10)) (d2 := (eI 18)) str_bin ev_lit ev_lit rfl rfl (fun c => z_pow)) (fun (c168 : Int) => evs_nil))) (fun (c168 : Int) => ⟨rfl, rfl, trivial⟩) (fun _ => rfl) (fun (c168 : Int) => (fun c => z_cmp))) (fun (c169 : Bool) => (EV.up (k := (fun c => .d (eD c))) c153 (ev_var (d := eD c153) rfl))) (fun (c169 : Bool) => (EV.up (k := (fun c => .d (eD c))) (eI 0) ev_lit)))) (fun _ => rfl) (fun (c172 : D) => (EV.up (k := (fun c => .d (eI c))) 2 ev_lit)) (fun _ _ => rfl) rfl) (fun _ => (Le.same (Le.same (Le.drop rfl (Le.drop rfl (Le.drop rfl Le.nil))))))) (fun (p174 : (List D) × (D) × Int) => (sn_end p174.1 (Le.same (Le.same (Le.drop rfl (Le.drop rfl (Le.drop rfl Le.nil))))))))))))))) (fun (c123 : Bool) => (sn_end hand' (Le.same (Le.same (Le.drop rfl (Le.drop rfl (Le.drop rfl Le.nil)))))))) (fun p149 => (st_push (d := fun (c176 : Bool) => c176) (ex_op (d1 := fun (c175 : D) => (eD c175)) (d2 := fun (c175 : D) => (eI 0)) (z := fun (c175 : D) => cmpOp .gt (eD c175) (eI 0)) (k := (fun c => .d (eB c))) str_cmp (exs_consL (ex_opV (z := getO p149 2) (k := (fun c => .d (eD c))) (d1 := (eL eD p149)) (d2 := (eI 2)) str_sub (ev_varL (xs := List.map eD p149) rfl) ev_lit ⟨rfl, rfl⟩ rfl (fun c => z_getL)) (fun (c175 : D) => (evs_cons ev_lit evs_nil))) (fun (c175 : D) => ⟨rfl, rfl, trivial⟩) (fun _ => rfl) (fun (c175 : D) => (fun c => z_cmp))) (fun (c176 : Bool) => (st_dead (st_seq (SN.to (q' := fun (c179 : Int) => [.acc .fix (List.map eD p149), .val (eI many'), .any, .val (eI c179), .any]) (sn_asn (ex_tk (d := fun (c179 : Int) => eI c179) (ex_op (d1 := fun (c178 : Int) => (eI c178)) (d2 := fun (c178 : Int) => (eI many')) (z := fun (c178 : Int) => modO c178 many') (k := (fun c => .d (eI c))) str_bin (exs_consL (ex_opN (ds := fun (c177 : D) => [(eD c177)]) (z := fun (c177 : D) => biI .int (eD c177)) (k := (fun c => .d (eI c))) str_bi (exs_consL (ex_opV (z := getO p149 2) (k := (fun c => .d (eD c))) (d1 := (eL eD p149)) (d2 := (eI 2)) str_sub (ev_varL (xs := List.map eD p149) rfl) ev_lit ⟨rfl, rfl⟩ rfl (fun c => z_getL)) (fun (c177 : D) => evs_nil)) (fun (c177 : D) => ⟨rfl, trivial⟩) (fun _ => rfl) (fun (c177 : D) => (fun c => z_biI))) (fun (c178 : Int) => (evs_cons (ev_var (d := eI many') rfl) evs_nil))) (fun (c178 : Int) => ⟨rfl, rfl, trivial⟩) (fun _ => rfl) (fun (c178 : Int) => (fun c => z_mod)))) (fun _ => trivial) (fun _ => rfl)) (fun _ => (Le.same (Le.same (Le.drop rfl (Le.same (Le.drop rfl Le.nil))))))) (fun (c179 : Int) => (st_seq (SN.to (q' := fun (p183 : (List D) × (Int) × Int) => [.acc .fix (List.map eD p183.1), .any, .any, .val (eI c179), .any]) (sn_setix (enc := eD) (g := fun (c181 : Int) => (eI c181)) (n := fun (c181 : Int) (u182 : Int) => u182) (l := fun (c181 : Int) (u182 : Int) => p149) (ex_tk (d := fun (c181 : Int) => eI c181) (ex_op (d1 := fun (c180 : D) => (eD c180)) (d2 := fun (c180 : D) => (eI many')) (z := fun (c180 : D) => binI .fdiv (eD c180) (eI many')) (k := (fun c => .d (eI c))) str_bin (exs_consL (ex_opV (z := getO p149 2) (k := (fun c => .d (eD c))) (d1 := (eL eD p149)) (d2 := (eI 2)) str_sub (ev_varL (xs := List.map eD p149) rfl) ev_lit ⟨rfl, rfl⟩ rfl (fun c => z_getL)) (fun (c180 : D) => (evs_cons (ev_var (d := eI many') rfl) evs_nil))) (fun (c180 : D) => ⟨rfl, rfl, trivial⟩) (fun _ => rfl) (fun (c180 : D) => (fun c => z_binI)))) (fun _ => rfl) (fun (c181 : Int) => (EV.up (k := (fun c => .d (eI c))) 2 ev_lit)) (fun _ _ => rfl) rfl) (fun _ => (Le.same (Le.drop rfl (Le.drop rfl (Le.same (Le.drop rfl Le.nil))))))) (fun (p183 : (List D) × (Int) × Int) => (st_dead (st_ret (fun (u184 : Int) => (u184, p183.1)) (EV.up (k := (fun c => .d (eI c))) c179 (ev_tk (ev_var (d := eI c179) rfl))) (fun _ => trivial) (fun _ => rfl) (fun _ => (MO.cons rfl MO.nil)))))))))) (fun (c176 : Bool) => (st_seq (q := fun (p185 : Unit) => [.acc .fix (List.map eD p149), .val (eI many'), .any, .any, .any]) (sn_end () (Le.same (Le.same (Le.drop rfl (Le.drop rfl (Le.drop rfl Le.nil)))))) (fun p185 => (st_seq (SN.to (q' := fun (p189 : (List D) × (Int) × Int) => [.acc .fix (List.map eD p189.1), .val (eI many'), .any, .any, .any]) (sn_setix (enc := eD) (g := fun (c187 : Int) => (eI c187)) (n := fun (c187 : Int) (u188 : Int) => u188) (l := fun (c187 : Int) (u188 : Int) => p149) (ex_tk (d := fun (c187 : Int) => eI c187) (ex_op (d1 := fun (c186 : D) => (eD c186)) (d2 := fun (c186 : D) => (eI 1)) (z := fun (c186 : D) => binI .add (eD c186) (eI 1)) (k := (fun c => .d (eI c))) str_bin (exs_consL (ex_opV (z := getO p149 4) (k := (fun c => .d (eD c))) (d1 := (eL eD p149)) (d2 := (eI 4)) str_sub (ev_varL (xs := List.map eD p149) rfl) ev_lit ⟨rfl, rfl⟩ rfl (fun c => z_getL)) (fun (c186 : D) => (evs_cons ev_lit evs_nil))) (fun (c186 : D) => ⟨rfl, rfl, trivial⟩) (fun _ => rfl) (fun (c186 : D) => (fun c => z_binI)))) (fun _ => rfl) (fun (c187 : Int) => (EV.up (k := (fun c => .d (eI c))) 4 ev_lit)) (fun _ _ => rfl) rfl) (fun _ => (Le.same (Le.same (Le.drop rfl (Le.drop rfl (Le.drop rfl Le.nil))))))) (fun (p189 : (List D) × (Int) × Int) => (st_seq (SN.to (q' := fun (c198 : Int) => [.acc .fix (List.map eD p189.1), .val (eI many'), .any, .any, .val (eI c198)]) (sn_asn (ex_tk (d := fun (c198 : Int) => eI c198) (ex_op (d1 := fun (c197 : Int) => (eI c197)) (d2 := fun (c197 : Int) => (eI 2147483647)) (z := fun (c197 : Int) => some (c197 % 2147483647)) (k := (fun c => .d (eI c))) str_bin (exs_consL (ex_opN (ds := fun (c196 : Int) => [(eI c196)]) (z := fun (c196 : Int) => some c196) (k := (fun c => .d (eI c))) str_bi (exs_consL (ex_op (d1 := fun (c195 : Int) => (eI c195)) (d2 := fun (c195 : Int) => (eI 69621)) (z := fun (c195 : Int) => mulO c195 69621) (k := (fun c => .d (eI c))) str_bin (exs_consL (ex_opN (ds := fun (c194 : Int) => [(eI c194)]) (z := fun (c194 : Int) => some c194) (k := (fun c => .d (eI c))) str_bi (exs_consL (ex_op (d1 := fun (p193 : (D) × Int) => (eD p193.1)) (d2 := fun (p193 : (D) × Int) => (eI p193.2)) (z := fun (p193 : (D) × Int) => binI .add (eD p193.1) (eI p193.2)) (k := (fun c => .d (eI c))) str_bin (exs_cons (ex_opV (z := getO p189.1 3) (k := (fun c => .d (eD c))) (d1 := (eL eD p189.1)) (d2 := (eI 3)) str_sub (ev_varL (xs := List.map eD p189.1) rfl) ev_lit ⟨rfl, rfl⟩ rfl (fun c => z_getL)) (fun (c190 : D) => (exs_consL (ex_op (d1 := fun (c191 : D) => (eI 7877)) (d2 := fun (c191 : D) => (eD c191)) (z := fun (c191 : D) => binI .mul (eI 7877) (eD c191)) (k := (fun c => .d (eI c))) str_bin (exs_consV ev_lit (exs_consL (ex_opV (z := getO p189.1 4) (k := (fun c => .d (eD c))) (d1 := (eL eD p189.1)) (d2 := (eI 4)) str_sub (ev_varL (xs := List.map eD p189.1) rfl) ev_lit ⟨rfl, rfl⟩ rfl (fun c => z_getL)) (fun (c191 : D) => evs_nil))) (fun (c191 : D) => ⟨rfl, rfl, trivial⟩) (fun _ => rfl) (fun (c191 : D) => (fun c => z_binI))) (fun (c192 : Int) => evs_nil)))) (fun (p193 : (D) × Int) => ⟨rfl, rfl, trivial⟩) (fun _ => rfl) (fun (p193 : (D) × Int) => (fun c => z_binI))) (fun (c194 : Int) => evs_nil)) (fun (c194 : Int) => ⟨rfl, trivial⟩) (fun _ => rfl) (fun (c194 : Int) => zt (k := (fun c => .d (eI c))) rfl)) (fun (c195 : Int) => (evs_cons ev_lit evs_nil))) (fun (c195 : Int) => ⟨rfl, rfl, trivial⟩) (fun _ => rfl) (fun (c195 : Int) => (fun c => z_mul))) (fun (c196 : Int) => evs_nil)) (fun (c196 : Int) => ⟨rfl, trivial⟩) (fun _ => rfl) (fun (c196 : Int) => zt (k := (fun c => .d (eI c))) rfl)) (fun (c197 : Int) => (evs_cons ev_lit evs_nil))) (fun (c197 : Int) => ⟨rfl, rfl, trivial⟩) (fun _ => rfl) (fun (c197 : Int) => zt (k := (fun c => .d (eI c))) (op_mod (by decide))))) (fun _ => trivial) (fun _ => rfl)) (fun _ => (Le.same (Le.same (Le.drop rfl (Le.drop rfl (Le.same Le.nil))))))) (fun (c198 : Int) => (st_seq (SN.to (q' := fun (c203 : Int) => [.acc .fix (List.map eD p189.1), .val (eI many'), .any, .any, .val (eI c203)]) (sn_asn (ex_tk (d := fun (c203 : Int) => eI c203) (ex_op (d1 := fun (c202 : Int) => (eI c202)) (d2 := fun (c202 : Int) => (eI 2147483399)) (z := fun (c202 : Int) => some (c202 % 2147483399)) (k := (fun c => .d (eI c))) str_bin (exs_consL (ex_opN (ds := fun (c201 : Int) => [(eI c201)]) (z := fun (c201 : Int) => some c201) (k := (fun c => .d (eI c))) str_bi (exs_consL (ex_opV (z := mulO c198 ((c198 / 1103) + 40692)) (k := (fun c => .d (eI c))) (d1 := (eI c198)) (d2 := (eI ((c198 / 1103) + 40692))) str_bin (ev_var (d := eI c198) rfl) (ev_bin (k := .d (eI ((c198 / 1103) + 40692))) (da := (eI (c198 / 1103))) (db := (eI 40692)) (ev_bin (k := .d (eI (c198 / 1103))) (da := (eI c198)) (db := (eI 1103)) (ev_var (d := eI c198) rfl) ev_lit rfl rfl (op_fdiv (by decide))) ev_lit rfl rfl rfl) rfl rfl (fun c => z_mul)) (fun (c201 : Int) => evs_nil)) (fun (c201 : Int) => ⟨rfl, trivial⟩) (fun _ => rfl) (fun (c201 : Int) => zt (k := (fun c => .d (eI c))) rfl)) (fun (c202 : Int) => (evs_cons ev_lit evs_nil))) (fun (c202 : Int) => ⟨rfl, rfl, trivial⟩) (fun _ => rfl) (fun (c202 : Int) => zt (k := (fun c => .d (eI c))) (op_mod (by decide))))) (fun _ => trivial) (fun _ => rfl)) (fun _ => (Le.same (Le.same (Le.drop rfl (Le.drop rfl (Le.same Le.nil))))))) (fun (c203 : Int) => (st_seq (SN.to (q' := fun (c208 : Int) => [.acc .fix (List.map eD p189.1), .val (eI many'), .any, .any, .val (eI c208)]) (sn_asn (ex_tk (d := fun (c208 : Int) => eI c208) (ex_op (d1 := fun (c207 : Int) => (eI c207)) (d2 := fun (c207 : Int) => (eI 2147483629)) (z := fun (c207 : Int) => some (c207 % 2147483629)) (k := (fun c => .d (eI c))) str_bin (exs_consL (ex_opN (ds := fun (c206 : Int) => [(eI c206)]) (z := fun (c206 : Int) => some c206) (k := (fun c => .d (eI c))) str_bi (exs_consL (ex_opV (z := mulO c203 ((c203 / 2311) + 48271)) (k := (fun c => .d (eI c))) (d1 := (eI c203)) (d2 := (eI ((c203 / 2311) + 48271))) str_bin (ev_var (d := eI c203) rfl) (ev_bin (k := .d (eI ((c203 / 2311) + 48271))) (da := (eI (c203 / 2311))) (db := (eI 48271)) (ev_bin (k := .d (eI (c203 / 2311))) (da := (eI c203)) (db := (eI 2311)) (ev_var (d := eI c203) rfl) ev_lit rfl rfl (op_fdiv (by decide))) ev_lit rfl rfl rfl) rfl rfl (fun c => z_mul)) (fun (c206 : Int) => evs_nil)) (fun (c206 : Int) => ⟨rfl, trivial⟩) (fun _ => rfl) (fun (c206 : Int) => zt (k := (fun c => .d (eI c))) rfl)) (fun (c207 : Int) => (evs_cons ev_lit evs_nil))) (fun (c207 : Int) => ⟨rfl, rfl, trivial⟩) (fun _ => rfl) (fun (c207 : Int) => zt (k := (fun c => .d (eI c))) (op_mod (by decide))))) (fun _ => trivial) (fun _ => rfl)) (fun _ => (Le.same (Le.same (Le.drop rfl (Le.drop rfl (Le.same Le.nil))))))) (fun (c208 : Int) => (st_dead (st_ret (fun (c211 : Int) => (c211, p189.1)) (ex_tk (d := fun (c211 : Int) => eI c211) (ex_opV (z := modO (c208 / 16) many') (k := (fun c => .d (eI c))) (d1 := (eI (c208 / 16))) (d2 := (eI many')) str_bin (ev_bi (k := .d (eI (c208 / 16))) (ds := [(eI (c208 / 16))]) (evs_cons (ev_bin (k := .d (eI (c208 / 16))) (da := (eI c208)) (db := (eI 16)) (ev_var (d := eI c208) rfl) ev_lit rfl rfl (op_fdiv (by decide))) evs_nil) ⟨rfl, trivial⟩ rfl) (ev_var (d := eI many') rfl) rfl rfl (fun c => z_mod))) (fun _ => trivial) (fun _ => rfl) (fun _ => (MO.cons rfl MO.nil))))))))))))))))))
  exact fn_of (fn := f__law_draw) rfl rfl h (fun _ => rfl)
/-- _law_pairs -/
def t__law_pairs (hand' : (List D)) (size' : Int) : Option ((List (Int × Int)) × (List D)) :=
  (Option.bind ((Option.bind (t__law_draw hand' 4) fun (p212 : Int × (List D)) => Option.bind (some (2 + p212.1)) fun (c213 : Int) => some (c213, p212))) fun (p214 : Int × Int × (List D)) => (Option.bind ((Option.bind (rng1O size') fun (l215 : List Int) => foldO (fun (a217 : Int) (s216 : (List D) × (List (Int × Int))) => (Option.bind ((Option.bind ((Option.bind (rng1O size') fun (l218 : List Int) => Option.bind (compS (fun (a219 : Int) (s223 : (List D)) => Option.bind ((Option.bind (t__law_draw s223 p214.1) fun (p224 : Int × (List D)) => Option.bind (some (decide (p224.1 = 0))) fun (c225 : Bool) => some (c225, p224))) fun (p226 : Bool × Int × (List D)) => bif p226.1 then Option.bind (some (a217, a219)) fun (u227 : (Int × Int)) => some (some u227, p226.2.2) else some (none, p226.2.2)) l218 s216.1) fun z => some (z, l218))) fun (p228 : ((List (Int × Int)) × ((List D))) × List Int) => Option.bind (extO s216.2 p228.1.1) fun c => some (c, p228))) fun (p229 : (List (Int × Int)) × ((List (Int × Int)) × ((List D))) × List Int) => some (p229.2.1.2, p229.1))) l215 (p214.2.2, []))) fun s216 => (Option.bind (some s216.2) fun (u231 : (List (Int × Int))) => some (u231, s216.1))))
theorem t__law_pairs_ok (n : Nat) (hand' : (List D)) (size' : Int) : FN (callF prog (n + 2)) 19 [.acc .fix (List.map eD hand'), .val (eI size')] (t__law_pairs hand' size') (fun (v : (List (Int × Int)) × (List D)) => .d ((eT (e2 eI eI)) v.1)) (fun (v : (List (Int × Int)) × (List D)) => [.acc .fix (List.map eD v.2), .val (eI size')]) := by
  have h : ST (callF prog (n + 1)) [.acc .fix (List.map eD hand'), .val (eI size'), .any, .any, .any, .any] b__law_pairs _ (fun (v : (List (Int × Int)) × (List D)) => .d ((eT (e2 eI eI)) v.1)) (fun (v : (List (Int × Int)) × (List D)) => [(0, List.map eD v.2)]) := (st_seq (SN.to (q' := fun (p214 : Int × Int × (List D)) => [.acc .fix (List.map eD p214.2.2), .val (eI size'), .val (eI p214.1), .acc .free (List.map (e2 eI eI) []), .any, .any]) (sn_fz0 (sn_par (exs_consL (ex_opS (d1 := fun (p212 : Int × (List D)) => (eI 2)) (d2 := fun (p212 : Int × (List D)) => (eI p212.1)) (z := fun (p212 : Int × (List D)) => some (2 + p212.1)) (k := (fun c => .d (eI c))) str_bin (exs_consV ev_lit (exs_consL (ex_callV (evs_cons (ev_varL (xs := List.map eD hand') rfl) (evs_cons ev_lit evs_nil)) rfl rfl (t__law_draw_ok (n + 0) hand' 4)) (fun (p212 : Int × (List D)) => evs_nil))) (fun (p212 : Int × (List D)) => ⟨rfl, rfl, trivial⟩) (fun (p212 : Int × (List D)) => zt (k := (fun c => .d (eI c))) rfl)) (fun (p214 : Int × Int × (List D)) => (evs_cons (ev_list evs_nil AllD.nil) evs_nil))) (fun _ => rfl)) (fun _ => rfl)) (fun _ => (Le.same (Le.same (Le.same (Le.same (Le.drop rfl (Le.drop rfl Le.nil)))))))) (fun (p214 : Int × Int × (List D)) => (st_seq (sn_for (fun (s216 : (List D) × (List (Int × Int))) => [.acc .fix (List.map eD s216.1), .val (eI size'), .val (eI p214.1), .acc .free (List.map (e2 eI eI) s216.2), .any, .any]) (fun (s216 : (List D) × (List (Int × Int))) => [.acc .fix (List.map eD s216.1), .val (eI size'), .val (eI p214.1), .acc .free (List.map (e2 eI eI) s216.2), .any, .any]) (fun (l215 : List Int) => (p214.2.2, [])) (ix_v (ds := [(eI size')]) (z := rng1O size') (enc := eI) (evs_cons (ev_var (d := eI size') rfl) evs_nil) ⟨rfl, trivial⟩ (fun c => it_rng1)) (fun _ => (Le.same (Le.same (Le.same (Le.same (Le.drop rfl (Le.drop rfl Le.nil))))))) (fun _ _ => rfl) (fun a217 s216 => (sn_seq (SN.to (q' := fun (p229 : (List (Int × Int)) × ((List (Int × Int)) × ((List D))) × List Int) => [.acc .fix (List.map eD p229.2.1.2), .val (eI size'), .val (eI p214.1), .acc .free (List.map (e2 eI eI) p229.1), .any, .any]) (sn_expr (ex_ext (l := fun (p228 : ((List (Int × Int)) × ((List D))) × List Int) => s216.2) (l2 := fun (p228 : ((List (Int × Int)) × ((List D))) × List Int) => p228.1.1) (enc := (e2 eI eI)) (ex_lcs (enc' := (e2 eI eI)) (p := fun (a219 : Int) (s223 : (List D)) => (Option.bind (t__law_draw s223 p214.1) fun (p224 : Int × (List D)) => Option.bind (some (decide (p224.1 = 0))) fun (c225 : Bool) => some (c225, p224))) (vb := fun (p226 : Bool × Int × (List D)) => p226.1) (ve := fun (u227 : (Int × Int)) => u227) (g := fun (a219 : Int) (s223 : (List D)) (p226 : Bool × Int × (List D)) => some (a217, a219)) (fun s223 => [.acc .fix (List.map eD s223), .val (eI size'), .val (eI p214.1), .acc .free (List.map (e2 eI eI) s216.2), .val (eI a217), .any]) (fun (l218 : List Int) => s216.1) (fun a219 s223 (p226 : Bool × Int × (List D)) => p226.2.2) (fun a219 s223 (p226 : Bool × Int × (List D)) (u227 : (Int × Int)) => p226.2.2) (ix_v (ds := [(eI size')]) (z := rng1O size') (enc := eI) (evs_cons (ev_var (d := eI size') rfl) evs_nil) ⟨rfl, trivial⟩ (fun c => it_rng1)) (fun _ => (Le.same (Le.same (Le.same (Le.same (Le.same (Le.drop rfl Le.nil))))))) (fun _ _ => rfl) (fun a219 s223 => (ex_opS (d1 := fun (p224 : Int × (List D)) => (eI p224.1)) (d2 := fun (p224 : Int × (List D)) => (eI 0)) (z := fun (p224 : Int × (List D)) => some (decide (p224.1 = 0))) (k := (fun c => .d (eB c))) str_cmp (exs_consL (ex_callV (evs_cons (ev_varL (xs := List.map eD s223) rfl) (evs_cons (ev_tk (ev_var (d := eI p214.1) rfl)) evs_nil)) rfl rfl (t__law_draw_ok (n + 0) s223 p214.1)) (fun (p224 : Int × (List D)) => (evs_cons ev_lit evs_nil))) (fun (p224 : Int × (List D)) => ⟨rfl, rfl, trivial⟩) (fun (p224 : Int × (List D)) => zt (k := (fun c => .d (eB c))) (q_eq _ _)))) (fun a219 s223 (p226 : Bool × Int × (List D)) => (EV.up (k := (fun c => .d ((e2 eI eI) c))) (a217, a219) (ev_tup (evs_cons (ev_tk (ev_var (d := eI a217) rfl)) (evs_cons (ev_tk (ev_var (d := eI a219) rfl)) evs_nil)) (AllD.cons (AllD.cons AllD.nil))))) (fun _ _ _ => (Le.same (Le.same (Le.same (Le.same (Le.same (Le.drop rfl Le.nil))))))) (fun _ _ _ _ => (Le.same (Le.same (Le.same (Le.same (Le.same (Le.drop rfl Le.nil)))))))) (fun _ => rfl) rfl (fun _ => rfl) rfl)) (fun _ => (Le.same (Le.same (Le.same (Le.same (Le.drop rfl (Le.drop rfl Le.nil)))))))) (fun (p229 : (List (Int × Int)) × ((List (Int × Int)) × ((List D))) × List Int) => (sn_end (p229.2.1.2, p229.1) (Le.same (Le.same (Le.same (Le.same (Le.drop rfl (Le.drop rfl Le.nil)))))))))) (fun _ _ => (Le.same (Le.same (Le.same (Le.same (Le.drop rfl (Le.drop rfl Le.nil)))))))) (fun s216 => (st_dead (st_ret (fun (u231 : (List (Int × Int))) => (u231, s216.1)) (EV.up (k := (fun c => .d ((eT (e2 eI eI)) c))) s216.2 (ev_tk (ev_bi (k := .d ((eT (e2 eI eI)) s216.2)) (ds := [(eL (e2 eI eI) s216.2)]) (evs_cons (ev_varL (xs := List.map (e2 eI eI) s216.2) rfl) evs_nil) ⟨⟨rfl, rfl⟩, trivial⟩ rfl))) (fun _ => trivial) (fun _ => rfl) (fun _ => (MO.cons rfl MO.nil))))))))
  exact fn_of (fn := f__law_pairs) rfl rfl h (fun _ => rfl)
/-- _law_followed -/
def t__law_followed (one' : (List (Int × Int))) (other' : (List (Int × Int))) : Option ((List (Int × Int))) :=
  (Option.bind (some []) fun (u232 : (List (Int × Int))) => (Option.bind ((Option.bind (some one') fun (l239 : List (Int × Int)) => foldO (fun (a234 : (Int × Int)) (s233 : (List (Int × Int))) => (Option.bind ((Option.bind (some (List.map (fun (a235 : (Int × Int)) => (a234.1, a235.2)) (List.filter (fun (a235 : (Int × Int)) => (decide (a234.2 = a235.1))) other'))) fun (u237 : (List (Int × Int))) => Option.bind (extO s233 u237) fun c => some (c, u237))) fun (p238 : (List (Int × Int)) × (List (Int × Int))) => some p238.1)) l239 u232)) fun s233 => (Option.bind ((Option.bind (sortsetT (e2 eI eI) s233) fun (c240 : (List (Int × Int))) => some c240)) fun (c241 : (List (Int × Int))) => some c241)))
theorem t__law_followed_ok (n : Nat) (one' : (List (Int × Int))) (other' : (List (Int × Int))) : FN (callF prog (n + 1)) 20 [.val ((eT (e2 eI eI)) one'), .val ((eT (e2 eI eI)) other')] (t__law_followed one' other') (fun (v : (List (Int × Int))) => .d ((eT (e2 eI eI)) v)) (fun (v : (List (Int × Int))) => [.val ((eT (e2 eI eI)) one'), .val ((eT (e2 eI eI)) other')]) := by
  have h : ST (callF prog (n + 0)) [.val ((eT (e2 eI eI)) one'), .val ((eT (e2 eI eI)) other'), .any, .any, .any, .any, .any] b__law_followed _ (fun (v : (List (Int × Int))) => .d ((eT (e2 eI eI)) v)) (fun (v : (List (Int × Int))) => []) := (st_seq (SN.to (q' := fun (u232 : (List (Int × Int))) => [.val ((eT (e2 eI eI)) one'), .val ((eT (e2 eI eI)) other'), .acc .free (List.map (e2 eI eI) u232), .any, .any, .any, .any]) (sn_asn (EV.up (k := (fun c => .o (List.map (e2 eI eI) c))) [] (ev_list evs_nil AllD.nil)) (fun _ => trivial) (fun _ => rfl)) (fun _ => (Le.same (Le.same (Le.same (Le.drop rfl (Le.drop rfl (Le.drop rfl (Le.drop rfl Le.nil))))))))) (fun (u232 : (List (Int × Int))) => (st_seq (sn_for (fun (s233 : (List (Int × Int))) => [.any, .val ((eT (e2 eI eI)) other'), .acc .free (List.map (e2 eI eI) s233), .any, .any, .any, .any]) (fun (s233 : (List (Int × Int))) => [.any, .val ((eT (e2 eI eI)) other'), .acc .free (List.map (e2 eI eI) s233), .any, .any, .any, .any]) (fun (l239 : List (Int × Int)) => u232) (IV.up (iv_of (ds := [((eT (e2 eI eI)) one')]) (l := one') (enc := (e2 eI eI)) (evs_cons (ev_var (d := (eT (e2 eI eI)) one') rfl) evs_nil) ⟨rfl, trivial⟩ it_seqT)) (fun _ => (Le.drop rfl (Le.same (Le.same (Le.drop rfl (Le.drop rfl (Le.drop rfl (Le.drop rfl Le.nil)))))))) (fun _ _ => rfl) (fun a234 s233 => (sn_seq (SN.to (q' := fun (p238 : (List (Int × Int)) × (List (Int × Int))) => [.any, .val ((eT (e2 eI eI)) other'), .acc .free (List.map (e2 eI eI) p238.1), .any, .any, .any, .any]) (sn_expr (ex_ext (l := fun (u237 : (List (Int × Int))) => s233) (l2 := fun (u237 : (List (Int × Int))) => u237) (enc := (e2 eI eI)) (EV.up (k := (fun c => .o (List.map (e2 eI eI) c))) (List.map (fun (a235 : (Int × Int)) => (a234.1, a235.2)) (List.filter (fun (a235 : (Int × Int)) => (decide (a234.2 = a235.1))) other')) (ev_lc (p := fun (a235 : (Int × Int)) => (decide (a234.2 = a235.1))) (g := fun (a235 : (Int × Int)) => (a234.1, a235.2)) (enc' := (e2 eI eI)) (iv_of (ds := [((eT (e2 eI eI)) other')]) (l := other') (enc := (e2 eI eI)) (evs_cons (ev_var (d := (eT (e2 eI eI)) other') rfl) evs_nil) ⟨rfl, trivial⟩ it_seqT) (fun a235 => rfl) (fun a235 => (ev_cmpK (k := .d (eB (decide (a234.2 = a235.1)))) (da := (eI a234.2)) (db := (eI a235.1)) (ev_var (d := eI a234.2) rfl) (ev_var (d := eI a235.1) rfl) rfl rfl (q_eq _ _))) (fun a235 => (ev_tup (evs_cons (ev_tk (ev_var (d := eI a234.1) rfl)) (evs_cons (ev_tk (ev_var (d := eI a235.2) rfl)) evs_nil)) (AllD.cons (AllD.cons AllD.nil)))) (fun _ => Le.refl) rfl)) (fun _ => rfl) rfl (fun _ => rfl) rfl)) (fun _ => (Le.drop rfl (Le.same (Le.same (Le.drop rfl (Le.drop rfl (Le.drop rfl (Le.drop rfl Le.nil))))))))) (fun (p238 : (List (Int × Int)) × (List (Int × Int))) => (sn_end p238.1 (Le.drop rfl (Le.same (Le.same (Le.drop rfl (Le.drop rfl (Le.drop rfl (Le.drop rfl Le.nil))))))))))) (fun _ _ => (Le.drop rfl (Le.same (Le.same (Le.drop rfl (Le.drop rfl (Le.drop rfl (Le.drop rfl Le.nil))))))))) (fun s233 => (st_dead (st_ret (fun (c241 : (List (Int × Int))) => c241) (ex_tk (d := fun (c241 : (List (Int × Int))) => (eT (e2 eI eI)) c241) (ex_opN (ds := fun (c240 : (List (Int × Int))) => [(eL (e2 eI eI) c240)]) (z := fun (c240 : (List (Int × Int))) => some c240) (k := (fun c => .d ((eT (e2 eI eI)) c))) str_bi (exs_consL (ex_opNV (z := sortsetT (e2 eI eI) s233) (k := (fun c => .o (List.map (e2 eI eI) c))) (ds := [(eL (e2 eI eI) s233)]) str_bi (evs_cons (ev_varL (xs := List.map (e2 eI eI) s233) rfl) evs_nil) ⟨⟨rfl, rfl⟩, trivial⟩ (fun c => z_sortsetTL)) (fun (c240 : (List (Int × Int))) => evs_nil)) (fun (c240 : (List (Int × Int))) => ⟨rfl, trivial⟩) (fun _ => rfl) (fun (c240 : (List (Int × Int))) => zt (k := (fun c => .d ((eT (e2 eI eI)) c))) rfl))) (fun _ => trivial) (fun _ => rfl) (fun _ => MO.nil)))))))
  exact fn_of (fn := f__law_followed) rfl rfl h (fun _ => rfl)
/-- _law_often -/
def t__law_often (pairs' : (List (Int × Int))) : Option ((List (Int × Int))) :=
  (Option.bind (some pairs') fun (u242 : (List (Int × Int))) => (Option.bind ((Option.bind (rng1O 6) fun (l243 : List Int) => foldO (fun (a245 : Int) (s244 : (List (Int × Int))) => (Option.bind ((Option.bind ((Option.bind ((Option.bind (t__law_followed s244 pairs') fun (c246 : (List (Int × Int))) => catO s244 c246)) fun (c247 : (List (Int × Int))) => sortsetT (e2 eI eI) c247)) fun (c248 : (List (Int × Int))) => some c248)) fun (c249 : (List (Int × Int))) => some c249)) l243 u242)) fun s244 => (Option.bind (some s244) fun (u250 : (List (Int × Int))) => some u250)))
theorem t__law_often_ok (n : Nat) (pairs' : (List (Int × Int))) : FN (callF prog (n + 2)) 21 [.val ((eT (e2 eI eI)) pairs')] (t__law_often pairs') (fun (v : (List (Int × Int))) => .d ((eT (e2 eI eI)) v)) (fun (v : (List (Int × Int))) => [.val ((eT (e2 eI eI)) pairs')]) := by
  have h : ST (callF prog (n + 1)) [.val ((eT (e2 eI eI)) pairs'), .any, .any] b__law_often _ (fun (v : (List (Int × Int))) => .d ((eT (e2 eI eI)) v)) (fun (v : (List (Int × Int))) => []) := (st_seq (SN.to (q' := fun (u242 : (List (Int × Int))) => [.val ((eT (e2 eI eI)) pairs'), .val ((eT (e2 eI eI)) u242), .any]) (sn_asn (EV.up (k := (fun c => .d ((eT (e2 eI eI)) c))) pairs' (ev_tk (ev_var (d := (eT (e2 eI eI)) pairs') rfl))) (fun _ => trivial) (fun _ => rfl)) (fun _ => (Le.same (Le.same (Le.drop rfl Le.nil))))) (fun (u242 : (List (Int × Int))) => (st_seq (sn_for (fun (s244 : (List (Int × Int))) => [.val ((eT (e2 eI eI)) pairs'), .val ((eT (e2 eI eI)) s244), .any]) (fun (s244 : (List (Int × Int))) => [.val ((eT (e2 eI eI)) pairs'), .val ((eT (e2 eI eI)) s244), .any]) (fun (l243 : List Int) => u242) (ix_v (ds := [(eI 6)]) (z := rng1O 6) (enc := eI) (evs_cons ev_lit evs_nil) ⟨rfl, trivial⟩ (fun c => it_rng1)) (fun _ => (Le.same (Le.same (Le.drop rfl Le.nil)))) (fun _ _ => rfl) (fun a245 s244 => (sn_seq (SN.to (q' := fun (c249 : (List (Int × Int))) => [.val ((eT (e2 eI eI)) pairs'), .val ((eT (e2 eI eI)) c249), .any]) (sn_asn (ex_tk (d := fun (c249 : (List (Int × Int))) => (eT (e2 eI eI)) c249) (ex_opN (ds := fun (c248 : (List (Int × Int))) => [(eL (e2 eI eI) c248)]) (z := fun (c248 : (List (Int × Int))) => some c248) (k := (fun c => .d ((eT (e2 eI eI)) c))) str_bi (exs_consL (ex_opN (ds := fun (c247 : (List (Int × Int))) => [((eT (e2 eI eI)) c247)]) (z := fun (c247 : (List (Int × Int))) => sortsetT (e2 eI eI) c247) (k := (fun c => .o (List.map (e2 eI eI) c))) str_bi (exs_consL (ex_op (d1 := fun (c246 : (List (Int × Int))) => ((eT (e2 eI eI)) s244)) (d2 := fun (c246 : (List (Int × Int))) => ((eT (e2 eI eI)) c246)) (z := fun (c246 : (List (Int × Int))) => catO s244 c246) (k := (fun c => .d ((eT (e2 eI eI)) c))) str_bin (exs_consV (ev_var (d := (eT (e2 eI eI)) s244) rfl) (exs_consL (ex_callV0 (evs_cons (ev_tk (ev_var (d := (eT (e2 eI eI)) s244) rfl)) (evs_cons (ev_tk (ev_var (d := (eT (e2 eI eI)) pairs') rfl)) evs_nil)) rfl rfl (t__law_followed_ok (n + 0) s244 pairs') (fun _ => rfl)) (fun (c246 : (List (Int × Int))) => evs_nil))) (fun (c246 : (List (Int × Int))) => ⟨rfl, rfl, trivial⟩) (fun _ => rfl) (fun (c246 : (List (Int × Int))) => (fun c => z_catT))) (fun (c247 : (List (Int × Int))) => evs_nil)) (fun (c247 : (List (Int × Int))) => ⟨rfl, trivial⟩) (fun _ => rfl) (fun (c247 : (List (Int × Int))) => (fun c => z_sortsetTT))) (fun (c248 : (List (Int × Int))) => evs_nil)) (fun (c248 : (List (Int × Int))) => ⟨rfl, trivial⟩) (fun _ => rfl) (fun (c248 : (List (Int × Int))) => zt (k := (fun c => .d ((eT (e2 eI eI)) c))) rfl))) (fun _ => trivial) (fun _ => rfl)) (fun _ => (Le.same (Le.same (Le.drop rfl Le.nil))))) (fun (c249 : (List (Int × Int))) => (sn_end c249 (Le.same (Le.same (Le.drop rfl Le.nil))))))) (fun _ _ => (Le.same (Le.same (Le.drop rfl Le.nil))))) (fun s244 => (st_dead (st_ret (fun (u250 : (List (Int × Int))) => u250) (EV.up (k := (fun c => .d ((eT (e2 eI eI)) c))) s244 (ev_tk (ev_var (d := (eT (e2 eI eI)) s244) rfl))) (fun _ => trivial) (fun _ => rfl) (fun _ => MO.nil)))))))
  exact fn_of (fn := f__law_often) rfl rfl h (fun _ => rfl)
/-- _law_lots -/
def t__law_lots (size' : Int) (pairs' : (List (Int × Int))) : Option ((List (List Int))) :=
  (Option.bind (lrngO size') fun (c251 : (List Int)) => (Option.bind ((Option.bind (rng1O size') fun (l252 : List Int) => foldO (fun (a254 : Int) (s253 : (List Int)) => (Option.bind ((Option.bind (some pairs') fun (l272 : List (Int × Int)) => foldO (fun (a256 : (Int × Int)) (s255 : (List Int)) => (Option.bind ((Option.bind ((Option.bind (getO s255 a256.1) fun (c257 : Int) => Option.bind (getO s255 a256.2) fun (c258 : Int) => some (c257, c258))) fun (p259 : (Int) × Int) => some (min2I p259.1 p259.2))) fun (c260 : Int) => (Option.bind ((Option.bind (some s255) fun (l269 : List Int) => compO (fun (a261 : Int) => some true) (fun (a261 : Int) => (Option.bind ((Option.bind ((Option.bind (getO s255 a256.1) fun (c262 : Int) => Option.bind (getO s255 a256.2) fun (c263 : Int) => some (c262, c263))) fun (p264 : (Int) × Int) => some (inB a261 [(p264.1, p264.2).1, (p264.1, p264.2).2]))) fun (c265 : Bool) => bif c265 then some c260 else some a261)) l269)) fun (c271 : List Int) => some c271))) l272 s253)) fun s255 => some s255)) l252 c251)) fun s253 => (Option.bind ((Option.bind ((Option.bind ((Option.bind ((Option.bind (sortsetI s253) fun (c273 : (List Int)) => some c273)) fun (l274 : List Int) => compO (fun (a275 : Int) => some true) (fun (a275 : Int) => (Option.bind ((Option.bind (rng1O size') fun (l276 : List Int) => compO (fun (a277 : Int) => (Option.bind (getO s253 a277) fun (c278 : Int) => some (decide (c278 = a275)))) (fun (a277 : Int) => some a277) l276)) fun (c281 : List Int) => some c281)) l274)) fun (c284 : List (List Int)) => sortO (eT eI) c284)) fun (c285 : (List (List Int))) => some c285)) fun (c286 : (List (List Int))) => some c286)))
theorem t__law_lots_ok (n : Nat) (size' : Int) (pairs' : (List (Int × Int))) : FN (callF prog (n + 1)) 22 [.val (eI size'), .val ((eT (e2 eI eI)) pairs')] (t__law_lots size' pairs') (fun (v : (List (List Int))) => .d ((eT (eT eI)) v)) (fun (v : (List (List Int))) => [.val (eI size'), .val ((eT (e2 eI eI)) pairs')]) := by
  have h : ST (callF prog (n + 0)) [.val (eI size'), .val ((eT (e2 eI eI)) pairs'), .any, .any, .any, .any, .any, .any] b__law_lots _ (fun (v : (List (List Int))) => .d ((eT (eT eI)) v)) (fun (v : (List (List Int))) => []) := (st_seq (SN.to (q' := fun (c251 : (List Int)) => [.val (eI size'), .val ((eT (e2 eI eI)) pairs'), .val ((eL eI) c251), .any, .any, .any, .any, .any]) (sn_asn (ex_tko (d := fun (c251 : (List Int)) => List.map eI c251) (ex_opNV (z := lrngO size') (k := (fun c => .o (List.map eI c))) (ds := [(eI size')]) str_bi (evs_cons (ev_var (d := eI size') rfl) evs_nil) ⟨rfl, trivial⟩ (fun c => z_lrng))) (fun _ => trivial) (fun _ => rfl)) (fun _ => (Le.same (Le.same (Le.same (Le.drop rfl (Le.drop rfl (Le.drop rfl (Le.drop rfl (Le.drop rfl Le.nil)))))))))) (fun (c251 : (List Int)) => (st_seq (sn_for (fun (s253 : (List Int)) => [.val (eI size'), .val ((eT (e2 eI eI)) pairs'), .val ((eL eI) s253), .any, .any, .any, .any, .any]) (fun (s253 : (List Int)) => [.val (eI size'), .val ((eT (e2 eI eI)) pairs'), .val ((eL eI) s253), .any, .any, .any, .any, .any]) (fun (l252 : List Int) => c251) (ix_v (ds := [(eI size')]) (z := rng1O size') (enc := eI) (evs_cons (ev_var (d := eI size') rfl) evs_nil) ⟨rfl, trivial⟩ (fun c => it_rng1)) (fun _ => (Le.same (Le.same (Le.same (Le.drop rfl (Le.drop rfl (Le.drop rfl (Le.drop rfl (Le.drop rfl Le.nil))))))))) (fun _ _ => rfl) (fun a254 s253 => (sn_seq (sn_for (fun (s255 : (List Int)) => [.val (eI size'), .val ((eT (e2 eI eI)) pairs'), .val ((eL eI) s255), .any, .any, .any, .any, .any]) (fun (s255 : (List Int)) => [.val (eI size'), .val ((eT (e2 eI eI)) pairs'), .val ((eL eI) s255), .any, .any, .any, .any, .any]) (fun (l272 : List (Int × Int)) => s253) (IV.up (iv_of (ds := [((eT (e2 eI eI)) pairs')]) (l := pairs') (enc := (e2 eI eI)) (evs_cons (ev_var (d := (eT (e2 eI eI)) pairs') rfl) evs_nil) ⟨rfl, trivial⟩ it_seqT)) (fun _ => (Le.same (Le.same (Le.same (Le.drop rfl (Le.drop rfl (Le.drop rfl (Le.drop rfl (Le.drop rfl Le.nil))))))))) (fun _ _ => rfl) (fun a256 s255 => (sn_seq (SN.to (q' := fun (c260 : Int) => [.val (eI size'), .val ((eT (e2 eI eI)) pairs'), .val ((eL eI) s255), .any, .val (eI a256.1), .val (eI a256.2), .val (eI c260), .any]) (sn_asn (ex_tk (d := fun (c260 : Int) => eI c260) (ex_opN (ds := fun (p259 : (Int) × Int) => [(eI p259.1), (eI p259.2)]) (z := fun (p259 : (Int) × Int) => some (min2I p259.1 p259.2)) (k := (fun c => .d (eI c))) str_bi (exs_cons (ex_opV (z := getO s255 a256.1) (k := (fun c => .d (eI c))) (d1 := ((eL eI) s255)) (d2 := (eI a256.1)) str_sub (ev_var (d := (eL eI) s255) rfl) (ev_var (d := eI a256.1) rfl) rfl rfl (fun c => z_getL)) (fun (c257 : Int) => (exs_consL (ex_opV (z := getO s255 a256.2) (k := (fun c => .d (eI c))) (d1 := ((eL eI) s255)) (d2 := (eI a256.2)) str_sub (ev_var (d := (eL eI) s255) rfl) (ev_var (d := eI a256.2) rfl) rfl rfl (fun c => z_getL)) (fun (c258 : Int) => evs_nil)))) (fun (p259 : (Int) × Int) => ⟨rfl, rfl, trivial⟩) (fun _ => rfl) (fun (p259 : (Int) × Int) => zt (k := (fun c => .d (eI c))) rfl))) (fun _ => trivial) (fun _ => rfl)) (fun _ => (Le.same (Le.same (Le.same (Le.drop rfl (Le.same (Le.same (Le.same (Le.drop rfl Le.nil)))))))))) (fun (c260 : Int) => (sn_seq (SN.to (q' := fun (c271 : List Int) => [.val (eI size'), .val ((eT (e2 eI eI)) pairs'), .val ((eL eI) c271), .any, .any, .any, .any, .any]) (sn_fz (sn_asn (ex_lc (p := fun l269 (a261 : Int) => some true) (g := fun l269 (a261 : Int) => (Option.bind ((Option.bind ((Option.bind (getO s255 a256.1) fun (c262 : Int) => Option.bind (getO s255 a256.2) fun (c263 : Int) => some (c262, c263))) fun (p264 : (Int) × Int) => some (inB a261 [(p264.1, p264.2).1, (p264.1, p264.2).2]))) fun (c265 : Bool) => bif c265 then some c260 else some a261)) (enc' := eI) (IV.up (iv_of (ds := [((eL eI) s255)]) (l := s255) (enc := eI) (evs_cons (ev_var (d := (eL eI) s255) rfl) evs_nil) ⟨rfl, trivial⟩ it_seqL)) (fun l269 a261 => rfl) (fun l269 a261 => (EV.up (k := (fun c => .d (eB c))) true ev_lit)) (fun l269 a261 => (ex_tk (d := fun (c268 : Int) => eI c268) (ex_ite (d := fun (c265 : Bool) => c265) (k := (fun c => .d (eI c))) (qs := fun _ => _) (ex_op (d1 := fun (p264 : (Int) × Int) => (eI a261)) (d2 := fun (p264 : (Int) × Int) => ((eT eI) [(p264.1, p264.2).1, (p264.1, p264.2).2])) (z := fun (p264 : (Int) × Int) => some (inB a261 [(p264.1, p264.2).1, (p264.1, p264.2).2])) (k := (fun c => .d (eB c))) str_cmp (exs_consV (ev_var (d := eI a261) rfl) (exs_consL (ex_tup (exs_cons (ex_tk (d := fun (c262 : Int) => eI c262) (ex_opV (z := getO s255 a256.1) (k := (fun c => .d (eI c))) (d1 := ((eL eI) s255)) (d2 := (eI a256.1)) str_sub (ev_var (d := (eL eI) s255) rfl) (ev_var (d := eI a256.1) rfl) rfl rfl (fun c => z_getL))) (fun (c262 : Int) => (exs_consL (ex_tk (d := fun (c263 : Int) => eI c263) (ex_opV (z := getO s255 a256.2) (k := (fun c => .d (eI c))) (d1 := ((eL eI) s255)) (d2 := (eI a256.2)) str_sub (ev_var (d := (eL eI) s255) rfl) (ev_var (d := eI a256.2) rfl) rfl rfl (fun c => z_getL))) (fun (c263 : Int) => evs_nil)))) (fun _ => (AllD.cons (AllD.cons AllD.nil)))) (fun (p264 : (Int) × Int) => evs_nil))) (fun (p264 : (Int) × Int) => ⟨rfl, rfl, trivial⟩) (fun _ => rfl) (fun (p264 : (Int) × Int) => zt (k := (fun c => .d (eB c))) (q_memT (e := eI) _ _))) (fun (c265 : Bool) => (EV.up (k := (fun c => .d (eI c))) c260 (ev_var (d := eI c260) rfl))) (fun (c265 : Bool) => (EV.up (k := (fun c => .d (eI c))) a261 (ev_var (d := eI a261) rfl)))))) (fun _ _ => Le.refl) (fun _ => rfl)) (fun _ => trivial) (fun _ => rfl)) (fun _ => rfl)) (fun _ => (Le.same (Le.same (Le.same (Le.drop rfl (Le.drop rfl (Le.drop rfl (Le.drop rfl (Le.drop rfl Le.nil)))))))))) (fun (c271 : List Int) => (sn_end c271 (Le.same (Le.same (Le.same (Le.drop rfl (Le.drop rfl (Le.drop rfl (Le.drop rfl (Le.drop rfl Le.nil)))))))))))))) (fun _ _ => (Le.same (Le.same (Le.same (Le.drop rfl (Le.drop rfl (Le.drop rfl (Le.drop rfl (Le.drop rfl Le.nil)))))))))) (fun s255 => (sn_end s255 (Le.same (Le.same (Le.same (Le.drop rfl (Le.drop rfl (Le.drop rfl (Le.drop rfl (Le.drop rfl Le.nil)))))))))))) (fun _ _ => (Le.same (Le.same (Le.same (Le.drop rfl (Le.drop rfl (Le.drop rfl (Le.drop rfl (Le.drop rfl Le.nil)))))))))) (fun s253 => (st_dead (st_ret (fun (c286 : (List (List Int))) => c286) (ex_tk (d := fun (c286 : (List (List Int))) => (eT (eT eI)) c286) (ex_opN (ds := fun (c285 : (List (List Int))) => [(eL (eT eI) c285)]) (z := fun (c285 : (List (List Int))) => some c285) (k := (fun c => .d ((eT (eT eI)) c))) str_bi (exs_consL (ex_opN (ds := fun (c284 : List (List Int)) => [(eL (eT eI) c284)]) (z := fun (c284 : List (List Int)) => sortO (eT eI) c284) (k := (fun c => .o (List.map (eT eI) c))) str_bi (exs_consL (ex_lc (p := fun l274 (a275 : Int) => some true) (g := fun l274 (a275 : Int) => (Option.bind ((Option.bind (rng1O size') fun (l276 : List Int) => compO (fun (a277 : Int) => (Option.bind (getO s253 a277) fun (c278 : Int) => some (decide (c278 = a275)))) (fun (a277 : Int) => some a277) l276)) fun (c281 : List Int) => some c281)) (enc' := (eT eI)) (ix_p (ds := fun (c273 : (List Int)) => [(eL eI c273)]) (z := fun (c273 : (List Int)) => some c273) (enc := eI) (exs_consL (ex_opNV (z := sortsetI s253) (k := (fun c => .o (List.map eI c))) (ds := [((eL eI) s253)]) str_bi (evs_cons (ev_var (d := (eL eI) s253) rfl) evs_nil) ⟨rfl, trivial⟩ (fun c => z_sortsetIL)) (fun (c273 : (List Int)) => evs_nil)) (fun (c273 : (List Int)) => ⟨rfl, trivial⟩) (fun _ => rfl) (fun _ => rfl) (fun (c273 : (List Int)) => zi it_seqL)) (fun l274 a275 => rfl) (fun l274 a275 => (EV.up (k := (fun c => .d (eB c))) true ev_lit)) (fun l274 a275 => (ex_tk (d := fun (c282 : (List Int)) => (eT eI) c282) (ex_opN (ds := fun (c281 : List Int) => [(eL eI c281)]) (z := fun (c281 : List Int) => some c281) (k := (fun c => .d ((eT eI) c))) str_bi (exs_consL (ex_lc (p := fun l276 (a277 : Int) => (Option.bind (getO s253 a277) fun (c278 : Int) => some (decide (c278 = a275)))) (g := fun l276 (a277 : Int) => some a277) (enc' := eI) (ix_v (ds := [(eI size')]) (z := rng1O size') (enc := eI) (evs_cons (ev_var (d := eI size') rfl) evs_nil) ⟨rfl, trivial⟩ (fun c => it_rng1)) (fun l276 a277 => rfl) (fun l276 a277 => (ex_op (d1 := fun (c278 : Int) => (eI c278)) (d2 := fun (c278 : Int) => (eI a275)) (z := fun (c278 : Int) => some (decide (c278 = a275))) (k := (fun c => .d (eB c))) str_cmp (exs_consL (ex_opV (z := getO s253 a277) (k := (fun c => .d (eI c))) (d1 := ((eL eI) s253)) (d2 := (eI a277)) str_sub (ev_var (d := (eL eI) s253) rfl) (ev_var (d := eI a277) rfl) rfl rfl (fun c => z_getL)) (fun (c278 : Int) => (evs_cons (ev_var (d := eI a275) rfl) evs_nil))) (fun (c278 : Int) => ⟨rfl, rfl, trivial⟩) (fun _ => rfl) (fun (c278 : Int) => zt (k := (fun c => .d (eB c))) (q_eq _ _)))) (fun l276 a277 => (EV.up (k := (fun c => .d (eI c))) a277 (ev_tk (ev_var (d := eI a277) rfl)))) (fun _ _ => Le.refl) (fun _ => rfl)) (fun (c281 : List Int) => evs_nil)) (fun (c281 : List Int) => ⟨rfl, trivial⟩) (fun _ => rfl) (fun (c281 : List Int) => zt (k := (fun c => .d ((eT eI) c))) rfl)))) (fun _ _ => Le.refl) (fun _ => rfl)) (fun (c284 : List (List Int)) => evs_nil)) (fun (c284 : List (List Int)) => ⟨rfl, trivial⟩) (fun _ => rfl) (fun (c284 : List (List Int)) => (fun c => z_sortL))) (fun (c285 : (List (List Int))) => evs_nil)) (fun (c285 : (List (List Int))) => ⟨rfl, trivial⟩) (fun _ => rfl) (fun (c285 : (List (List Int))) => zt (k := (fun c => .d ((eT (eT eI)) c))) rfl))) (fun _ => trivial) (fun _ => rfl) (fun _ => MO.nil)))))))
  exact fn_of (fn := f__law_lots) rfl rfl h (fun _ => rfl)
/-- _law_every -/
def t__law_every (size' : Int) : Option ((List (Int × Int))) :=
  (Option.bind (some []) fun (u287 : (List (Int × Int))) => (Option.bind ((Option.bind (rng1O size') fun (l288 : List Int) => foldO (fun (a290 : Int) (s289 : (List (Int × Int))) => (Option.bind ((Option.bind ((Option.bind (rng1O size') fun (l291 : List Int) => compO (fun (a292 : Int) => some true) (fun (a292 : Int) => some (a290, a292)) l291)) fun (c295 : List (Int × Int)) => Option.bind (extO s289 c295) fun c => some (c, c295))) fun (p296 : (List (Int × Int)) × List (Int × Int)) => some p296.1)) l288 u287)) fun s289 => (Option.bind (some ()) fun (u297 : Unit) => some s289)))
theorem t__law_every_ok (n : Nat) (size' : Int) : FN (callF prog (n + 1)) 23 [.val (eI size')] (t__law_every size') (fun (v : (List (Int × Int))) => .d ((eL (e2 eI eI)) v)) (fun (v : (List (Int × Int))) => [.val (eI size')]) := by
  have h : ST (callF prog (n + 0)) [.val (eI size'), .any, .any, .any] b__law_every _ (fun (v : (List (Int × Int))) => .d ((eL (e2 eI eI)) v)) (fun (v : (List (Int × Int))) => []) := (st_seq (SN.to (q' := fun (u287 : (List (Int × Int))) => [.val (eI size'), .acc .free (List.map (e2 eI eI) u287), .any, .any]) (sn_asn (EV.up (k := (fun c => .o (List.map (e2 eI eI) c))) [] (ev_list evs_nil AllD.nil)) (fun _ => trivial) (fun _ => rfl)) (fun _ => (Le.same (Le.same (Le.drop rfl (Le.drop rfl Le.nil)))))) (fun (u287 : (List (Int × Int))) => (st_seq (sn_for (fun (s289 : (List (Int × Int))) => [.val (eI size'), .acc .free (List.map (e2 eI eI) s289), .any, .any]) (fun (s289 : (List (Int × Int))) => [.val (eI size'), .acc .free (List.map (e2 eI eI) s289), .any, .any]) (fun (l288 : List Int) => u287) (ix_v (ds := [(eI size')]) (z := rng1O size') (enc := eI) (evs_cons (ev_var (d := eI size') rfl) evs_nil) ⟨rfl, trivial⟩ (fun c => it_rng1)) (fun _ => (Le.same (Le.same (Le.drop rfl (Le.drop rfl Le.nil))))) (fun _ _ => rfl) (fun a290 s289 => (sn_seq (SN.to (q' := fun (p296 : (List (Int × Int)) × List (Int × Int)) => [.val (eI size'), .acc .free (List.map (e2 eI eI) p296.1), .any, .any]) (sn_expr (ex_ext (l := fun (c295 : List (Int × Int)) => s289) (l2 := fun (c295 : List (Int × Int)) => c295) (enc := (e2 eI eI)) (ex_lc (p := fun l291 (a292 : Int) => some true) (g := fun l291 (a292 : Int) => some (a290, a292)) (enc' := (e2 eI eI)) (ix_v (ds := [(eI size')]) (z := rng1O size') (enc := eI) (evs_cons (ev_var (d := eI size') rfl) evs_nil) ⟨rfl, trivial⟩ (fun c => it_rng1)) (fun l291 a292 => rfl) (fun l291 a292 => (EV.up (k := (fun c => .d (eB c))) true ev_lit)) (fun l291 a292 => (EV.up (k := (fun c => .d ((e2 eI eI) c))) (a290, a292) (ev_tup (evs_cons (ev_tk (ev_var (d := eI a290) rfl)) (evs_cons (ev_tk (ev_var (d := eI a292) rfl)) evs_nil)) (AllD.cons (AllD.cons AllD.nil))))) (fun _ _ => Le.refl) (fun _ => rfl)) (fun _ => rfl) rfl (fun _ => rfl) rfl)) (fun _ => (Le.same (Le.same (Le.drop rfl (Le.drop rfl Le.nil)))))) (fun (p296 : (List (Int × Int)) × List (Int × Int)) => (sn_end p296.1 (Le.same (Le.same (Le.drop rfl (Le.drop rfl Le.nil)))))))) (fun _ _ => (Le.same (Le.same (Le.drop rfl (Le.drop rfl Le.nil)))))) (fun s289 => (st_dead (st_ret (fun (u297 : Unit) => s289) (ex_tkv (xs := List.map (e2 eI eI) s289) rfl) (fun _ => trivial) (fun _ => rfl) (fun _ => MO.nil)))))))
  exact fn_of (fn := f__law_every) rfl rfl h (fun _ => rfl)
/-- law -/
def t_law (script' : (List Int)) : Option (Bool) :=
  (Option.bind (t__law_hand script') fun (c298 : (List D)) => (Option.bind ((Option.bind (t_often [((0, 1), (1, 2)).1, ((0, 1), (1, 2)).2]) fun (c299 : (List (Int × Int))) => some (!decide (c299 = [((0, 1), (0, 2), (1, 2)).1, ((0, 1), (0, 2), (1, 2)).2.1, ((0, 1), (0, 2), (1, 2)).2.2])))) fun (c300 : Bool) => bif c300 then (Option.bind (some false) fun (u301 : Bool) => some u301) else (Option.bind (some ()) fun (p302 : Unit) => (Option.bind ((Option.bind (t_alike_by 3 [(0, 2)]) fun (c303 : (List (List Int))) => some (!decide (c303 = [[(((0, 2), 1).1).1, (((0, 2), 1).1).2], [(((0, 2), 1).2)]])))) fun (c304 : Bool) => bif c304 then (Option.bind (some false) fun (u305 : Bool) => some u305) else (Option.bind (some ()) fun (p306 : Unit) => (Option.bind ((Option.bind (t_followed [(0, 1)] [((1, 1), (2, 0)).1, ((1, 1), (2, 0)).2]) fun (c307 : (List (Int × Int))) => some (!decide (c307 = [(0, 1)])))) fun (c308 : Bool) => bif c308 then (Option.bind (some false) fun (u309 : Bool) => some u309) else (Option.bind (some ()) fun (p310 : Unit) => (Option.bind ((Option.bind (rng1O 5) fun (l311 : List Int) => forO (fun (a313 : Int) (s312 : (List D)) => (Option.bind ((Option.bind (t__law_draw s312 6) fun (p314 : Int × (List D)) => Option.bind (some (1 + p314.1)) fun (c315 : Int) => some (c315, p314))) fun (p316 : Int × Int × (List D)) => (Option.bind ((Option.bind (t__law_pairs p316.2.2 p316.1) fun (p317 : (List (Int × Int)) × (List D)) => Option.bind (t__law_pairs p317.2 p316.1) fun (p318 : (List (Int × Int)) × (List D)) => some (p317, p318))) fun (p319 : ((List (Int × Int)) × (List D)) × (List (Int × Int)) × (List D)) => (Option.bind ((Option.bind (sortO (e2 eI eI) (List.map (fun (a320 : (Int × Int)) => (a320.2, a320.1)) (List.filter (fun (a320 : (Int × Int)) => true) p319.1.1))) fun (c321 : (List (Int × Int))) => some c321)) fun (c322 : (List (Int × Int))) => (Option.bind ((Option.bind (t_turned p319.1.1) fun (c323 : (List (Int × Int))) => some (!decide (c323 = c322)))) fun (c324 : Bool) => bif c324 then (Option.bind ((Option.bind (some false) fun (u325 : Bool) => some u325)) fun v => some (Fw.ret v)) else (Option.bind (some ()) fun (p326 : Unit) => (Option.bind ((Option.bind (t_turned c322) fun (c327 : (List (Int × Int))) => some (!decide (c327 = p319.1.1)))) fun (c328 : Bool) => bif c328 then (Option.bind ((Option.bind (some false) fun (u329 : Bool) => some u329)) fun v => some (Fw.ret v)) else (Option.bind (some ()) fun (p330 : Unit) => (Option.bind ((Option.bind ((Option.bind (t_followed p319.1.1 p319.2.1) fun (c331 : (List (Int × Int))) => Option.bind (t__law_followed p319.1.1 p319.2.1) fun (c332 : (List (Int × Int))) => some (c331, c332))) fun (p333 : ((List (Int × Int))) × (List (Int × Int))) => some (!decide (p333.1 = p333.2)))) fun (c334 : Bool) => bif c334 then (Option.bind ((Option.bind (some false) fun (u335 : Bool) => some u335)) fun v => some (Fw.ret v)) else (Option.bind (some ()) fun (p336 : Unit) => (Option.bind ((Option.bind ((Option.bind ((Option.bind (t_followed p319.1.1 p319.2.1) fun (c337 : (List (Int × Int))) => t_turned c337)) fun (c338 : (List (Int × Int))) => Option.bind ((Option.bind ((Option.bind (t_turned p319.2.1) fun (c339 : (List (Int × Int))) => Option.bind (t_turned p319.1.1) fun (c340 : (List (Int × Int))) => some (c339, c340))) fun (p341 : ((List (Int × Int))) × (List (Int × Int))) => t_followed p341.1 p341.2)) fun (c342 : (List (Int × Int))) => some (c338, c342))) fun (p343 : ((List (Int × Int))) × (List (Int × Int))) => some (!decide (p343.1 = p343.2)))) fun (c344 : Bool) => bif c344 then (Option.bind ((Option.bind (some false) fun (u345 : Bool) => some u345)) fun v => some (Fw.ret v)) else (Option.bind (some ()) fun (p346 : Unit) => (Option.bind (t__law_often p319.1.1) fun (c347 : (List (Int × Int))) => (Option.bind ((Option.bind (t_often p319.1.1) fun (c348 : (List (Int × Int))) => some (!decide (c348 = c347)))) fun (c349 : Bool) => bif c349 then (Option.bind ((Option.bind (some false) fun (u350 : Bool) => some u350)) fun v => some (Fw.ret v)) else (Option.bind (some ()) fun (p351 : Unit) => (Option.bind ((Option.bind ((Option.bind ((Option.bind (t_followed c347 c347) fun (c352 : (List (Int × Int))) => some c352)) fun (l353 : List (Int × Int)) => compO (fun (a354 : (Int × Int)) => some true) (fun (a354 : (Int × Int)) => some (inB a354 c347)) l353)) fun (c358 : List Bool) => some (List.all c358 id))) fun (c359 : Bool) => bif (!c359) then (Option.bind ((Option.bind (some false) fun (u360 : Bool) => some u360)) fun v => some (Fw.ret v)) else (Option.bind (some ()) fun (p361 : Unit) => (Option.bind ((Option.bind (t_often c347) fun (c362 : (List (Int × Int))) => some (!decide (c362 = c347)))) fun (c363 : Bool) => bif c363 then (Option.bind ((Option.bind (some false) fun (u364 : Bool) => some u364)) fun v => some (Fw.ret v)) else (Option.bind (some ()) fun (p365 : Unit) => (Option.bind ((Option.bind ((Option.bind (catO p319.1.1 p319.2.1) fun (c366 : (List (Int × Int))) => sortsetT (e2 eI eI) c366)) fun (c367 : (List (Int × Int))) => some c367)) fun (c368 : (List (Int × Int))) => (Option.bind ((Option.bind ((Option.bind (some c347) fun (l372 : List (Int × Int)) => compO (fun (a369 : (Int × Int)) => some true) (fun (a369 : (Int × Int)) => (Option.bind (t_often c368) fun (c370 : (List (Int × Int))) => some (inB a369 c370))) l372)) fun (c374 : List Bool) => some (List.all c374 id))) fun (c375 : Bool) => bif (!c375) then (Option.bind ((Option.bind (some false) fun (u376 : Bool) => some u376)) fun v => some (Fw.ret v)) else (Option.bind (some ()) fun (p377 : Unit) => (Option.bind ((Option.bind ((Option.bind (t_often_or_none p316.1 p319.1.1) fun (c378 : (List (Int × Int))) => Option.bind ((Option.bind ((Option.bind ((Option.bind ((Option.bind ((Option.bind (rng1O p316.1) fun (l379 : List Int) => compO (fun (a380 : Int) => some true) (fun (a380 : Int) => some (a380, a380)) l379)) fun (c383 : List (Int × Int)) => some c383)) fun (c384 : (List (Int × Int))) => catO c347 c384)) fun (c385 : (List (Int × Int))) => sortsetT (e2 eI eI) c385)) fun (c386 : (List (Int × Int))) => some c386)) fun (c387 : (List (Int × Int))) => some (c378, c387))) fun (p388 : ((List (Int × Int))) × (List (Int × Int))) => some (!decide (p388.1 = p388.2)))) fun (c389 : Bool) => bif c389 then (Option.bind ((Option.bind (some false) fun (u390 : Bool) => some u390)) fun v => some (Fw.ret v)) else (Option.bind (some ()) fun (p391 : Unit) => (Option.bind (t__law_lots p316.1 p319.1.1) fun (c392 : (List (List Int))) => (Option.bind ((Option.bind (t_alike_by p316.1 p319.1.1) fun (c393 : (List (List Int))) => some (!decide (c393 = c392)))) fun (c394 : Bool) => bif c394 then (Option.bind ((Option.bind (some false) fun (u395 : Bool) => some u395)) fun v => some (Fw.ret v)) else (Option.bind (some ()) fun (p396 : Unit) => (Option.bind ((Option.bind ((Option.bind ((Option.bind (catO p319.1.1 c322) fun (c397 : (List (Int × Int))) => sortsetT (e2 eI eI) c397)) fun (c398 : (List (Int × Int))) => some c398)) fun (c399 : (List (Int × Int))) => t_often_or_none p316.1 c399)) fun (c400 : (List (Int × Int))) => (Option.bind ((Option.bind ((Option.bind (t__law_every p316.1) fun (c401 : (List (Int × Int))) => some c401)) fun (l402 : List (Int × Int)) => forO (fun (a404 : (Int × Int)) (s403 : Unit) => (Option.bind (some (!decide ((inB (a404.1, a404.2) c400) = (List.any (List.map (fun (a406 : (List Int)) => ((inB a404.1 a406) && (inB a404.2 a406))) (List.filter (fun (a406 : (List Int)) => true) c392)) id)))) fun (u411 : Bool) => bif u411 then (Option.bind ((Option.bind (some false) fun (u412 : Bool) => some u412)) fun v => some (Fw.ret v)) else (Option.bind (some ()) fun (p413 : Unit) => some (Fw.next ())))) l402 ())) fun f => thnO f fun s403 => some (Fw.next p319.2.2)))))))))))))))))))))))))))))) l311 c298)) fun f => thnR (ε := Empty) f fun s312 => (Option.bind (some true) fun (u414 : Bool) => some u414)))))))))
theorem t_law_ok (n : Nat) (script' : (List Int)) : FN (callF prog (n + 7)) 24 [.val (eZ script')] (t_law script') (fun (v : Bool) => .d (eB v)) (fun (v : Bool) => [.val (eZ script')]) := by
  have h : ST (callF prog (n + 6)) [.val (eZ script'), .any, .any, .any, .any, .any, .any, .any, .any, .any, .any, .any, .any, .any, .any] b_law _ (fun (v : Bool) => .d (eB v)) (fun (v : Bool) => []) := (st_seq (SN.to (q' := fun (c298 : (List D)) => [.any, .acc .free (List.map eD c298), .any, .any, .any, .any, .any, .any, .any, .any, .any, .any, .any, .any, .any]) (sn_asn (ex_callV0 (evs_cons (ev_tk (ev_var (d := eZ script') rfl)) evs_nil) rfl rfl (t__law_hand_ok (n + 5) script') (fun _ => rfl)) (fun _ => trivial) (fun _ => rfl)) (fun _ => (Le.drop rfl (Le.same (Le.drop rfl (Le.drop rfl (Le.drop rfl (Le.drop rfl (Le.drop rfl (Le.drop rfl (Le.drop rfl (Le.drop rfl (Le.drop rfl (Le.drop rfl (Le.drop rfl (Le.drop rfl (Le.drop rfl Le.nil))))))))))))))))) (fun (c298 : (List D)) => (st_push (d := fun (c300 : Bool) => c300) (ex_op (d1 := fun (c299 : (List (Int × Int))) => ((eT (e2 eI eI)) c299)) (d2 := fun (c299 : (List (Int × Int))) => ((eT (e2 eI eI)) [((0, 1), (0, 2), (1, 2)).1, ((0, 1), (0, 2), (1, 2)).2.1, ((0, 1), (0, 2), (1, 2)).2.2])) (z := fun (c299 : (List (Int × Int))) => some (!decide (c299 = [((0, 1), (0, 2), (1, 2)).1, ((0, 1), (0, 2), (1, 2)).2.1, ((0, 1), (0, 2), (1, 2)).2.2]))) (k := (fun c => .d (eB c))) str_cmp (exs_consL (ex_callV0 (evs_cons (ev_tup (evs_cons (ev_tup (evs_cons ev_lit (evs_cons ev_lit evs_nil)) (AllD.cons (AllD.cons AllD.nil))) (evs_cons (ev_tup (evs_cons ev_lit (evs_cons ev_lit evs_nil)) (AllD.cons (AllD.cons AllD.nil))) evs_nil)) (AllD.cons (AllD.cons AllD.nil))) evs_nil) rfl rfl (t_often_ok (n + 1) [((0, 1), (1, 2)).1, ((0, 1), (1, 2)).2]) (fun _ => rfl)) (fun (c299 : (List (Int × Int))) => (evs_cons (ev_tup (evs_cons (ev_tup (evs_cons ev_lit (evs_cons ev_lit evs_nil)) (AllD.cons (AllD.cons AllD.nil))) (evs_cons (ev_tup (evs_cons ev_lit (evs_cons ev_lit evs_nil)) (AllD.cons (AllD.cons AllD.nil))) (evs_cons (ev_tup (evs_cons ev_lit (evs_cons ev_lit evs_nil)) (AllD.cons (AllD.cons AllD.nil))) evs_nil))) (AllD.cons (AllD.cons (AllD.cons AllD.nil)))) evs_nil))) (fun (c299 : (List (Int × Int))) => ⟨rfl, rfl, trivial⟩) (fun _ => rfl) (fun (c299 : (List (Int × Int))) => zt (k := (fun c => .d (eB c))) (q_ne _ _))) (fun (c300 : Bool) => (st_dead (st_dead (st_ret (fun (u301 : Bool) => u301) (EV.up (k := (fun c => .d (eB c))) false ev_lit) (fun _ => trivial) (fun _ => rfl) (fun _ => MO.nil))))) (fun (c300 : Bool) => (st_seq (q := fun (p302 : Unit) => [.any, .acc .free (List.map eD c298), .any, .any, .any, .any, .any, .any, .any, .any, .any, .any, .any, .any, .any]) (sn_end () (Le.drop rfl (Le.same (Le.drop rfl (Le.drop rfl (Le.drop rfl (Le.drop rfl (Le.drop rfl (Le.drop rfl (Le.drop rfl (Le.drop rfl (Le.drop rfl (Le.drop rfl (Le.drop rfl (Le.drop rfl (Le.drop rfl Le.nil)))))))))))))))) (fun p302 => (st_push (d := fun (c304 : Bool) => c304) (ex_op (d1 := fun (c303 : (List (List Int))) => ((eT (eT eI)) c303)) (d2 := fun (c303 : (List (List Int))) => ((eT (eT eI)) [[(((0, 2), 1).1).1, (((0, 2), 1).1).2], [(((0, 2), 1).2)]])) (z := fun (c303 : (List (List Int))) => some (!decide (c303 = [[(((0, 2), 1).1).1, (((0, 2), 1).1).2], [(((0, 2), 1).2)]]))) (k := (fun c => .d (eB c))) str_cmp (exs_consL (ex_callV0 (evs_cons ev_lit (evs_cons (ev_tup (evs_cons (ev_tup (evs_cons ev_lit (evs_cons ev_lit evs_nil)) (AllD.cons (AllD.cons AllD.nil))) evs_nil) (AllD.cons AllD.nil)) evs_nil)) rfl rfl (t_alike_by_ok (n + 0) 3 [(0, 2)]) (fun _ => rfl)) (fun (c303 : (List (List Int))) => (evs_cons (ev_tup (evs_cons (ev_tup (evs_cons ev_lit (evs_cons ev_lit evs_nil)) (AllD.cons (AllD.cons AllD.nil))) (evs_cons (ev_tup (evs_cons ev_lit evs_nil) (AllD.cons AllD.nil)) evs_nil)) (AllD.cons (AllD.cons AllD.nil))) evs_nil))) (fun (c303 : (List (List Int))) => ⟨rfl, rfl, trivial⟩) (fun _ => rfl) (fun (c303 : (List (List Int))) => zt (k := (fun c => .d (eB c))) (q_ne _ _))) (fun (c304 : Bool) => (st_dead (st_dead (st_ret (fun (u305 : Bool) => u305) (EV.up (k := (fun c => .d (eB c))) false ev_lit) (fun _ => trivial) (fun _ => rfl) (fun _ => MO.nil))))) (fun (c304 : Bool) => (st_seq (q := fun (p306 : Unit) => [.any, .acc .free (List.map eD c298), .any, .any, .any, .any, .any, .any, .any, .any, .any, .any, .any, .any, .any]) (sn_end () (Le.drop rfl (Le.same (Le.drop rfl (Le.drop rfl (Le.drop rfl (Le.drop rfl (Le.drop rfl (Le.drop rfl (Le.drop rfl (Le.drop rfl (Le.drop rfl (Le.drop rfl (Le.drop rfl (Le.drop rfl (Le.drop rfl Le.nil)))))))))))))))) (fun p306 => (st_push (d := fun (c308 : Bool) => c308) (ex_op (d1 := fun (c307 : (List (Int × Int))) => ((eT (e2 eI eI)) c307)) (d2 := fun (c307 : (List (Int × Int))) => ((eT (e2 eI eI)) [(0, 1)])) (z := fun (c307 : (List (Int × Int))) => some (!decide (c307 = [(0, 1)]))) (k := (fun c => .d (eB c))) str_cmp (exs_consL (ex_callV0 (evs_cons (ev_tup (evs_cons (ev_tup (evs_cons ev_lit (evs_cons ev_lit evs_nil)) (AllD.cons (AllD.cons AllD.nil))) evs_nil) (AllD.cons AllD.nil)) (evs_cons (ev_tup (evs_cons (ev_tup (evs_cons ev_lit (evs_cons ev_lit evs_nil)) (AllD.cons (AllD.cons AllD.nil))) (evs_cons (ev_tup (evs_cons ev_lit (evs_cons ev_lit evs_nil)) (AllD.cons (AllD.cons AllD.nil))) evs_nil)) (AllD.cons (AllD.cons AllD.nil))) evs_nil)) rfl rfl (t_followed_ok (n + 1) [(0, 1)] [((1, 1), (2, 0)).1, ((1, 1), (2, 0)).2]) (fun _ => rfl)) (fun (c307 : (List (Int × Int))) => (evs_cons (ev_tup (evs_cons (ev_tup (evs_cons ev_lit (evs_cons ev_lit evs_nil)) (AllD.cons (AllD.cons AllD.nil))) evs_nil) (AllD.cons AllD.nil)) evs_nil))) (fun (c307 : (List (Int × Int))) => ⟨rfl, rfl, trivial⟩) (fun _ => rfl) (fun (c307 : (List (Int × Int))) => zt (k := (fun c => .d (eB c))) (q_ne _ _))) (fun (c308 : Bool) => (st_dead (st_dead (st_ret (fun (u309 : Bool) => u309) (EV.up (k := (fun c => .d (eB c))) false ev_lit) (fun _ => trivial) (fun _ => rfl) (fun _ => MO.nil))))) (fun (c308 : Bool) => (st_seq (q := fun (p310 : Unit) => [.any, .acc .free (List.map eD c298), .any, .any, .any, .any, .any, .any, .any, .any, .any, .any, .any, .any, .any]) (sn_end () (Le.drop rfl (Le.same (Le.drop rfl (Le.drop rfl (Le.drop rfl (Le.drop rfl (Le.drop rfl (Le.drop rfl (Le.drop rfl (Le.drop rfl (Le.drop rfl (Le.drop rfl (Le.drop rfl (Le.drop rfl (Le.drop rfl Le.nil)))))))))))))))) (fun p310 => (st_seqF (σ := Empty) (qb := fun e => nomatch e) (sf_for (fun (s312 : (List D)) => [.any, .acc .free (List.map eD s312), .any, .any, .any, .any, .any, .any, .any, .any, .any, .any, .any, .any, .any]) (fun (s312 : (List D)) => [.any, .acc .free (List.map eD s312), .any, .any, .any, .any, .any, .any, .any, .any, .any, .any, .any, .any, .any]) (fun (l311 : List Int) => c298) (ix_v (ds := [(eI 5)]) (z := rng1O 5) (enc := eI) (evs_cons ev_lit evs_nil) ⟨rfl, trivial⟩ (fun c => it_rng1)) (fun _ => (Le.drop rfl (Le.same (Le.drop rfl (Le.drop rfl (Le.drop rfl (Le.drop rfl (Le.drop rfl (Le.drop rfl (Le.drop rfl (Le.drop rfl (Le.drop rfl (Le.drop rfl (Le.drop rfl (Le.drop rfl (Le.drop rfl Le.nil)))))))))))))))) (fun _ _ => rfl) (fun a313 s312 => (sf_seq (SN.to (q' := fun (p316 : Int × Int × (List D)) => [.any, .acc .free (List.map eD p316.2.2), .any, .val (eI p316.1), .any, .any, .any, .any, .any, .any, .any, .any, .any, .any, .any]) (sn_asn (ex_tk (d := fun (p316 : Int × Int × (List D)) => eI p316.1) (ex_opS (d1 := fun (p314 : Int × (List D)) => (eI 1)) (d2 := fun (p314 : Int × (List D)) => (eI p314.1)) (z := fun (p314 : Int × (List D)) => some (1 + p314.1)) (k := (fun c => .d (eI c))) str_bin (exs_consV ev_lit (exs_consL (ex_callV (evs_cons (ev_varL (xs := List.map eD s312) rfl) (evs_cons ev_lit evs_nil)) rfl rfl (t__law_draw_ok (n + 5) s312 6)) (fun (p314 : Int × (List D)) => evs_nil))) (fun (p314 : Int × (List D)) => ⟨rfl, rfl, trivial⟩) (fun (p314 : Int × (List D)) => zt (k := (fun c => .d (eI c))) rfl))) (fun _ => trivial) (fun _ => rfl)) (fun _ => (Le.drop rfl (Le.same (Le.drop rfl (Le.same (Le.drop rfl (Le.drop rfl (Le.drop rfl (Le.drop rfl (Le.drop rfl (Le.drop rfl (Le.drop rfl (Le.drop rfl (Le.drop rfl (Le.drop rfl (Le.drop rfl Le.nil))))))))))))))))) (fun (p316 : Int × Int × (List D)) => (sf_seq (SN.to (q' := fun (p319 : ((List (Int × Int)) × (List D)) × (List (Int × Int)) × (List D)) => [.any, .acc .free (List.map eD p319.2.2), .any, .val (eI p316.1), .val ((eT (e2 eI eI)) p319.1.1), .val ((eT (e2 eI eI)) p319.2.1), .any, .any, .any, .any, .any, .any, .any, .any, .any]) (sn_par (exs_cons (ex_callV (evs_cons (ev_varL (xs := List.map eD p316.2.2) rfl) (evs_cons (ev_tk (ev_var (d := eI p316.1) rfl)) evs_nil)) rfl rfl (t__law_pairs_ok (n + 4) p316.2.2 p316.1)) (fun (p317 : (List (Int × Int)) × (List D)) => (exs_consL (ex_callV (evs_cons (ev_varL (xs := List.map eD p317.2) rfl) (evs_cons (ev_tk (ev_var (d := eI p316.1) rfl)) evs_nil)) rfl rfl (t__law_pairs_ok (n + 4) p317.2 p316.1)) (fun (p318 : (List (Int × Int)) × (List D)) => evs_nil)))) (fun _ => rfl)) (fun _ => (Le.drop rfl (Le.same (Le.drop rfl (Le.same (Le.same (Le.same (Le.drop rfl (Le.drop rfl (Le.drop rfl (Le.drop rfl (Le.drop rfl (Le.drop rfl (Le.drop rfl (Le.drop rfl (Le.drop rfl Le.nil))))))))))))))))) (fun (p319 : ((List (Int × Int)) × (List D)) × (List (Int × Int)) × (List D)) => (sf_seq (SN.to (q' := fun (c322 : (List (Int × Int))) => [.any, .acc .free (List.map eD p319.2.2), .any, .val (eI p316.1), .val ((eT (e2 eI eI)) p319.1.1), .val ((eT (e2 eI eI)) p319.2.1), .val ((eT (e2 eI eI)) c322), .any, .any, .any, .any, .any, .any, .any, .any]) (sn_asn (ex_tk (d := fun (c322 : (List (Int × Int))) => (eT (e2 eI eI)) c322) (ex_opN (ds := fun (c321 : (List (Int × Int))) => [(eL (e2 eI eI) c321)]) (z := fun (c321 : (List (Int × Int))) => some c321) (k := (fun c => .d ((eT (e2 eI eI)) c))) str_bi (exs_consL (ex_opNV (z := sortO (e2 eI eI) (List.map (fun (a320 : (Int × Int)) => (a320.2, a320.1)) (List.filter (fun (a320 : (Int × Int)) => true) p319.1.1))) (k := (fun c => .o (List.map (e2 eI eI) c))) (ds := [(eL (e2 eI eI) (List.map (fun (a320 : (Int × Int)) => (a320.2, a320.1)) (List.filter (fun (a320 : (Int × Int)) => true) p319.1.1)))]) str_bi (evs_cons (ev_lc (p := fun (a320 : (Int × Int)) => true) (g := fun (a320 : (Int × Int)) => (a320.2, a320.1)) (enc' := (e2 eI eI)) (iv_of (ds := [((eT (e2 eI eI)) p319.1.1)]) (l := p319.1.1) (enc := (e2 eI eI)) (evs_cons (ev_var (d := (eT (e2 eI eI)) p319.1.1) rfl) evs_nil) ⟨rfl, trivial⟩ it_seqT) (fun a320 => rfl) (fun a320 => ev_lit) (fun a320 => (ev_tup (evs_cons (ev_tk (ev_var (d := eI a320.2) rfl)) (evs_cons (ev_tk (ev_var (d := eI a320.1) rfl)) evs_nil)) (AllD.cons (AllD.cons AllD.nil)))) (fun _ => Le.refl) rfl) evs_nil) ⟨rfl, trivial⟩ (fun c => z_sortL)) (fun (c321 : (List (Int × Int))) => evs_nil)) (fun (c321 : (List (Int × Int))) => ⟨rfl, trivial⟩) (fun _ => rfl) (fun (c321 : (List (Int × Int))) => zt (k := (fun c => .d ((eT (e2 eI eI)) c))) rfl))) (fun _ => trivial) (fun _ => rfl)) (fun _ => (Le.drop rfl (Le.same (Le.drop rfl (Le.same (Le.same (Le.same (Le.same (Le.drop rfl (Le.drop rfl (Le.drop rfl (Le.drop rfl (Le.drop rfl (Le.drop rfl (Le.drop rfl (Le.drop rfl Le.nil))))))))))))))))) (fun (c322 : (List (Int × Int))) => (sf_push (d := fun (c324 : Bool) => c324) (ex_op (d1 := fun (c323 : (List (Int × Int))) => ((eT (e2 eI eI)) c323)) (d2 := fun (c323 : (List (Int × Int))) => ((eT (e2 eI eI)) c322)) (z := fun (c323 : (List (Int × Int))) => some (!decide (c323 = c322))) (k := (fun c => .d (eB c))) str_cmp (exs_consL (ex_callV0 (evs_cons (ev_tk (ev_var (d := (eT (e2 eI eI)) p319.1.1) rfl)) evs_nil) rfl rfl (t_turned_ok (n + 1) p319.1.1) (fun _ => rfl)) (fun (c323 : (List (Int × Int))) => (evs_cons (ev_var (d := (eT (e2 eI eI)) c322) rfl) evs_nil))) (fun (c323 : (List (Int × Int))) => ⟨rfl, rfl, trivial⟩) (fun _ => rfl) (fun (c323 : (List (Int × Int))) => zt (k := (fun c => .d (eB c))) (q_ne _ _))) (fun (c324 : Bool) => (sf_st (st_dead (st_dead (st_ret (fun (u325 : Bool) => u325) (EV.up (k := (fun c => .d (eB c))) false ev_lit) (fun _ => trivial) (fun _ => rfl) (fun _ => MO.nil)))))) (fun (c324 : Bool) => (sf_seq (q := fun (p326 : Unit) => [.any, .acc .free (List.map eD p319.2.2), .any, .val (eI p316.1), .val ((eT (e2 eI eI)) p319.1.1), .val ((eT (e2 eI eI)) p319.2.1), .val ((eT (e2 eI eI)) c322), .any, .any, .any, .any, .any, .any, .any, .any]) (sn_end () (Le.drop rfl (Le.same (Le.drop rfl (Le.same (Le.same (Le.same (Le.same (Le.drop rfl (Le.drop rfl (Le.drop rfl (Le.drop rfl (Le.drop rfl (Le.drop rfl (Le.drop rfl (Le.drop rfl Le.nil)))))))))))))))) (fun p326 => (sf_push (d := fun (c328 : Bool) => c328) (ex_op (d1 := fun (c327 : (List (Int × Int))) => ((eT (e2 eI eI)) c327)) (d2 := fun (c327 : (List (Int × Int))) => ((eT (e2 eI eI)) p319.1.1)) (z := fun (c327 : (List (Int × Int))) => some (!decide (c327 = p319.1.1))) (k := (fun c => .d (eB c))) str_cmp (exs_consL (ex_callV0 (evs_cons (ev_tk (ev_var (d := (eT (e2 eI eI)) c322) rfl)) evs_nil) rfl rfl (t_turned_ok (n + 1) c322) (fun _ => rfl)) (fun (c327 : (List (Int × Int))) => (evs_cons (ev_var (d := (eT (e2 eI eI)) p319.1.1) rfl) evs_nil))) (fun (c327 : (List (Int × Int))) => ⟨rfl, rfl, trivial⟩) (fun _ => rfl) (fun (c327 : (List (Int × Int))) => zt (k := (fun c => .d (eB c))) (q_ne _ _))) (fun (c328 : Bool) => (sf_st (st_dead (st_dead (st_ret (fun (u329 : Bool) => u329) (EV.up (k := (fun c => .d (eB c))) false ev_lit) (fun _ => trivial) (fun _ => rfl) (fun _ => MO.nil)))))) (fun (c328 : Bool) => (sf_seq (q := fun (p330 : Unit) => [.any, .acc .free (List.map eD p319.2.2), .any, .val (eI p316.1), .val ((eT (e2 eI eI)) p319.1.1), .val ((eT (e2 eI eI)) p319.2.1), .val ((eT (e2 eI eI)) c322), .any, .any, .any, .any, .any, .any, .any, .any]) (sn_end () (Le.drop rfl (Le.same (Le.drop rfl (Le.same (Le.same (Le.same (Le.same (Le.drop rfl (Le.drop rfl (Le.drop rfl (Le.drop rfl (Le.drop rfl (Le.drop rfl (Le.drop rfl (Le.drop rfl Le.nil)))))))))))))))) (fun p330 => (sf_push (d := fun (c334 : Bool) => c334) (ex_op (d1 := fun (p333 : ((List (Int × Int))) × (List (Int × Int))) => ((eT (e2 eI eI)) p333.1)) (d2 := fun (p333 : ((List (Int × Int))) × (List (Int × Int))) => ((eT (e2 eI eI)) p333.2)) (z := fun (p333 : ((List (Int × Int))) × (List (Int × Int))) => some (!decide (p333.1 = p333.2))) (k := (fun c => .d (eB c))) str_cmp (exs_cons (ex_callV0 (evs_cons (ev_tk (ev_var (d := (eT (e2 eI eI)) p319.1.1) rfl)) (evs_cons (ev_tk (ev_var (d := (eT (e2 eI eI)) p319.2.1) rfl)) evs_nil)) rfl rfl (t_followed_ok (n + 1) p319.1.1 p319.2.1) (fun _ => rfl)) (fun (c331 : (List (Int × Int))) => (exs_consL (ex_callV0 (evs_cons (ev_tk (ev_var (d := (eT (e2 eI eI)) p319.1.1) rfl)) (evs_cons (ev_tk (ev_var (d := (eT (e2 eI eI)) p319.2.1) rfl)) evs_nil)) rfl rfl (t__law_followed_ok (n + 5) p319.1.1 p319.2.1) (fun _ => rfl)) (fun (c332 : (List (Int × Int))) => evs_nil)))) (fun (p333 : ((List (Int × Int))) × (List (Int × Int))) => ⟨rfl, rfl, trivial⟩) (fun _ => rfl) (fun (p333 : ((List (Int × Int))) × (List (Int × Int))) => zt (k := (fun c => .d (eB c))) (q_ne _ _))) (fun (c334 : Bool) => (sf_st (st_dead (st_dead (st_ret (fun (u335 : Bool) => u335) (EV.up (k := (fun c => .d (eB c))) false ev_lit) (fun _ => trivial) (fun _ => rfl) (fun _ => MO.nil)))))) (fun (c334 : Bool) => (sf_seq (q := fun (p336 : Unit) => [.any, .acc .free (List.map eD p319.2.2), .any, .val (eI p316.1), .val ((eT (e2 eI eI)) p319.1.1), .val ((eT (e2 eI eI)) p319.2.1), .val ((eT (e2 eI eI)) c322), .any, .any, .any, .any, .any, .any, .any, .any]) (sn_end () (Le.drop rfl (Le.same (Le.drop rfl (Le.same (Le.same (Le.same (Le.same (Le.drop rfl (Le.drop rfl (Le.drop rfl (Le.drop rfl (Le.drop rfl (Le.drop rfl (Le.drop rfl (Le.drop rfl Le.nil)))))))))))))))) (fun p336 => (sf_push (d := fun (c344 : Bool) => c344) (ex_op (d1 := fun (p343 : ((List (Int × Int))) × (List (Int × Int))) => ((eT (e2 eI eI)) p343.1)) (d2 := fun (p343 : ((List (Int × Int))) × (List (Int × Int))) => ((eT (e2 eI eI)) p343.2)) (z := fun (p343 : ((List (Int × Int))) × (List (Int × Int))) => some (!decide (p343.1 = p343.2))) (k := (fun c => .d (eB c))) str_cmp (exs_cons (ex_callP (exs_consL (ex_tk (d := fun (c337 : (List (Int × Int))) => (eT (e2 eI eI)) c337) (ex_callV0 (evs_cons (ev_tk (ev_var (d := (eT (e2 eI eI)) p319.1.1) rfl)) (evs_cons (ev_tk (ev_var (d := (eT (e2 eI eI)) p319.2.1) rfl)) evs_nil)) rfl rfl (t_followed_ok (n + 1) p319.1.1 p319.2.1) (fun _ => rfl))) (fun (c337 : (List (Int × Int))) => evs_nil)) (fun _ => rfl) (fun _ => rfl) (fun (c337 : (List (Int × Int))) => (t_turned_ok (n + 1) c337)) (fun _ _ => rfl)) (fun (c338 : (List (Int × Int))) => (exs_consL (ex_callP (exs_cons (ex_tk (d := fun (c339 : (List (Int × Int))) => (eT (e2 eI eI)) c339) (ex_callV0 (evs_cons (ev_tk (ev_var (d := (eT (e2 eI eI)) p319.2.1) rfl)) evs_nil) rfl rfl (t_turned_ok (n + 1) p319.2.1) (fun _ => rfl))) (fun (c339 : (List (Int × Int))) => (exs_consL (ex_tk (d := fun (c340 : (List (Int × Int))) => (eT (e2 eI eI)) c340) (ex_callV0 (evs_cons (ev_tk (ev_var (d := (eT (e2 eI eI)) p319.1.1) rfl)) evs_nil) rfl rfl (t_turned_ok (n + 1) p319.1.1) (fun _ => rfl))) (fun (c340 : (List (Int × Int))) => evs_nil)))) (fun _ => rfl) (fun _ => rfl) (fun (p341 : ((List (Int × Int))) × (List (Int × Int))) => (t_followed_ok (n + 1) p341.1 p341.2)) (fun _ _ => rfl)) (fun (c342 : (List (Int × Int))) => evs_nil)))) (fun (p343 : ((List (Int × Int))) × (List (Int × Int))) => ⟨rfl, rfl, trivial⟩) (fun _ => rfl) (fun (p343 : ((List (Int × Int))) × (List (Int × Int))) => zt (k := (fun c => .d (eB c))) (q_ne _ _))) (fun (c344 : Bool) => (sf_st (st_dead (st_dead (st_ret (fun (u345 : Bool) => u345) (EV.up (k := (fun c => .d (eB c))) false ev_lit) (fun _ => trivial) (fun _ => rfl) (fun _ => MO.nil)))))) (fun (c344 : Bool) => (sf_seq (q := fun (p346 : Unit) => [.any, .acc .free (List.map eD p319.2.2), .any, .val (eI p316.1), .val ((eT (e2 eI eI)) p319.1.1), .val ((eT (e2 eI eI)) p319.2.1), .val ((eT (e2 eI eI)) c322), .any, .any, .any, .any, .any, .any, .any, .any]) (sn_end () (Le.drop rfl (Le.same (Le.drop rfl (Le.same (Le.same (Le.same (Le.same (Le.drop rfl (Le.drop rfl (Le.drop rfl (Le.drop rfl (Le.drop rfl (Le.drop rfl (Le.drop rfl (Le.drop rfl Le.nil)))))))))))))))) (fun p346 => (sf_seq (SN.to (q' := fun (c347 : (List (Int × Int))) => [.any, .acc .free (List.map eD p319.2.2), .any, .val (eI p316.1), .val ((eT (e2 eI eI)) p319.1.1), .val ((eT (e2 eI eI)) p319.2.1), .val ((eT (e2 eI eI)) c322), .any, .any, .val ((eT (e2 eI eI)) c347), .any, .any, .any, .any, .any]) (sn_asn (ex_tk (d := fun (c347 : (List (Int × Int))) => (eT (e2 eI eI)) c347) (ex_callV0 (evs_cons (ev_tk (ev_var (d := (eT (e2 eI eI)) p319.1.1) rfl)) evs_nil) rfl rfl (t__law_often_ok (n + 4) p319.1.1) (fun _ => rfl))) (fun _ => trivial) (fun _ => rfl)) (fun _ => (Le.drop rfl (Le.same (Le.drop rfl (Le.same (Le.same (Le.same (Le.same (Le.drop rfl (Le.drop rfl (Le.same (Le.drop rfl (Le.drop rfl (Le.drop rfl (Le.drop rfl (Le.drop rfl Le.nil))))))))))))))))) (fun (c347 : (List (Int × Int))) => (sf_push (d := fun (c349 : Bool) => c349) (ex_op (d1 := fun (c348 : (List (Int × Int))) => ((eT (e2 eI eI)) c348)) (d2 := fun (c348 : (List (Int × Int))) => ((eT (e2 eI eI)) c347)) (z := fun (c348 : (List (Int × Int))) => some (!decide (c348 = c347))) (k := (fun c => .d (eB c))) str_cmp (exs_consL (ex_callV0 (evs_cons (ev_tk (ev_var (d := (eT (e2 eI eI)) p319.1.1) rfl)) evs_nil) rfl rfl (t_often_ok (n + 1) p319.1.1) (fun _ => rfl)) (fun (c348 : (List (Int × Int))) => (evs_cons (ev_var (d := (eT (e2 eI eI)) c347) rfl) evs_nil))) (fun (c348 : (List (Int × Int))) => ⟨rfl, rfl, trivial⟩) (fun _ => rfl) (fun (c348 : (List (Int × Int))) => zt (k := (fun c => .d (eB c))) (q_ne _ _))) (fun (c349 : Bool) => (sf_st (st_dead (st_dead (st_ret (fun (u350 : Bool) => u350) (EV.up (k := (fun c => .d (eB c))) false ev_lit) (fun _ => trivial) (fun _ => rfl) (fun _ => MO.nil)))))) (fun (c349 : Bool) => (sf_seq (q := fun (p351 : Unit) => [.any, .acc .free (List.map eD p319.2.2), .any, .val (eI p316.1), .val ((eT (e2 eI eI)) p319.1.1), .val ((eT (e2 eI eI)) p319.2.1), .val ((eT (e2 eI eI)) c322), .any, .any, .val ((eT (e2 eI eI)) c347), .any, .any, .any, .any, .any]) (sn_end () (Le.drop rfl (Le.same (Le.drop rfl (Le.same (Le.same (Le.same (Le.same (Le.drop rfl (Le.drop rfl (Le.same (Le.drop rfl (Le.drop rfl (Le.drop rfl (Le.drop rfl (Le.drop rfl Le.nil)))))))))))))))) (fun p351 => (sf_push (d := fun (c359 : Bool) => (!c359)) (ex_not (d := fun (c359 : Bool) => c359) (ex_opN (ds := fun (c358 : List Bool) => [(eL eB c358)]) (z := fun (c358 : List Bool) => some (List.all c358 id)) (k := (fun c => .d (eB c))) str_bi (exs_consL (ex_lc (p := fun l353 (a354 : (Int × Int)) => some true) (g := fun l353 (a354 : (Int × Int)) => some (inB a354 c347)) (enc' := eB) (ix_p (ds := fun (c352 : (List (Int × Int))) => [((eT (e2 eI eI)) c352)]) (z := fun (c352 : (List (Int × Int))) => some c352) (enc := (e2 eI eI)) (exs_consL (ex_callV0 (evs_cons (ev_tk (ev_var (d := (eT (e2 eI eI)) c347) rfl)) (evs_cons (ev_tk (ev_var (d := (eT (e2 eI eI)) c347) rfl)) evs_nil)) rfl rfl (t_followed_ok (n + 1) c347 c347) (fun _ => rfl)) (fun (c352 : (List (Int × Int))) => evs_nil)) (fun (c352 : (List (Int × Int))) => ⟨rfl, trivial⟩) (fun _ => rfl) (fun _ => rfl) (fun (c352 : (List (Int × Int))) => zi it_seqT)) (fun l353 a354 => rfl) (fun l353 a354 => (EV.up (k := (fun c => .d (eB c))) true ev_lit)) (fun l353 a354 => (EV.up (k := (fun c => .d (eB c))) (inB a354 c347) (ev_cmpK (k := .d (eB (inB a354 c347))) (da := ((e2 eI eI) a354)) (db := ((eT (e2 eI eI)) c347)) (ev_var (d := (e2 eI eI) a354) rfl) (ev_var (d := (eT (e2 eI eI)) c347) rfl) rfl rfl (q_memT (e := (e2 eI eI)) _ _)))) (fun _ _ => Le.refl) (fun _ => rfl)) (fun (c358 : List Bool) => evs_nil)) (fun (c358 : List Bool) => ⟨rfl, trivial⟩) (fun _ => rfl) (fun (c358 : List Bool) => zt (k := (fun c => .d (eB c))) op_all))) (fun (c359 : Bool) => (sf_st (st_dead (st_dead (st_ret (fun (u360 : Bool) => u360) (EV.up (k := (fun c => .d (eB c))) false ev_lit) (fun _ => trivial) (fun _ => rfl) (fun _ => MO.nil)))))) (fun (c359 : Bool) => (sf_seq (q := fun (p361 : Unit) => [.any, .acc .free (List.map eD p319.2.2), .any, .val (eI p316.1), .val ((eT (e2 eI eI)) p319.1.1), .val ((eT (e2 eI eI)) p319.2.1), .val ((eT (e2 eI eI)) c322), .any, .any, .val ((eT (e2 eI eI)) c347), .any, .any, .any, .any, .any]) (sn_end () (Le.drop rfl (Le.same (Le.drop rfl (Le.same (Le.same (Le.same (Le.same (Le.drop rfl (Le.drop rfl (Le.same (Le.drop rfl (Le.drop rfl (Le.drop rfl (Le.drop rfl (Le.drop rfl Le.nil)))))))))))))))) (fun p361 => (sf_push (d := fun (c363 : Bool) => c363) (ex_op (d1 := fun (c362 : (List (Int × Int))) => ((eT (e2 eI eI)) c362)) (d2 := fun (c362 : (List (Int × Int))) => ((eT (e2 eI eI)) c347)) (z := fun (c362 : (List (Int × Int))) => some (!decide (c362 = c347))) (k := (fun c => .d (eB c))) str_cmp (exs_consL (ex_callV0 (evs_cons (ev_tk (ev_var (d := (eT (e2 eI eI)) c347) rfl)) evs_nil) rfl rfl (t_often_ok (n + 1) c347) (fun _ => rfl)) (fun (c362 : (List (Int × Int))) => (evs_cons (ev_var (d := (eT (e2 eI eI)) c347) rfl) evs_nil))) (fun (c362 : (List (Int × Int))) => ⟨rfl, rfl, trivial⟩) (fun _ => rfl) (fun (c362 : (List (Int × Int))) => zt (k := (fun c => .d (eB c))) (q_ne _ _))) (fun (c363 : Bool) => (sf_st (st_dead (st_dead (st_ret (fun (u364 : Bool) => u364) (EV.up (k := (fun c => .d (eB c))) false ev_lit) (fun _ => trivial) (fun _ => rfl) (fun _ => MO.nil)))))) (fun (c363 : Bool) => (sf_seq (q := fun (p365 : Unit) => [.any, .acc .free (List.map eD p319.2.2), .any, .val (eI p316.1), .val ((eT (e2 eI eI)) p319.1.1), .val ((eT (e2 eI eI)) p319.2.1), .val ((eT (e2 eI eI)) c322), .any, .any, .val ((eT (e2 eI eI)) c347), .any, .any, .any, .any, .any]) (sn_end () (Le.drop rfl (Le.same (Le.drop rfl (Le.same (Le.same (Le.same (Le.same (Le.drop rfl (Le.drop rfl (Le.same (Le.drop rfl (Le.drop rfl (Le.drop rfl (Le.drop rfl (Le.drop rfl Le.nil)))))))))))))))) (fun p365 => (sf_seq (SN.to (q' := fun (c368 : (List (Int × Int))) => [.any, .acc .free (List.map eD p319.2.2), .any, .val (eI p316.1), .val ((eT (e2 eI eI)) p319.1.1), .any, .val ((eT (e2 eI eI)) c322), .any, .any, .val ((eT (e2 eI eI)) c347), .any, .val ((eT (e2 eI eI)) c368), .any, .any, .any]) (sn_asn (ex_tk (d := fun (c368 : (List (Int × Int))) => (eT (e2 eI eI)) c368) (ex_opN (ds := fun (c367 : (List (Int × Int))) => [(eL (e2 eI eI) c367)]) (z := fun (c367 : (List (Int × Int))) => some c367) (k := (fun c => .d ((eT (e2 eI eI)) c))) str_bi (exs_consL (ex_opN (ds := fun (c366 : (List (Int × Int))) => [((eT (e2 eI eI)) c366)]) (z := fun (c366 : (List (Int × Int))) => sortsetT (e2 eI eI) c366) (k := (fun c => .o (List.map (e2 eI eI) c))) str_bi (exs_consL (ex_opV (z := catO p319.1.1 p319.2.1) (k := (fun c => .d ((eT (e2 eI eI)) c))) (d1 := ((eT (e2 eI eI)) p319.1.1)) (d2 := ((eT (e2 eI eI)) p319.2.1)) str_bin (ev_var (d := (eT (e2 eI eI)) p319.1.1) rfl) (ev_var (d := (eT (e2 eI eI)) p319.2.1) rfl) rfl rfl (fun c => z_catT)) (fun (c366 : (List (Int × Int))) => evs_nil)) (fun (c366 : (List (Int × Int))) => ⟨rfl, trivial⟩) (fun _ => rfl) (fun (c366 : (List (Int × Int))) => (fun c => z_sortsetTT))) (fun (c367 : (List (Int × Int))) => evs_nil)) (fun (c367 : (List (Int × Int))) => ⟨rfl, trivial⟩) (fun _ => rfl) (fun (c367 : (List (Int × Int))) => zt (k := (fun c => .d ((eT (e2 eI eI)) c))) rfl))) (fun _ => trivial) (fun _ => rfl)) (fun _ => (Le.drop rfl (Le.same (Le.drop rfl (Le.same (Le.same (Le.drop rfl (Le.same (Le.drop rfl (Le.drop rfl (Le.same (Le.drop rfl (Le.same (Le.drop rfl (Le.drop rfl (Le.drop rfl Le.nil))))))))))))))))) (fun (c368 : (List (Int × Int))) => (sf_push (d := fun (c375 : Bool) => (!c375)) (ex_not (d := fun (c375 : Bool) => c375) (ex_opN (ds := fun (c374 : List Bool) => [(eL eB c374)]) (z := fun (c374 : List Bool) => some (List.all c374 id)) (k := (fun c => .d (eB c))) str_bi (exs_consL (ex_lc (p := fun l372 (a369 : (Int × Int)) => some true) (g := fun l372 (a369 : (Int × Int)) => (Option.bind (t_often c368) fun (c370 : (List (Int × Int))) => some (inB a369 c370))) (enc' := eB) (IV.up (iv_of (ds := [((eT (e2 eI eI)) c347)]) (l := c347) (enc := (e2 eI eI)) (evs_cons (ev_var (d := (eT (e2 eI eI)) c347) rfl) evs_nil) ⟨rfl, trivial⟩ it_seqT)) (fun l372 a369 => rfl) (fun l372 a369 => (EV.up (k := (fun c => .d (eB c))) true ev_lit)) (fun l372 a369 => (ex_op (d1 := fun (c370 : (List (Int × Int))) => ((e2 eI eI) a369)) (d2 := fun (c370 : (List (Int × Int))) => ((eT (e2 eI eI)) c370)) (z := fun (c370 : (List (Int × Int))) => some (inB a369 c370)) (k := (fun c => .d (eB c))) str_cmp (exs_consV (ev_var (d := (e2 eI eI) a369) rfl) (exs_consL (ex_callV0 (evs_cons (ev_tk (ev_var (d := (eT (e2 eI eI)) c368) rfl)) evs_nil) rfl rfl (t_often_ok (n + 1) c368) (fun _ => rfl)) (fun (c370 : (List (Int × Int))) => evs_nil))) (fun (c370 : (List (Int × Int))) => ⟨rfl, rfl, trivial⟩) (fun _ => rfl) (fun (c370 : (List (Int × Int))) => zt (k := (fun c => .d (eB c))) (q_memT (e := (e2 eI eI)) _ _)))) (fun _ _ => Le.refl) (fun _ => rfl)) (fun (c374 : List Bool) => evs_nil)) (fun (c374 : List Bool) => ⟨rfl, trivial⟩) (fun _ => rfl) (fun (c374 : List Bool) => zt (k := (fun c => .d (eB c))) op_all))) (fun (c375 : Bool) => (sf_st (st_dead (st_dead (st_ret (fun (u376 : Bool) => u376) (EV.up (k := (fun c => .d (eB c))) false ev_lit) (fun _ => trivial) (fun _ => rfl) (fun _ => MO.nil)))))) (fun (c375 : Bool) => (sf_seq (q := fun (p377 : Unit) => [.any, .acc .free (List.map eD p319.2.2), .any, .val (eI p316.1), .val ((eT (e2 eI eI)) p319.1.1), .any, .val ((eT (e2 eI eI)) c322), .any, .any, .val ((eT (e2 eI eI)) c347), .any, .val ((eT (e2 eI eI)) c368), .any, .any, .any]) (sn_end () (Le.drop rfl (Le.same (Le.drop rfl (Le.same (Le.same (Le.drop rfl (Le.same (Le.drop rfl (Le.drop rfl (Le.same (Le.drop rfl (Le.same (Le.drop rfl (Le.drop rfl (Le.drop rfl Le.nil)))))))))))))))) (fun p377 => (sf_push (d := fun (c389 : Bool) => c389) (ex_op (d1 := fun (p388 : ((List (Int × Int))) × (List (Int × Int))) => ((eT (e2 eI eI)) p388.1)) (d2 := fun (p388 : ((List (Int × Int))) × (List (Int × Int))) => ((eT (e2 eI eI)) p388.2)) (z := fun (p388 : ((List (Int × Int))) × (List (Int × Int))) => some (!decide (p388.1 = p388.2))) (k := (fun c => .d (eB c))) str_cmp (exs_cons (ex_callV0 (evs_cons (ev_tk (ev_var (d := eI p316.1) rfl)) (evs_cons (ev_tk (ev_var (d := (eT (e2 eI eI)) p319.1.1) rfl)) evs_nil)) rfl rfl (t_often_or_none_ok (n + 0) p316.1 p319.1.1) (fun _ => rfl)) (fun (c378 : (List (Int × Int))) => (exs_consL (ex_opN (ds := fun (c386 : (List (Int × Int))) => [(eL (e2 eI eI) c386)]) (z := fun (c386 : (List (Int × Int))) => some c386) (k := (fun c => .d ((eT (e2 eI eI)) c))) str_bi (exs_consL (ex_opN (ds := fun (c385 : (List (Int × Int))) => [((eT (e2 eI eI)) c385)]) (z := fun (c385 : (List (Int × Int))) => sortsetT (e2 eI eI) c385) (k := (fun c => .o (List.map (e2 eI eI) c))) str_bi (exs_consL (ex_op (d1 := fun (c384 : (List (Int × Int))) => ((eT (e2 eI eI)) c347)) (d2 := fun (c384 : (List (Int × Int))) => ((eT (e2 eI eI)) c384)) (z := fun (c384 : (List (Int × Int))) => catO c347 c384) (k := (fun c => .d ((eT (e2 eI eI)) c))) str_bin (exs_consV (ev_var (d := (eT (e2 eI eI)) c347) rfl) (exs_consL (ex_opN (ds := fun (c383 : List (Int × Int)) => [(eL (e2 eI eI) c383)]) (z := fun (c383 : List (Int × Int)) => some c383) (k := (fun c => .d ((eT (e2 eI eI)) c))) str_bi (exs_consL (ex_lc (p := fun l379 (a380 : Int) => some true) (g := fun l379 (a380 : Int) => some (a380, a380)) (enc' := (e2 eI eI)) (ix_v (ds := [(eI p316.1)]) (z := rng1O p316.1) (enc := eI) (evs_cons (ev_var (d := eI p316.1) rfl) evs_nil) ⟨rfl, trivial⟩ (fun c => it_rng1)) (fun l379 a380 => rfl) (fun l379 a380 => (EV.up (k := (fun c => .d (eB c))) true ev_lit)) (fun l379 a380 => (EV.up (k := (fun c => .d ((e2 eI eI) c))) (a380, a380) (ev_tup (evs_cons (ev_tk (ev_var (d := eI a380) rfl)) (evs_cons (ev_tk (ev_var (d := eI a380) rfl)) evs_nil)) (AllD.cons (AllD.cons AllD.nil))))) (fun _ _ => Le.refl) (fun _ => rfl)) (fun (c383 : List (Int × Int)) => evs_nil)) (fun (c383 : List (Int × Int)) => ⟨rfl, trivial⟩) (fun _ => rfl) (fun (c383 : List (Int × Int)) => zt (k := (fun c => .d ((eT (e2 eI eI)) c))) rfl)) (fun (c384 : (List (Int × Int))) => evs_nil))) (fun (c384 : (List (Int × Int))) => ⟨rfl, rfl, trivial⟩) (fun _ => rfl) (fun (c384 : (List (Int × Int))) => (fun c => z_catT))) (fun (c385 : (List (Int × Int))) => evs_nil)) (fun (c385 : (List (Int × Int))) => ⟨rfl, trivial⟩) (fun _ => rfl) (fun (c385 : (List (Int × Int))) => (fun c => z_sortsetTT))) (fun (c386 : (List (Int × Int))) => evs_nil)) (fun (c386 : (List (Int × Int))) => ⟨rfl, trivial⟩) (fun _ => rfl) (fun (c386 : (List (Int × Int))) => zt (k := (fun c => .d ((eT (e2 eI eI)) c))) rfl)) (fun (c387 : (List (Int × Int))) => evs_nil)))) (fun (p388 : ((List (Int × Int))) × (List (Int × Int))) => ⟨rfl, rfl, trivial⟩) (fun _ => rfl) (fun (p388 : ((List (Int × Int))) × (List (Int × Int))) => zt (k := (fun c => .d (eB c))) (q_ne _ _))) (fun (c389 : Bool) => (sf_st (st_dead (st_dead (st_ret (fun (u390 : Bool) => u390) (EV.up (k := (fun c => .d (eB c))) false ev_lit) (fun _ => trivial) (fun _ => rfl) (fun _ => MO.nil)))))) (fun (c389 : Bool) => (sf_seq (q := fun (p391 : Unit) => [.any, .acc .free (List.map eD p319.2.2), .any, .val (eI p316.1), .val ((eT (e2 eI eI)) p319.1.1), .any, .val ((eT (e2 eI eI)) c322), .any, .any, .val ((eT (e2 eI eI)) c347), .any, .val ((eT (e2 eI eI)) c368), .any, .any, .any]) (sn_end () (Le.drop rfl (Le.same (Le.drop rfl (Le.same (Le.same (Le.drop rfl (Le.same (Le.drop rfl (Le.drop rfl (Le.same (Le.drop rfl (Le.same (Le.drop rfl (Le.drop rfl (Le.drop rfl Le.nil)))))))))))))))) (fun p391 => (sf_seq (SN.to (q' := fun (c392 : (List (List Int))) => [.any, .acc .free (List.map eD p319.2.2), .any, .val (eI p316.1), .val ((eT (e2 eI eI)) p319.1.1), .any, .val ((eT (e2 eI eI)) c322), .any, .any, .any, .any, .any, .val ((eT (eT eI)) c392), .any, .any]) (sn_asn (ex_tk (d := fun (c392 : (List (List Int))) => (eT (eT eI)) c392) (ex_callV0 (evs_cons (ev_tk (ev_var (d := eI p316.1) rfl)) (evs_cons (ev_tk (ev_var (d := (eT (e2 eI eI)) p319.1.1) rfl)) evs_nil)) rfl rfl (t__law_lots_ok (n + 5) p316.1 p319.1.1) (fun _ => rfl))) (fun _ => trivial) (fun _ => rfl)) (fun _ => (Le.drop rfl (Le.same (Le.drop rfl (Le.same (Le.same (Le.drop rfl (Le.same (Le.drop rfl (Le.drop rfl (Le.drop rfl (Le.drop rfl (Le.drop rfl (Le.same (Le.drop rfl (Le.drop rfl Le.nil))))))))))))))))) (fun (c392 : (List (List Int))) => (sf_push (d := fun (c394 : Bool) => c394) (ex_op (d1 := fun (c393 : (List (List Int))) => ((eT (eT eI)) c393)) (d2 := fun (c393 : (List (List Int))) => ((eT (eT eI)) c392)) (z := fun (c393 : (List (List Int))) => some (!decide (c393 = c392))) (k := (fun c => .d (eB c))) str_cmp (exs_consL (ex_callV0 (evs_cons (ev_tk (ev_var (d := eI p316.1) rfl)) (evs_cons (ev_tk (ev_var (d := (eT (e2 eI eI)) p319.1.1) rfl)) evs_nil)) rfl rfl (t_alike_by_ok (n + 0) p316.1 p319.1.1) (fun _ => rfl)) (fun (c393 : (List (List Int))) => (evs_cons (ev_var (d := (eT (eT eI)) c392) rfl) evs_nil))) (fun (c393 : (List (List Int))) => ⟨rfl, rfl, trivial⟩) (fun _ => rfl) (fun (c393 : (List (List Int))) => zt (k := (fun c => .d (eB c))) (q_ne _ _))) (fun (c394 : Bool) => (sf_st (st_dead (st_dead (st_ret (fun (u395 : Bool) => u395) (EV.up (k := (fun c => .d (eB c))) false ev_lit) (fun _ => trivial) (fun _ => rfl) (fun _ => MO.nil)))))) (fun (c394 : Bool) => (sf_seq (q := fun (p396 : Unit) => [.any, .acc .free (List.map eD p319.2.2), .any, .val (eI p316.1), .val ((eT (e2 eI eI)) p319.1.1), .any, .val ((eT (e2 eI eI)) c322), .any, .any, .any, .any, .any, .val ((eT (eT eI)) c392), .any, .any]) (sn_end () (Le.drop rfl (Le.same (Le.drop rfl (Le.same (Le.same (Le.drop rfl (Le.same (Le.drop rfl (Le.drop rfl (Le.drop rfl (Le.drop rfl (Le.drop rfl (Le.same (Le.drop rfl (Le.drop rfl Le.nil)))))))))))))))) (fun p396 => (sf_seq (SN.to (q' := fun (c400 : (List (Int × Int))) => [.any, .acc .free (List.map eD p319.2.2), .any, .val (eI p316.1), .any, .any, .any, .any, .any, .any, .any, .any, .val ((eT (eT eI)) c392), .val ((eT (e2 eI eI)) c400), .any]) (sn_asn (ex_tk (d := fun (c400 : (List (Int × Int))) => (eT (e2 eI eI)) c400) (ex_callP (exs_consV (ev_tk (ev_var (d := eI p316.1) rfl)) (exs_consL (ex_tk (d := fun (c399 : (List (Int × Int))) => (eT (e2 eI eI)) c399) (ex_opN (ds := fun (c398 : (List (Int × Int))) => [(eL (e2 eI eI) c398)]) (z := fun (c398 : (List (Int × Int))) => some c398) (k := (fun c => .d ((eT (e2 eI eI)) c))) str_bi (exs_consL (ex_opN (ds := fun (c397 : (List (Int × Int))) => [((eT (e2 eI eI)) c397)]) (z := fun (c397 : (List (Int × Int))) => sortsetT (e2 eI eI) c397) (k := (fun c => .o (List.map (e2 eI eI) c))) str_bi (exs_consL (ex_opV (z := catO p319.1.1 c322) (k := (fun c => .d ((eT (e2 eI eI)) c))) (d1 := ((eT (e2 eI eI)) p319.1.1)) (d2 := ((eT (e2 eI eI)) c322)) str_bin (ev_var (d := (eT (e2 eI eI)) p319.1.1) rfl) (ev_var (d := (eT (e2 eI eI)) c322) rfl) rfl rfl (fun c => z_catT)) (fun (c397 : (List (Int × Int))) => evs_nil)) (fun (c397 : (List (Int × Int))) => ⟨rfl, trivial⟩) (fun _ => rfl) (fun (c397 : (List (Int × Int))) => (fun c => z_sortsetTT))) (fun (c398 : (List (Int × Int))) => evs_nil)) (fun (c398 : (List (Int × Int))) => ⟨rfl, trivial⟩) (fun _ => rfl) (fun (c398 : (List (Int × Int))) => zt (k := (fun c => .d ((eT (e2 eI eI)) c))) rfl))) (fun (c399 : (List (Int × Int))) => evs_nil))) (fun _ => rfl) (fun _ => rfl) (fun (c399 : (List (Int × Int))) => (t_often_or_none_ok (n + 0) p316.1 c399)) (fun _ _ => rfl))) (fun _ => trivial) (fun _ => rfl)) (fun _ => (Le.drop rfl (Le.same (Le.drop rfl (Le.same (Le.drop rfl (Le.drop rfl (Le.drop rfl (Le.drop rfl (Le.drop rfl (Le.drop rfl (Le.drop rfl (Le.drop rfl (Le.same (Le.same (Le.drop rfl Le.nil))))))))))))))))) (fun (c400 : (List (Int × Int))) => (sf_seqF (sf_for (fun (s403 : Unit) => [.any, .acc .free (List.map eD p319.2.2), .any, .any, .any, .any, .any, .any, .any, .any, .any, .any, .val ((eT (eT eI)) c392), .val ((eT (e2 eI eI)) c400), .any]) (fun (s403 : Unit) => [.any, .acc .free (List.map eD p319.2.2), .any, .any, .any, .any, .any, .any, .any, .any, .any, .any, .val ((eT (eT eI)) c392), .val ((eT (e2 eI eI)) c400), .any]) (fun (l402 : List (Int × Int)) => ()) (ix_p (ds := fun (c401 : (List (Int × Int))) => [((eL (e2 eI eI)) c401)]) (z := fun (c401 : (List (Int × Int))) => some c401) (enc := (e2 eI eI)) (exs_consL (ex_callV0 (evs_cons (ev_tk (ev_var (d := eI p316.1) rfl)) evs_nil) rfl rfl (t__law_every_ok (n + 5) p316.1) (fun _ => rfl)) (fun (c401 : (List (Int × Int))) => evs_nil)) (fun (c401 : (List (Int × Int))) => ⟨rfl, trivial⟩) (fun _ => rfl) (fun _ => rfl) (fun (c401 : (List (Int × Int))) => zi it_seqL)) (fun _ => (Le.drop rfl (Le.same (Le.drop rfl (Le.drop rfl (Le.drop rfl (Le.drop rfl (Le.drop rfl (Le.drop rfl (Le.drop rfl (Le.drop rfl (Le.drop rfl (Le.drop rfl (Le.same (Le.same (Le.drop rfl Le.nil)))))))))))))))) (fun _ _ => rfl) (fun a404 s403 => (sf_push (d := fun (u411 : Bool) => u411) (EV.up (k := (fun c => .d (eB c))) (!decide ((inB (a404.1, a404.2) c400) = (List.any (List.map (fun (a406 : (List Int)) => ((inB a404.1 a406) && (inB a404.2 a406))) (List.filter (fun (a406 : (List Int)) => true) c392)) id))) (ev_cmpK (k := .d (eB (!decide ((inB (a404.1, a404.2) c400) = (List.any (List.map (fun (a406 : (List Int)) => ((inB a404.1 a406) && (inB a404.2 a406))) (List.filter (fun (a406 : (List Int)) => true) c392)) id))))) (da := (eB (inB (a404.1, a404.2) c400))) (db := (eB (List.any (List.map (fun (a406 : (List Int)) => ((inB a404.1 a406) && (inB a404.2 a406))) (List.filter (fun (a406 : (List Int)) => true) c392)) id))) (ev_cmpK (k := .d (eB (inB (a404.1, a404.2) c400))) (da := ((e2 eI eI) (a404.1, a404.2))) (db := ((eT (e2 eI eI)) c400)) (ev_tup (evs_cons (ev_tk (ev_var (d := eI a404.1) rfl)) (evs_cons (ev_tk (ev_var (d := eI a404.2) rfl)) evs_nil)) (AllD.cons (AllD.cons AllD.nil))) (ev_var (d := (eT (e2 eI eI)) c400) rfl) rfl rfl (q_memT (e := (e2 eI eI)) _ _)) (ev_bi (k := .d (eB (List.any (List.map (fun (a406 : (List Int)) => ((inB a404.1 a406) && (inB a404.2 a406))) (List.filter (fun (a406 : (List Int)) => true) c392)) id))) (ds := [(eL eB (List.map (fun (a406 : (List Int)) => ((inB a404.1 a406) && (inB a404.2 a406))) (List.filter (fun (a406 : (List Int)) => true) c392)))]) (evs_cons (ev_lc (p := fun (a406 : (List Int)) => true) (g := fun (a406 : (List Int)) => ((inB a404.1 a406) && (inB a404.2 a406))) (enc' := eB) (iv_of (ds := [((eT (eT eI)) c392)]) (l := c392) (enc := (eT eI)) (evs_cons (ev_var (d := (eT (eT eI)) c392) rfl) evs_nil) ⟨rfl, trivial⟩ it_seqT) (fun a406 => rfl) (fun a406 => ev_lit) (fun a406 => (ev_tk (ev_and (ev_cmpK (k := .d (eB (inB a404.1 a406))) (da := (eI a404.1)) (db := ((eT eI) a406)) (ev_var (d := eI a404.1) rfl) (ev_var (d := (eT eI) a406) rfl) rfl rfl (q_memT (e := eI) _ _)) (ev_cmpK (k := .d (eB (inB a404.2 a406))) (da := (eI a404.2)) (db := ((eT eI) a406)) (ev_var (d := eI a404.2) rfl) (ev_var (d := (eT eI) a406) rfl) rfl rfl (q_memT (e := eI) _ _))))) (fun _ => Le.refl) rfl) evs_nil) ⟨rfl, trivial⟩ op_any) rfl rfl (q_ne _ _))) (fun (u411 : Bool) => (sf_st (st_dead (st_dead (st_ret (fun (u412 : Bool) => u412) (EV.up (k := (fun c => .d (eB c))) false ev_lit) (fun _ => trivial) (fun _ => rfl) (fun _ => MO.nil)))))) (fun (u411 : Bool) => (sf_seq (q := fun (p413 : Unit) => [.any, .acc .free (List.map eD p319.2.2), .any, .any, .any, .any, .any, .val (eI a404.1), .val (eI a404.2), .any, .any, .any, .val ((eT (eT eI)) c392), .val ((eT (e2 eI eI)) c400), .any]) (sn_end () (Le.drop rfl (Le.same (Le.drop rfl (Le.drop rfl (Le.drop rfl (Le.drop rfl (Le.drop rfl (Le.same (Le.same (Le.drop rfl (Le.drop rfl (Le.drop rfl (Le.same (Le.same (Le.drop rfl Le.nil)))))))))))))))) (fun p413 => (sf_end () (Le.drop rfl (Le.same (Le.drop rfl (Le.drop rfl (Le.drop rfl (Le.drop rfl (Le.drop rfl (Le.drop rfl (Le.drop rfl (Le.drop rfl (Le.drop rfl (Le.drop rfl (Le.same (Le.same (Le.drop rfl Le.nil))))))))))))))))))))) (fun _ _ => (Le.drop rfl (Le.same (Le.drop rfl (Le.drop rfl (Le.drop rfl (Le.drop rfl (Le.drop rfl (Le.drop rfl (Le.drop rfl (Le.drop rfl (Le.drop rfl (Le.drop rfl (Le.same (Le.same (Le.drop rfl Le.nil))))))))))))))))) (fun s403 => (sf_end p319.2.2 (Le.drop rfl (Le.same (Le.drop rfl (Le.drop rfl (Le.drop rfl (Le.drop rfl (Le.drop rfl (Le.drop rfl (Le.drop rfl (Le.drop rfl (Le.drop rfl (Le.drop rfl (Le.drop rfl (Le.drop rfl (Le.drop rfl Le.nil))))))))))))))))))))))))))))))))))))))))))))))))))))))))))))))))))))))))) (fun _ _ => (Le.drop rfl (Le.same (Le.drop rfl (Le.drop rfl (Le.drop rfl (Le.drop rfl (Le.drop rfl (Le.drop rfl (Le.drop rfl (Le.drop rfl (Le.drop rfl (Le.drop rfl (Le.drop rfl (Le.drop rfl (Le.drop rfl Le.nil))))))))))))))))) (fun s312 => (st_dead (st_ret (fun (u414 : Bool) => u414) (EV.up (k := (fun c => .d (eB c))) true ev_lit) (fun _ => trivial) (fun _ => rfl) (fun _ => MO.nil)))))))))))))))))))
  exact fn_of (fn := f_law) rfl rfl h (fun _ => rfl)
end MT

-- part PR
set_option maxHeartbeats 1000000
/-! Pairs of small ints, by ascending lists. -/
namespace ML
open MP MT
abbrev P2 := Int × Int
def Asc (l : List P2) : Prop := l.Pairwise fun a b => ltP a b = true
def InP (n : Int) (p : P2) : Prop := 0 ≤ p.1 ∧ p.1 < n ∧ 0 ≤ p.2 ∧ p.2 < n
def InN (n : Int) (l : List P2) : Prop := ∀ p ∈ l, InP n p
theorem ltP_iff {a b : P2} : ltP a b = true ↔ a.1 < b.1 ∨ a.1 = b.1 ∧ a.2 < b.2 := decide_eq_true_iff
theorem Asc.nodup {l : List P2} (h : Asc l) : l.Nodup := h.imp fun {a b} h e => by
  rw [ltP_iff] at h; subst e; omega
theorem asc_ext {l m : List P2} (h1 : Asc l) (h2 : Asc m) (h : ∀ p, p ∈ l ↔ p ∈ m) : l = m :=
  ((List.perm_ext_iff_of_nodup h1.nodup h2.nodup).mpr h).eq_of_pairwise (fun x y _ _ a b => by rw [ltP_iff] at a b; omega) h1 h2
def all6 : List P2 := (List.range 6).flatMap fun (a : Nat) => (List.range 6).map fun (b : Nat) => ((a : Int), (b : Int))
theorem mem_all6 {p : P2} (h : InP 6 p) : p ∈ all6 := by
  obtain ⟨h1, h2, h3, h4⟩ := h
  refine List.mem_flatMap.mpr ⟨p.1.toNat, List.mem_range.mpr (by omega), List.mem_map.mpr ⟨p.2.toNat, List.mem_range.mpr (by omega), ?_⟩⟩
  exact Prod.ext (Int.toNat_of_nonneg h1) (Int.toNat_of_nonneg h3)
theorem len36 {l : List P2} (nd : l.Nodup) (h : InN 6 l) : l.length ≤ 36 := nodup_len (m := all6) nd fun p hp => mem_all6 (h p hp)
theorem lt_rows {a b : P2} : ([a.1, a.2] : List Int) < [b.1, b.2] ↔ ltP a b = true := by
  rw [List.cons_lt_cons_iff, List.cons_lt_cons_iff, ltP_iff]
  simp
abbrev toR (p : P2) : List Int := [p.1, p.2]
abbrev ofR (k : List Int) : P2 := TE.of (e := e2 eI eI) k
theorem rows_ok {K : List (List Int)} (h : ∀ k ∈ K, ∃ p : P2, k = toR p ∧ InP 6 p) : (sortUL K).length < 63 ∧ Asc ((sortUL K).map ofR) ∧ ∀ p : P2, p ∈ (sortUL K).map ofR ↔ toR p ∈ K := by
  have form : ∀ k ∈ sortUL K, ∃ p : P2, k = toR p ∧ InP 6 p := fun k hk => h k ((sortUL_mem _ _).mp hk)
  have asc := sortUL_asc K
  refine ⟨?_, ?_, fun p => ?_⟩
  · have := nodup_len (m := all6.map toR) (ascL_nd asc) fun k hk => by
      obtain ⟨p, rfl, hp⟩ := form k hk
      exact List.mem_map.mpr ⟨p, mem_all6 hp, rfl⟩
    have e : (all6.map toR).length = 36 := rfl
    omega
  · refine List.pairwise_map.mpr (List.Pairwise.imp_of_mem (fun {a b} ha hb hab => ?_) asc)
    obtain ⟨p, rfl, _⟩ := form a ha
    obtain ⟨q, rfl, _⟩ := form b hb
    exact lt_rows.mp hab
  · constructor
    · intro hp
      obtain ⟨k, hk, e⟩ := List.mem_map.mp hp
      obtain ⟨q, rfl, _⟩ := form k hk
      have : q = p := e
      subst this
      exact (sortUL_mem _ _).mp hk
    · intro hp
      exact List.mem_map.mpr ⟨toR p, (sortUL_mem _ _).mpr hp, rfl⟩
/-- there is a value, and it is so -/
def Ex {α : Type} (x : Option α) (P : α → Prop) : Prop := ∃ a, x = some a ∧ P a
theorem Ex.bind {α β : Type} {x : Option α} {f : α → Option β} {Q : α → Prop} {P : β → Prop} (h1 : Ex x Q) (h2 : ∀ a, Q a → Ex (f a) P) : Ex (x.bind f) P := by
  obtain ⟨a, rfl, ha⟩ := h1
  exact h2 a ha
theorem Ex.some {α : Type} {a : α} {P : α → Prop} (h : P a) : Ex (some a) P := ⟨a, rfl, h⟩
theorem Ex.imp {α : Type} {x : Option α} {P Q : α → Prop} (h : Ex x P) (i : ∀ a, P a → Q a) : Ex x Q := by
  obtain ⟨a, e, ha⟩ := h
  exact ⟨a, e, i a ha⟩
theorem Ex.of {α : Type} {x : Option α} {a : α} {P : α → Prop} (e : x = .some a) (h : P a) : Ex x P := ⟨a, e, h⟩
theorem set_ok {l : List P2} (h : InN 6 l) : Ex (sortsetT (e2 eI eI) l) fun c => Asc c ∧ ∀ p, p ∈ c ↔ p ∈ l := by
  obtain ⟨h1, h2, h3⟩ := rows_ok (K := l.map toR) fun k hk => by
    obtain ⟨p, hp, rfl⟩ := List.mem_map.mp hk
    exact ⟨p, rfl, h p hp⟩
  refine ⟨(sortUL (l.map toR)).map ofR, ?_, h2, fun p => ?_⟩
  · unfold sortsetT
    refine if_pos ⟨?_, h1⟩
    rw [List.all_eq_true]
    intro k hk
    obtain ⟨p, _, rfl⟩ := List.mem_map.mp hk
    rfl
  · rw [h3]
    constructor
    · intro hp
      obtain ⟨q, hq, e⟩ := List.mem_map.mp hp
      have : q = p := by
        unfold toR at e
        injection e with e1 e2
        injection e2 with e2
        exact Prod.ext e1 e2
      rw [← this]; exact hq
    · exact fun hp => List.mem_map.mpr ⟨p, hp, rfl⟩
theorem toR_inj {p q : P2} (e : toR p = toR q) : p = q := by
  unfold toR at e
  injection e with e1 e2
  injection e2 with e2
  exact Prod.ext e1 e2
theorem fol_ok {l m : List P2} {d e : D} (hd : items d = some (l.map (e2 eI eI))) (he : items e = some (m.map (e2 eI eI))) (nl : l.Nodup) (nm : m.Nodup) (hl : InN 6 l) (hm : InN 6 m) :
    Ex (folP d e) fun c => Asc c ∧ ∀ p : P2, p ∈ c ↔ ∃ b, (p.1, b) ∈ l ∧ (b, p.2) ∈ m := by
  have mem : ∀ k, k ∈ folK (l.map toR) (m.map toR) ↔ ∃ a b t, (a, b) ∈ l ∧ (b, t) ∈ m ∧ k = [a, t] := fun k => by
    unfold folK
    rw [List.mem_flatMap]
    constructor
    · rintro ⟨x, hx, hk⟩
      obtain ⟨p, hp, rfl⟩ := List.mem_map.mp hx
      obtain ⟨y, hy, e⟩ := List.mem_filterMap.mp (show k ∈ (m.map toR).filterMap _ from hk)
      obtain ⟨q, hq, rfl⟩ := List.mem_map.mp hy
      have e' : (if q.1 = p.2 then some [p.1, q.2] else none) = some k := e
      split at e'
      · rename_i z
        cases e'
        exact ⟨p.1, p.2, q.2, hp, by rw [← z]; exact hq, rfl⟩
      · cases e'
    · rintro ⟨a, b, t, h1, h2, rfl⟩
      refine ⟨toR (a, b), List.mem_map.mpr ⟨_, h1, rfl⟩, ?_⟩
      show _ ∈ (m.map toR).filterMap _
      refine List.mem_filterMap.mpr ⟨toR (b, t), List.mem_map.mpr ⟨_, h2, rfl⟩, ?_⟩
      show (if b = b then some [a, t] else none) = some [a, t]
      exact if_pos rfl
  obtain ⟨h1, h2, h3⟩ := rows_ok (K := folK (l.map toR) (m.map toR)) fun k hk => by
    obtain ⟨a, b, t, g1, g2, rfl⟩ := (mem k).mp hk
    have i1 := hl _ g1
    have i2 := hm _ g2
    exact ⟨(a, t), rfl, i1.1, i1.2.1, i2.2.2.1, i2.2.2.2⟩
  refine ⟨(sortUL (folK (l.map toR) (m.map toR))).map ofR, ?_, h2, fun p => ?_⟩
  · have two : ∀ z : List P2, twoB (z.map toR) = true := fun z => by
      unfold twoB
      rw [List.all_eq_true]
      intro k hk
      obtain ⟨p, _, rfl⟩ := List.mem_map.mp hk
      rfl
    have g1 : getsT (l.map (e2 eI eI)) = some (l.map toR) := getsT_e l
    have g2 : getsT (m.map (e2 eI eI)) = some (m.map toR) := getsT_e m
    have n1 := len36 nl hl
    have n2 := len36 nm hm
    have n3 : l.length * m.length ≤ 36 * 36 := Nat.mul_le_mul n1 n2
    unfold folP folS
    rw [hd, he]
    simp only [Option.bind_some, g1, g2]
    rw [if_pos]
    · rfl
    · rw [two, two]
      simp only [Bool.true_and, Bool.and_eq_true, decide_eq_true_eq, List.length_map]
      exact ⟨by omega, h1⟩
  · rw [h3, mem]
    constructor
    · rintro ⟨a, b, t, g1, g2, e⟩
      have : p = (a, t) := toR_inj e
      subst this
      exact ⟨b, g1, g2⟩
    · rintro ⟨b, g1, g2⟩
      exact ⟨p.1, b, p.2, g1, g2, rfl⟩
end ML

-- part PR2
set_option maxHeartbeats 1000000
namespace ML
open MP MT
theorem alD_rows : ∀ a b : List Int, alDs (a.map .int) (b.map .int) = true
  | [], b => by cases b <;> simp [alDs]
  | x :: a, [] => by simp [alDs]
  | x :: a, y :: b => by simp [alDs, alD, alD_rows a b]
theorem srt_rows {K : List (List Int)} (h : ∀ k ∈ K, k ≠ []) : srtOk (K.map tupI) = true := by
  have e1 := EqE.pl (e := eT (eT eI)) K
  have e2 := EqE.de (e := eT (eT eI)) K
  rw [show eT (eT eI) K = .tup (K.map tupI) from rfl] at e1 e2
  rw [pln] at e1
  rw [dep] at e2
  unfold srtOk
  rw [e1, Bool.and_eq_true, Bool.and_eq_true, Bool.and_eq_true]
  refine ⟨⟨⟨?_, rfl⟩, ?_⟩, ?_⟩
  · rw [List.all_eq_true]
    intro d hd
    obtain ⟨a, _, rfl⟩ := List.mem_map.mp hd
    rw [List.all_eq_true]
    intro e he
    obtain ⟨b, _, rfl⟩ := List.mem_map.mp he
    show alD (.tup _) (.tup _) = true
    rw [alD]
    exact alD_rows a b
  · rw [decide_eq_true_eq]
    omega
  · rw [Bool.or_eq_true]
    left
    rw [List.all_eq_true]
    intro d hd
    obtain ⟨a, ha, rfl⟩ := List.mem_map.mp hd
    cases a with
    | nil => exact (h _ ha rfl).elim
    | cons x a => rfl
theorem sortO_rows {α : Type} {e : α → D} {to : α → List Int} (he : ∀ a, e a = tupI (to a)) {l : List α} (h : ∀ a ∈ l, to a ≠ []) : sortO e l = some (l.mergeSort (leE e)) := by
  cases l with
  | nil => simp [sortO]
  | cons x r =>
    unfold sortO
    have em : (x :: r).map e = ((x :: r).map to).map tupI := by
      rw [List.map_map]
      exact List.map_congr_left fun a _ => he a
    refine if_pos ⟨?_, ?_⟩
    · rw [em]; rfl
    · rw [em]
      refine srt_rows fun k hk => ?_
      obtain ⟨a, ha, rfl⟩ := List.mem_map.mp hk
      exact h a ha
theorem leE_P (a b : P2) : leE (e2 eI eI) a b = !ltP b a := by unfold leE; rw [ltP_D]
theorem ltP_false {a b : P2} : ltP a b = false ↔ ¬ (a.1 < b.1 ∨ a.1 = b.1 ∧ a.2 < b.2) := decide_eq_false_iff_not
theorem sort_ok {l : List P2} (nd : l.Nodup) : Ex (sortO (e2 eI eI) l) fun c => Asc c ∧ ∀ p, p ∈ c ↔ p ∈ l := by
  refine ⟨_, sortO_rows (to := toR) (fun _ => rfl) (fun a _ => List.cons_ne_nil _ _), ?_, fun p => (List.mergeSort_perm l _).mem_iff⟩
  have srt := List.pairwise_mergeSort (le := leE (e2 eI eI)) (fun x y z h1 h2 => by
    rw [leE_P, Bool.not_eq_true', ltP_false] at h1 h2 ⊢; omega) (fun x y => by
    rw [leE_P, leE_P, Bool.or_eq_true, Bool.not_eq_true', Bool.not_eq_true', ltP_false, ltP_false]; omega) l
  have nd2 := ((List.mergeSort_perm l (leE (e2 eI eI))).nodup_iff).mpr nd
  refine (List.Pairwise.and srt nd2).imp fun {x y} h => ?_
  have h1 := h.1
  rw [leE_P, Bool.not_eq_true', ltP_false] at h1
  rw [ltP_iff]
  have h2 : ¬ (x.1 = y.1 ∧ x.2 = y.2) := fun z => h.2 (Prod.ext z.1 z.2)
  omega
/-! ### steps on -/
inductive Tc (l : List P2) : Int → Int → Prop
  | one {a b} : (a, b) ∈ l → Tc l a b
  | more {a b c} : Tc l a b → (b, c) ∈ l → Tc l a c
theorem Tc.trans {l : List P2} {a b c : Int} (h : Tc l a b) (g : Tc l b c) : Tc l a c := by
  induction g with
  | one g => exact .more h g
  | more _ g ih => exact .more ih g
theorem Tc.least {l : List P2} {R : Int → Int → Prop} (h1 : ∀ a b, (a, b) ∈ l → R a b) (h2 : ∀ a b c, R a b → R b c → R a c) {a b : Int} (h : Tc l a b) : R a b := by
  induction h with
  | one h => exact h1 _ _ h
  | more _ h ih => exact h2 _ _ _ ih (h1 _ _ h)
theorem Tc.inP {l : List P2} {n : Int} (hl : InN n l) {a b : Int} (h : Tc l a b) : InP n (a, b) := by
  induction h with
  | one h => exact hl _ h
  | more _ h ih =>
    have := hl _ h
    exact ⟨ih.1, ih.2.1, this.2.2.1, this.2.2.2⟩
theorem Tc.mono {l m : List P2} (h : ∀ p ∈ l, p ∈ m) {a b : Int} (g : Tc l a b) : Tc m a b :=
  g.least (fun a b z => .one (h _ z)) fun _ _ _ x y => x.trans y
/-- steps on, the ascending list -/
def IsTc (l c : List P2) : Prop := Asc c ∧ ∀ p : P2, p ∈ c ↔ Tc l p.1 p.2
theorem IsTc.one {l c d : List P2} (h : IsTc l c) (g : IsTc l d) : c = d := asc_ext h.1 g.1 fun p => (h.2 p).trans (g.2 p).symm
theorem grow_len {l m : List P2} (nl : l.Nodup) (nm : m.Nodup) (h : ∀ p ∈ l, p ∈ m) : (∀ p ∈ m, p ∈ l) ∨ l.length + 1 ≤ m.length := by
  by_cases g : ∀ p ∈ m, p ∈ l
  · exact .inl g
  · right
    rw [Classical.not_forall] at g
    obtain ⟨p, g⟩ := g
    rw [Classical.not_imp] at g
    have := nodup_len (l := p :: l) (m := m) (List.nodup_cons.mpr ⟨g.2, nl⟩) fun q hq => by
      rcases List.mem_cons.mp hq with e | hq
      · rw [e]; exact g.1
      · exact h q hq
    rwa [List.length_cons] at this
/-- the loop of often_of -/
def oftC (s52 : List P2 × List P2) : Option (Bool × List P2 × List P2) := Option.bind (some (!decide (s52.1 = s52.2))) fun (u54 : Bool) => some (u54, (s52.1, s52.2))
theorem oft_loop {l : List P2} {F : D → D → Option (List P2)} (hF : F = folP) : ∀ (n : Nat) (found more : List P2), Asc found → InN 6 found → (∀ p ∈ l, p ∈ found) → (∀ p ∈ found, Tc l p.1 p.2) → (∀ a b c, (a, b) ∈ more → (b, c) ∈ more → (a, c) ∈ found) → (∀ p ∈ more, p ∈ found) →
    (found = more ∧ 1 ≤ n ∨ 38 ≤ n + found.length) →
    Ex (whO oftC (fun p55 => p55.1) (fun p55 => p55.2) (fun p55 => (Option.bind (some p55.2.1) fun (u56 : (List (Int × Int))) => (Option.bind ((Option.bind ((Option.bind (F ((eL (e2 eI eI)) p55.2.1) ((eL (e2 eI eI)) p55.2.1)) fun (c57 : (List (Int × Int))) => catO p55.2.1 c57)) fun (c58 : (List (Int × Int))) => sortsetT (e2 eI eI) c58)) fun (c59 : (List (Int × Int))) => some (c59, u56)))) n (found, more)) fun s => IsTc l s.1 := by
  intro n
  induction n with
  | zero =>
    intro found more ha hi _ _ _ _ hm
    have := len36 ha.nodup hi
    omega
  | succ n ih =>
    intro found more ha hi h1 h2 h3 h4 hm
    unfold whO
    by_cases e : found = more
    · obtain rfl : more = found := e.symm
      refine ⟨(more, more), ?_, ha, fun p => ⟨h2 p, fun h => ?_⟩⟩
      · simp [oftC]
      · exact Tc.least (R := fun a b => (a, b) ∈ more) (fun a b z => h1 _ z) h3 h
    · have hm' : 38 ≤ n + 1 + found.length := hm.resolve_left fun z => e z.1
      have l36 := len36 ha.nodup hi
      have step : Ex ((Option.bind (some found) fun (u56 : (List (Int × Int))) => (Option.bind ((Option.bind ((Option.bind (F ((eL (e2 eI eI)) found) ((eL (e2 eI eI)) found)) fun (c57 : (List (Int × Int))) => catO found c57)) fun (c58 : (List (Int × Int))) => sortsetT (e2 eI eI) c58)) fun (c59 : (List (Int × Int))) => some (c59, u56)))) fun s => s.2 = found ∧ Asc s.1 ∧ ∀ p : P2, p ∈ s.1 ↔ p ∈ found ∨ ∃ b, (p.1, b) ∈ found ∧ (b, p.2) ∈ found := by
        rw [Option.bind_some]
        subst hF
        refine Ex.bind (Q := fun c => Asc c ∧ ∀ p : P2, p ∈ c ↔ p ∈ found ∨ ∃ b, (p.1, b) ∈ found ∧ (b, p.2) ∈ found) (Ex.bind (Q := fun c => ∀ p : P2, p ∈ c ↔ p ∈ found ∨ ∃ b, (p.1, b) ∈ found ∧ (b, p.2) ∈ found) (Ex.bind (fol_ok (l := found) (m := found) rfl rfl ha.nodup ha.nodup hi hi) fun c hc => ?_) fun c hc => ?_) fun c hc => .some ⟨rfl, hc⟩
        · have hci : InN 6 c := fun p hp => by
            obtain ⟨b, g1, g2⟩ := (hc.2 p).mp hp
            exact ⟨(hi _ g1).1, (hi _ g1).2.1, (hi _ g2).2.2.1, (hi _ g2).2.2.2⟩
          have := len36 hc.1.nodup hci
          refine ⟨found ++ c, if_pos (by have : (36 + 36 : Nat) ≤ LIM := by decide
                                         omega), fun p => ?_⟩
          rw [List.mem_append, hc.2]
        · refine (set_ok fun p hp => ?_).imp fun d hd => ⟨hd.1, fun p => (hd.2 p).trans (hc p)⟩
          rcases (hc p).mp hp with g | ⟨b, g1, g2⟩
          · exact hi p g
          · exact ⟨(hi _ g1).1, (hi _ g1).2.1, (hi _ g2).2.2.1, (hi _ g2).2.2.2⟩
      obtain ⟨⟨f2, m2⟩, es, em, a2, mem⟩ := step
      have em : found = m2 := em.symm
      subst em
      replace a2 : Asc f2 := a2
      replace mem : ∀ p : P2, p ∈ f2 ↔ p ∈ found ∨ ∃ b, (p.1, b) ∈ found ∧ (b, p.2) ∈ found := mem
      have sub : ∀ p ∈ found, p ∈ f2 := fun p hp => (mem p).mpr (.inl hp)
      have hi2 : InN 6 f2 := fun p hp => by
        rcases (mem p).mp hp with g | ⟨b, g1, g2⟩
        · exact hi p g
        · exact ⟨(hi _ g1).1, (hi _ g1).2.1, (hi _ g2).2.2.1, (hi _ g2).2.2.2⟩
      have r := ih f2 found a2 hi2 (fun p hp => sub p (h1 p hp)) (fun p hp => by
        rcases (mem p).mp hp with g | ⟨b, g1, g2⟩
        · exact h2 p g
        · exact (h2 _ g1).trans (h2 _ g2)) (fun a b c g1 g2 => (mem (a, c)).mpr (.inr ⟨b, g1, g2⟩)) sub (by
        rcases grow_len ha.nodup a2.nodup sub with g | g
        · left
          refine ⟨asc_ext a2 ha fun p => ⟨g p, sub p⟩, by omega⟩
        · right; omega)
      obtain ⟨s, e1, e2⟩ := r
      refine ⟨s, ?_, e2⟩
      rw [← e1]
      simp only [oftC, Option.bind_some]
      rw [decide_eq_false e]
      rw [Option.bind_some] at es
      show Option.bind _ _ = _
      rw [es]
      rfl
end ML

-- part PR3
set_option maxHeartbeats 1000000
namespace ML
open MP MT
/-- in k + 1 steps at most -/
def Rk (l : List P2) : Nat → Int → Int → Prop
  | 0, a, b => (a, b) ∈ l
  | k + 1, a, b => Rk l k a b ∨ ∃ c, Rk l k a c ∧ (c, b) ∈ l
theorem Rk.tc {l : List P2} : ∀ {k : Nat} {a b : Int}, Rk l k a b → Tc l a b
  | 0, _, _, h => .one h
  | _ + 1, _, _, h => h.elim Rk.tc fun ⟨_, g1, g2⟩ => .more (Rk.tc g1) g2
theorem Rk.le {l : List P2} {k j : Nat} (h : k ≤ j) {a b : Int} (g : Rk l k a b) : Rk l j a b := by
  induction h with
  | refl => exact g
  | step _ ih => exact .inl ih
open Classical in
theorem tc_rk {l : List P2} (hl : InN 6 l) {a b : Int} (h : Tc l a b) : Rk l 6 a b := by
  have start : ∃ x, (a, x) ∈ l := by
    induction h with
    | one h => exact ⟨_, h⟩
    | more _ _ ih => exact ih
  let cnt (k : Nat) : Nat := ((List.range 6).filter fun (b : Nat) => decide (Rk l k a b)).length
  have c6 : ∀ k, cnt k ≤ 6 := fun k => by
    have := List.length_filter_le (fun (b : Nat) => decide (Rk l k a b)) (List.range 6)
    rwa [List.length_range] at this
  have stab : ∀ k, (∀ b, Rk l (k + 1) a b → Rk l k a b) → ∀ b, Tc l a b → Rk l k a b := fun k hs b hb => by
    induction hb with
    | one h => exact Rk.le (Nat.zero_le _) (show Rk l 0 _ _ from h)
    | more _ h ih => exact hs _ (.inr ⟨_, ih, h⟩)
  have main : ∀ k, (∃ j, j < k ∧ ∀ b, Rk l (j + 1) a b → Rk l j a b) ∨ k + 1 ≤ cnt k := fun k => by
    induction k with
    | zero =>
      right
      obtain ⟨x, hx⟩ := start
      have hp := hl _ hx
      refine List.length_pos_of_mem (a := x.toNat) (List.mem_filter.mpr ⟨List.mem_range.mpr (by have := hp.2.2.2; have := hp.2.2.1; show x.toNat < 6; dsimp only at *; omega), decide_eq_true ?_⟩)
      show (a, ((x.toNat : Nat) : Int)) ∈ l
      rw [Int.toNat_of_nonneg hp.2.2.1]; exact hx
    | succ k ih =>
      rcases ih with ⟨j, hj, h⟩ | hc
      · exact .inl ⟨j, by omega, h⟩
      · by_cases hs : ∀ b, Rk l (k + 1) a b → Rk l k a b
        · exact .inl ⟨k, Nat.lt_succ_self k, hs⟩
        · right
          rw [Classical.not_forall] at hs
          obtain ⟨y, hs⟩ := hs
          rw [Classical.not_imp] at hs
          have hp := (hs.1.tc).inP hl
          have e : ((y.toNat : Nat) : Int) = y := Int.toNat_of_nonneg hp.2.2.1
          have nd : (List.range 6).Nodup := List.nodup_range
          have := nodup_len (l := y.toNat :: (List.range 6).filter fun (b : Nat) => decide (Rk l k a b)) (m := (List.range 6).filter fun (b : Nat) => decide (Rk l (k + 1) a b))
            (List.nodup_cons.mpr ⟨fun z => hs.2 (by
              have := of_decide_eq_true (List.mem_filter.mp z).2
              rwa [e] at this), nd.filter _⟩) fun z hz => by
              rcases List.mem_cons.mp hz with q | hz
              · subst q
                refine List.mem_filter.mpr ⟨List.mem_range.mpr (by have := hp.2.2.2; have := hp.2.2.1; dsimp only at *; omega), decide_eq_true ?_⟩
                rw [e]; exact hs.1
              · obtain ⟨z1, z2⟩ := List.mem_filter.mp hz
                exact List.mem_filter.mpr ⟨z1, decide_eq_true (.inl (of_decide_eq_true z2))⟩
          rw [List.length_cons] at this
          show k + 1 + 1 ≤ cnt (k + 1)
          have h2 : k + 1 ≤ cnt k := hc
          show k + 1 + 1 ≤ ((List.range 6).filter fun (b : Nat) => decide (Rk l (k + 1) a b)).length
          have h3 : k + 1 ≤ ((List.range 6).filter fun (b : Nat) => decide (Rk l k a b)).length := h2
          omega
  rcases main 6 with ⟨j, hj, hs⟩ | hc
  · exact Rk.le (by omega) (stab j hs b h)
  · have := c6 6
    omega
/-! ### classes -/
inductive Eq2 (ps : List P2) : Int → Int → Prop
  | refl {a} : Eq2 ps a a
  | of {a b} : (a, b) ∈ ps → Eq2 ps a b
  | symm {a b} : Eq2 ps a b → Eq2 ps b a
  | trans {a b c} : Eq2 ps a b → Eq2 ps b c → Eq2 ps a c
theorem Eq2.mono {ps qs : List P2} (h : ∀ p ∈ ps, p ∈ qs) {a b : Int} (g : Eq2 ps a b) : Eq2 qs a b := by
  induction g with
  | refl => exact .refl
  | of g => exact .of (h _ g)
  | symm _ ih => exact .symm ih
  | trans _ _ i j => exact .trans i j
theorem Eq2.tc {ps qs : List P2} (hq : ∀ p : P2, p ∈ qs ↔ p ∈ ps ∨ (p.2, p.1) ∈ ps) {a b : Int} : Eq2 ps a b ↔ a = b ∨ Tc qs a b := by
  have sym : ∀ {a b : Int}, Tc qs a b → Tc qs b a := fun {a b} h => by
    induction h with
    | one h => exact .one ((hq _).mpr ((hq _).mp h).symm)
    | more _ h ih => exact Tc.trans (.one ((hq _).mpr ((hq _).mp h).symm)) ih
  constructor
  · intro h
    induction h with
    | refl => exact .inl rfl
    | of h => exact .inr (.one ((hq _).mpr (.inl h)))
    | symm _ ih => exact ih.elim (fun e => .inl e.symm) fun h => .inr (sym h)
    | trans _ _ i j =>
      rcases i with e | i
      · subst e; exact j
      · rcases j with e | j
        · subst e; exact .inr i
        · exact .inr (i.trans j)
  · rintro (e | h)
    · subst e; exact .refl
    · exact h.least (fun a b z => ((hq _).mp z).elim .of fun z => .symm (.of z)) fun _ _ _ x y => .trans x y
def val (l : List Int) (i : Int) : Option Int := l[i.toNat]?
structure Nm (n : Int) (l : List Int) (ps : List P2) : Prop where
  len : (l.length : Int) = n
  same : ∀ a b, (a, b) ∈ ps → val l a = val l b
  eqv : ∀ i j, 0 ≤ i → i < n → 0 ≤ j → j < n → val l i = val l j → Eq2 ps i j
theorem val_at {n : Int} {l : List Int} (h : (l.length : Int) = n) {i : Int} (h0 : 0 ≤ i) (h1 : i < n) : ∃ v, val l i = some v ∧ getO l i = some v := by
  have hi : i.toNat < l.length := by omega
  refine ⟨l[i.toNat], List.getElem?_eq_getElem hi, ?_⟩
  unfold getO ixN
  rw [if_pos h0, if_pos (by omega)]
  exact List.getElem?_eq_getElem hi
theorem Nm.eq_aux {n : Int} {l : List Int} {ps : List P2} (h : Nm n l ps) {i j : Int} (g : Eq2 ps i j) : val l i = val l j := by
  induction g with
  | refl => rfl
  | of g => exact h.same _ _ g
  | symm _ ih => exact ih.symm
  | trans _ _ i1 i2 => exact i1.trans i2
theorem Nm.eq {n : Int} {l : List Int} {ps : List P2} (h : Nm n l ps) {i j : Int} (h0 : 0 ≤ i) (h1 : i < n) (h2 : 0 ≤ j) (h3 : j < n) : val l i = val l j ↔ Eq2 ps i j :=
  ⟨h.eqv i j h0 h1 h2 h3, h.eq_aux⟩
/-- one pair more -/
def mg (x y : Int) (l : List Int) : List Int := l.map fun z => if z = max2I x y then min2I x y else z
theorem mg_val {x y : Int} {l : List Int} {i : Int} : val (mg x y l) i = (val l i).map fun z => if z = max2I x y then min2I x y else z := by
  unfold val mg
  rw [List.getElem?_map]
theorem mm_cases (x y : Int) : min2I x y = x ∧ max2I x y = y ∨ min2I x y = y ∧ max2I x y = x := by
  unfold min2I max2I
  by_cases h : y < x
  · rw [if_pos h]
    by_cases g : y > x
    · omega
    · rw [if_neg g]; exact .inr ⟨rfl, rfl⟩
  · rw [if_neg h]
    by_cases g : y > x
    · rw [if_pos g]; exact .inl ⟨rfl, rfl⟩
    · rw [if_neg g]
      have : x = y := by omega
      exact .inl ⟨rfl, this⟩
theorem mgf_eq {x y z w : Int} : ((if z = max2I x y then min2I x y else z) = if w = max2I x y then min2I x y else w) ↔ z = w ∨ ((z = x ∨ z = y) ∧ (w = x ∨ w = y)) := by
  rcases mm_cases x y with ⟨e1, e2⟩ | ⟨e1, e2⟩ <;> rw [e1, e2] <;> split <;> split <;> omega
theorem Nm.merge {n : Int} {l : List Int} {ps : List P2} (h : Nm n l ps) {a b x y : Int} (ha : 0 ≤ a ∧ a < n) (hb : 0 ≤ b ∧ b < n) (hx : val l a = some x) (hy : val l b = some y) : Nm n (mg x y l) (ps ++ [(a, b)]) := by
  refine ⟨by unfold mg; rw [List.length_map]; exact h.len, fun c d hcd => ?_, fun i j h0 h1 h2 h3 e => ?_⟩
  · rw [mg_val, mg_val]
    rcases List.mem_append.mp hcd with g | g
    · rw [h.same c d g]
    · cases List.mem_singleton.mp g
      rw [hx, hy]
      exact congrArg some (mgf_eq.mpr (.inr ⟨.inl rfl, .inr rfl⟩))
  · obtain ⟨v, hv, _⟩ := val_at h.len h0 h1
    obtain ⟨w, hw, _⟩ := val_at h.len h2 h3
    rw [mg_val, mg_val, hv, hw] at e
    have sub : ∀ p ∈ ps, p ∈ ps ++ [(a, b)] := fun p hp => List.mem_append_left _ hp
    have ab : Eq2 (ps ++ [(a, b)]) a b := .of (by simp)
    rcases mgf_eq.mp (Option.some.inj e) with g | ⟨g1, g2⟩
    · exact (h.eqv i j h0 h1 h2 h3 (by rw [hv, hw, g])).mono sub
    · have ia : Eq2 (ps ++ [(a, b)]) i a := by
        rcases g1 with g | g
        · exact (h.eqv i a h0 h1 ha.1 ha.2 (by rw [hv, hx, g])).mono sub
        · exact ((h.eqv i b h0 h1 hb.1 hb.2 (by rw [hv, hy, g])).mono sub).trans (.symm ab)
      have ja : Eq2 (ps ++ [(a, b)]) j a := by
        rcases g2 with g | g
        · exact (h.eqv j a h2 h3 ha.1 ha.2 (by rw [hw, hx, g])).mono sub
        · exact ((h.eqv j b h2 h3 hb.1 hb.2 (by rw [hw, hy, g])).mono sub).trans (.symm ab)
      exact ia.trans (.symm ja)
/-- the same merge, as the law has it -/
theorem mg_law {x y : Int} {l : List Int} : (l.map fun z => if z = x ∨ z = y then min2I x y else z) = mg x y l := by
  unfold mg
  refine List.map_congr_left fun z _ => ?_
  rcases mm_cases x y with ⟨e1, e2⟩ | ⟨e1, e2⟩ <;> rw [e1, e2] <;> split <;> split <;> omega
theorem mg_same {x : Int} {l : List Int} : mg x x l = l := by
  unfold mg
  conv => rhs; rw [← List.map_id l]
  refine List.map_congr_left fun z _ => ?_
  rcases mm_cases x x with ⟨e1, e2⟩ | ⟨e1, e2⟩ <;> rw [e1, e2] <;> split
  · rename_i h; exact h.symm
  · rfl
  · rename_i h; exact h.symm
  · rfl
theorem nm_start (n : Nat) : Nm n ((List.range n).map fun (k : Nat) => (k : Int)) [] := by
  refine ⟨by simp, fun a b h => (by cases h), fun i j h0 h1 h2 h3 e => ?_⟩
  have g : ∀ i : Int, 0 ≤ i → i < n → val ((List.range n).map fun (k : Nat) => (k : Int)) i = some i := fun i h0 h1 => by
    unfold val
    rw [List.getElem?_map, List.getElem?_range (by omega)]
    exact congrArg some (Int.toNat_of_nonneg h0)
  rw [g i h0 h1, g j h2 h3] at e
  cases Option.some.inj e
  exact .refl
/-! ### loops -/
theorem fold_ex {α σ : Type} {f : α → σ → Option σ} {xs : List α} (I : List α → σ → Prop) {s : σ} (h0 : I [] s) (step : ∀ done a s, (∃ rest, xs = done ++ a :: rest) → I done s → Ex (f a s) (I (done ++ [a]))) : Ex (foldO f xs s) (I xs) := by
  have main : ∀ (todo done : List α) (s : σ), xs = done ++ todo → I done s → Ex (foldO f todo s) (I xs) := fun todo => by
    induction todo with
    | nil =>
      intro done s e h
      rw [List.append_nil] at e
      subst e
      exact .some h
    | cons a todo ih =>
      intro done s e h
      unfold foldO
      exact Ex.bind (step done a s ⟨todo, e⟩ h) fun s' h' => ih (done ++ [a]) s' (by rw [e]; simp) h'
  exact main xs [] s rfl h0
theorem comp_ex {α β : Type} {g : α → Option β} {xs : List α} (f : α → β) (h : ∀ a ∈ xs, g a = some (f a)) : compO (fun _ => some true) g xs = some (xs.map f) := by
  induction xs with
  | nil => rfl
  | cons a xs ih =>
    unfold compO
    rw [Option.bind_some, cond_true, h a List.mem_cons_self, Option.bind_some, ih fun b hb => h b (List.mem_cons_of_mem _ hb)]
    rfl
theorem comp_exf {α β : Type} {p : α → Option Bool} {g : α → Option β} {xs : List α} (q : α → Bool) (f : α → β) (hp : ∀ a ∈ xs, p a = some (q a)) (h : ∀ a ∈ xs, g a = some (f a)) : compO p g xs = some ((xs.filter q).map f) := by
  induction xs with
  | nil => rfl
  | cons a xs ih =>
    unfold compO
    rw [hp a List.mem_cons_self, Option.bind_some]
    have ih' := ih (fun b hb => hp b (List.mem_cons_of_mem _ hb)) fun b hb => h b (List.mem_cons_of_mem _ hb)
    cases hq : q a with
    | true =>
      rw [cond_true, h a List.mem_cons_self, Option.bind_some, ih', List.filter_cons, if_pos hq]
      rfl
    | false =>
      rw [cond_false, ih', List.filter_cons, if_neg (by rw [hq]; exact Bool.false_ne_true)]
theorem rng_ok {n : Nat} (h : n ≤ 1048576) : rng1O n = some ((List.range n).map fun (k : Nat) => (k : Int)) := by
  unfold rng1O
  rw [if_pos (by omega), Int.toNat_natCast]
theorem lrng_ok {n : Nat} (h : n ≤ 1048576) : lrngO n = some ((List.range n).map fun (k : Nat) => (k : Int)) := by
  unfold lrngO
  rw [if_pos (by omega), Int.toNat_natCast]
end ML

-- part P04a
set_option maxHeartbeats 1000000
namespace ML
open MP MT
section
variable {a b c d e x : D}
@[simp] theorem g50 : getO [a, b, c, d, e] 0 = some a := rfl
@[simp] theorem g51 : getO [a, b, c, d, e] 1 = some b := rfl
@[simp] theorem g52 : getO [a, b, c, d, e] 2 = some c := rfl
@[simp] theorem g53 : getO [a, b, c, d, e] 3 = some d := rfl
@[simp] theorem g54 : getO [a, b, c, d, e] 4 = some e := rfl
@[simp] theorem s51 : setO [a, b, c, d, e] 1 x = some [a, x, c, d, e] := rfl
@[simp] theorem s52 : setO [a, b, c, d, e] 2 x = some [a, b, x, d, e] := rfl
@[simp] theorem s53 : setO [a, b, c, d, e] 3 x = some [a, b, c, x, e] := rfl
@[simp] theorem s54 : setO [a, b, c, d, e] 4 x = some [a, b, c, d, x] := rfl
end
@[simp] theorem t_eqI (i j : Int) : cmpOp .eq (.int i) (.int j) = some (decide (i = j)) := by
  show (if eqOk (.int i) (.int j) then some (i == j) else none) = _
  rw [if_pos (by rfl)]
  rfl
@[simp] theorem t_lt (i j : Int) : cmpOp .lt (.int i) (.int j) = some (decide (i < j)) := rfl
@[simp] theorem t_gt (i j : Int) : cmpOp .gt (.int i) (.int j) = some (decide (j < i)) := rfl
@[simp] theorem t_ge (i j : Int) : cmpOp .ge (.int i) (.int j) = some (decide (j ≤ i)) := rfl
@[simp] theorem t_len (l : List D) : lenD (.lst l) = some (l.length : Int) := rfl
@[simp] theorem t_add (i j : Int) : binI .add (.int i) (.int j) = some (i + j) := rfl
@[simp] theorem t_int (i : Int) : biI .int (.int i) = some i := rfl
theorem mul_l {i j : Int} (h : -18446744073709551616 < i ∧ i < 18446744073709551616) : mulO i j = some (i * j) := by
  unfold mulO mulOk
  rw [if_pos]
  simp [h.1, h.2]
theorem mul_r {i j : Int} (h : -18446744073709551616 < j ∧ j < 18446744073709551616) : mulO i j = some (i * j) := by
  unfold mulO mulOk
  rw [if_pos]
  simp [h.1, h.2]
@[simp] theorem t_mul (i j : Int) : binI .mul (.int i) (.int j) = mulO i j := by
  unfold binI mulO
  show (match (if mulOk i j then some (W.val (.int (i * j))) else none) with | some (.val (.int i)) => some i | _ => none) = _
  split <;> split at * <;> simp_all
theorem t_fdiv {i j : Int} (h : 0 < j ∧ j < 1073741824) : binI .fdiv (.int i) (.int j) = some (i / j) := by
  unfold binI
  show (match (if 0 < j ∧ j < 1073741824 then some (W.val (.int (i / j))) else none) with | some (.val (.int i)) => some i | _ => none) = _
  rw [if_pos h]
theorem t_mod {i j : Int} (h : 0 < j) : modO i j = some (i % j) := if_pos h
@[simp] theorem t_pow18 : powO 10 18 = some 1000000000000000000 := rfl
/-! ### the drawing hand -/
def handL (cs : List Int) (p d m c : Int) : List D := [.lst (cs.map .int), .int p, .int d, .int m, .int c]
def HandOk (xs : List D) : Prop := ∃ cs p d m c, xs = handL cs p d m c ∧ 0 ≤ p
theorem big_of {i k : Int} (hk : 0 < k) (h : k ≤ 2147483647) : -18446744073709551616 < i % k ∧ i % k < 18446744073709551616 := by
  have := Int.emod_nonneg i (show k ≠ 0 by omega)
  have := Int.emod_lt_of_pos i hk
  omega
theorem draw_ok {xs : List D} {k : Int} (hx : HandOk xs) (hk : 0 < k) (hk2 : k < 1073741824) : Ex (t__law_draw xs k) fun v => HandOk v.2 ∧ 0 ≤ v.1 ∧ v.1 < k := by
  obtain ⟨cs, p, d, m, c, rfl, hp⟩ := hx
  unfold t__law_draw
  refine Ex.bind (Q := fun ys => ∃ p d m, ys = handL cs p d m c ∧ 0 ≤ p) ?_ ?_
  · by_cases hd : d = 0
    · by_cases hp2 : p < cs.length
      · have s0 : subOp (.lst (cs.map .int)) (.int p) = some (.int cs[p.toNat]) := by
          have := sub_l (xs := cs.map .int) (k := p.toNat) (d := .int cs[p.toNat]) (by rw [List.getElem?_map, List.getElem?_eq_getElem (by omega)]; rfl)
          rwa [Int.toNat_of_nonneg hp] at this
        refine ⟨handL cs (p + 1) (if 1000000000000000000 ≤ cs[p.toNat] then cs[p.toNat] else 0) ((m * 48271 + cs[p.toNat] * 5 + 29) % 2147483587) c, ?_, _, _, _, rfl, by omega⟩
        by_cases hc : 1000000000000000000 ≤ cs[p.toNat]
        · simp [hd, hp2, handL, s0, mul_r (j := 48271) (by decide), mul_r (j := 5) (by decide), hc]
        · simp [hd, hp2, handL, s0, mul_r (j := 48271) (by decide), mul_r (j := 5) (by decide), hc]
      · exact ⟨handL cs p d m c, by simp [hd, hp2, handL], _, _, _, rfl, hp⟩
    · exact ⟨handL cs p d m c, by simp [hd, handL], _, _, _, rfl, hp⟩
  · rintro _ ⟨p, d, m, rfl, hp⟩
    by_cases hd : 0 < d
    · refine ⟨(d % k, handL cs p (d / k) m c), ?_, ⟨cs, p, _, m, c, rfl, hp⟩, Int.emod_nonneg _ (by omega), Int.emod_lt_of_pos _ hk⟩
      simp [hd, t_mod hk, t_fdiv ⟨hk, hk2⟩, handL]
    · have b1 := fun i : Int => mul_l (j := (i % 2147483647) / 1103 + 40692) (big_of (i := i) (k := 2147483647) (by decide) (by decide))
      have b2 := fun i : Int => mul_l (j := (i % 2147483399) / 2311 + 48271) (big_of (i := i) (k := 2147483399) (by decide) (by decide))
      simp [hd, handL, t_mod hk, mul_l (i := 7877) (j := c + 1) (by decide), mul_r (j := 69621) (by decide), b1, b2]
      exact ⟨_, rfl, ⟨cs, p, d, m, c + 1, rfl, hp⟩, Int.emod_nonneg _ (by omega), Int.emod_lt_of_pos _ hk⟩
theorem hand_ok (ns : List Int) : Ex (t__law_hand ns) HandOk := by
  unfold t__law_hand
  simp [mul_l (i := 5) (by decide)]
  exact ⟨_, rfl, _, 0, 0, _, 0, rfl, by decide⟩
end ML

-- part P04b
set_option maxHeartbeats 1000000
namespace ML
open MP MT
theorem within_ok (i lo hi : Int) : t_is_within i lo hi = some (decide (lo ≤ i) && decide (i ≤ hi)) := by
  unfold t_is_within t_is_integer
  simp
theorem tuple_ok (p : P2) : t_is_tuple p 2 2 = some true := rfl
theorem size_ok {n : Int} (h1 : 1 ≤ n) (h6 : n ≤ 6) : t_check_size n = some () := by
  unfold t_check_size t_is_size
  rw [within_ok, decide_eq_true h1, decide_eq_true h6]
  rfl
theorem all_true {α : Type} {l : List α} {f : α → Bool} (h : ∀ a ∈ l, f a = true) : (l.map f).all id = true := by
  rw [List.all_eq_true]
  intro b hb
  obtain ⟨a, ha, rfl⟩ := List.mem_map.mp hb
  exact h a ha
theorem zip_asc : ∀ {l : List P2}, Asc l → ∀ p ∈ List.zip l (l.drop 1), ltP p.1 p.2 = true
  | [], _, p, hp => by cases hp
  | [_], _, p, hp => by cases hp
  | a :: b :: l, h, p, hp => by
    have hp : p ∈ (a, b) :: List.zip (b :: l) l := hp
    rcases List.mem_cons.mp hp with e | hp
    · subst e
      exact List.rel_of_pairwise_cons h List.mem_cons_self
    · exact zip_asc (l := b :: l) (List.pairwise_cons.mp h).2 p hp
theorem cut1 {α : Type} (l : List α) : cut l (some 1) none = l.drop 1 := cut_one
theorem filt {α : Type} (l : List α) : List.filter (fun (_ : α) => true) l = l := List.filter_eq_self.mpr fun _ _ => rfl
theorem pairs_ok {n m : Int} {l : List P2} (ha : Asc l) (hi : InN m l) (hmn : m ≤ n) : t_are_pairs n l = some true := by
  have c1 : compO (fun _ => some true) (fun (a10 : P2) => t_is_tuple a10 2 2) l = some (l.map fun _ => true) := comp_ex _ fun a _ => tuple_ok a
  have c2 : compO (fun _ => some true) (fun (a20 : P2) => (Option.bind (compO (fun (a21 : Int) => some true) (fun (a21 : Int) => t_is_within a21 0 (n - 1)) [a20.1, a20.2]) fun (c26 : List Bool) => some (List.all c26 id))) l = some (l.map fun _ => true) := comp_ex _ fun a ha => by
    have h := hi a ha
    rw [comp_ex (fun i => decide (0 ≤ i) && decide (i ≤ n - 1)) fun i _ => within_ok i 0 (n - 1), Option.bind_some]
    refine congrArg some (all_true fun i hi => ?_)
    unfold InP at h
    rw [Bool.and_eq_true, decide_eq_true_eq, decide_eq_true_eq]
    simp at hi
    omega
  have c3 : (List.map (fun (a34 : ((Int × Int) × (Int × Int))) => (ltP a34.1 a34.2)) (List.filter (fun (a34 : ((Int × Int) × (Int × Int))) => true) (List.zip l (cut l (some 1) none)))).all id = true := all_true fun p hp => by
    rw [cut1] at hp
    exact zip_asc ha p (List.mem_filter.mp hp).1
  unfold t_are_pairs
  simp only [Option.bind_some, Bool.not_true, cond_false, c1, c2, c3, all_true (l := l) (f := fun _ => true) fun _ _ => rfl]
theorem any_ok {l : List P2} (ha : Asc l) (hi : InN 6 l) : t_check_any l = some () := by
  unfold t_check_any
  rw [pairs_ok ha hi (Int.le_refl _)]
  rfl
theorem sized_ok {n : Int} {l : List P2} (h1 : 1 ≤ n) (h6 : n ≤ 6) (ha : Asc l) (hi : InN n l) : t_check_sized n l = some () := by
  unfold t_check_sized
  rw [size_ok h1 h6, pairs_ok ha hi (Int.le_refl _)]
  rfl
theorem InN.six {n : Int} {l : List P2} (h : InN n l) (h6 : n ≤ 6) : InN 6 l := fun p hp => by
  have := h p hp
  unfold InP at this ⊢
  omega
theorem turned_ok {l : List P2} (ha : Asc l) (hi : InN 6 l) : Ex (t_turned l) fun c => Asc c ∧ ∀ p : P2, p ∈ c ↔ (p.2, p.1) ∈ l := by
  unfold t_turned
  rw [any_ok ha hi, Option.bind_some, filt]
  refine Ex.bind (Ex.bind (sort_ok ?_) fun c hc => .some hc) fun c hc => .some ⟨hc.1, fun p => ?_⟩
  · exact List.pairwise_map.mpr (ha.nodup.imp fun {a b} h e => h (by injection e with e1 e2; exact Prod.ext e2 e1))
  · rw [hc.2]
    constructor
    · intro h
      obtain ⟨q, hq, rfl⟩ := List.mem_map.mp h
      exact hq
    · exact fun h => List.mem_map.mpr ⟨_, h, rfl⟩
/-- one behind the other -/
def IsFol (l m c : List P2) : Prop := Asc c ∧ ∀ p : P2, p ∈ c ↔ ∃ b, (p.1, b) ∈ l ∧ (b, p.2) ∈ m
theorem followed_ok {l m : List P2} (ha : Asc l) (hi : InN 6 l) (hb : Asc m) (hj : InN 6 m) : Ex (t_followed l m) (IsFol l m) := by
  unfold t_followed
  rw [any_ok ha hi, any_ok hb hj, Option.bind_some, Option.bind_some]
  exact Ex.bind (Ex.bind (fol_ok rfl rfl ha.nodup hb.nodup hi hj) fun c hc => .some hc) fun c hc => .some hc
theorem often_of_ok {l : List P2} (hi : InN 6 l) : Ex (t_often_of l) (IsTc l) := by
  unfold t_often_of
  refine Ex.bind (set_ok hi) fun c hc => Ex.bind (Q := fun s => IsTc l s.1) ?_ fun s hs => .some hs
  have hi' : InN 6 c := fun p hp => hi p ((hc.2 p).mp hp)
  refine oft_loop (l := l) (F := t_followed_of) rfl WN c [] hc.1 hi' (fun p hp => (hc.2 p).mpr hp) (fun p hp => .one ((hc.2 p).mp hp)) (fun _ _ _ z => by cases z) (fun _ z => by cases z) (.inr (by have : (38 : Nat) ≤ WN := by decide
                                                                                                                                                                                                     omega))
theorem often_ok {l : List P2} (ha : Asc l) (hi : InN 6 l) : Ex (t_often l) (IsTc l) := by
  unfold t_often
  rw [any_ok ha hi, Option.bind_some]
  exact Ex.bind (Ex.bind (often_of_ok hi) fun c hc => .some hc) fun c hc => .some hc
theorem IsTc.inN {l c : List P2} {n : Int} (h : IsTc l c) (hi : InN n l) : InN n c := fun p hp => ((h.2 p).mp hp).inP hi
/-- with each to itself -/
def IsSelf (n : Int) (l c : List P2) : Prop := Asc c ∧ ∀ p : P2, p ∈ c ↔ p ∈ l ∨ (p.1 = p.2 ∧ 0 ≤ p.1 ∧ p.1 < n)
theorem selves_mem {n : Nat} {p : P2} : p ∈ ((List.range n).map fun (k : Nat) => (k : Int)).map (fun a => (a, a)) ↔ p.1 = p.2 ∧ 0 ≤ p.1 ∧ p.1 < n := by
  constructor
  · intro h
    obtain ⟨a, ha, rfl⟩ := List.mem_map.mp h
    obtain ⟨k, hk, rfl⟩ := List.mem_map.mp ha
    rw [List.mem_range] at hk
    exact ⟨rfl, by omega, by dsimp only; omega⟩
  · rintro ⟨h1, h2, h3⟩
    exact List.mem_map.mpr ⟨p.1, List.mem_map.mpr ⟨p.1.toNat, List.mem_range.mpr (by omega), Int.toNat_of_nonneg h2⟩, Prod.ext rfl h1⟩
theorem selves_ok {n : Nat} {l : List P2} (h6 : n ≤ 6) (ha : Asc l) (hi : InN n l) : Ex (t_with_selves n l) (IsSelf n l) := by
  have six : InN 6 l := hi.six (by omega)
  unfold t_with_selves
  rw [rng_ok (by omega), Option.bind_some, comp_ex (fun a => (a, a)) fun _ _ => rfl, Option.bind_some]
  refine Ex.bind (Q := IsSelf n l) (Ex.bind (Q := fun c => ∀ p : P2, p ∈ c ↔ p ∈ l ∨ (p.1 = p.2 ∧ 0 ≤ p.1 ∧ p.1 < n)) ?_ fun c hc => ?_) fun c hc => .some hc
  · refine ⟨_, if_pos ?_, fun p => ?_⟩
    · have := len36 ha.nodup six
      have : (36 + 6 : Nat) ≤ LIM := by decide
      simp
      omega
    · rw [List.mem_append, selves_mem]
  · refine (set_ok fun p hp => ?_).imp fun d hd => ⟨hd.1, fun p => (hd.2 p).trans (hc p)⟩
    rcases (hc p).mp hp with g | g
    · exact six p g
    · unfold InP; omega
theorem ooN_ok {n : Nat} {l : List P2} (h1 : 1 ≤ n) (h6 : n ≤ 6) (ha : Asc l) (hi : InN n l) : Ex (t_often_or_none n l) fun c => ∃ t, IsTc l t ∧ IsSelf n t c := by
  unfold t_often_or_none
  rw [sized_ok (by omega) (by omega) ha hi, Option.bind_some]
  exact Ex.bind (Q := fun c => ∃ t, IsTc l t ∧ IsSelf n t c) (Ex.bind (Ex.bind (often_of_ok (hi.six (by omega))) fun t ht => (selves_ok h6 ht.1 (ht.inN hi)).imp fun c hc => ⟨t, ht, hc⟩) fun c hc => .some hc) fun c hc => .some hc
end ML

-- part P04c
set_option maxHeartbeats 1000000
namespace ML
open MP MT
theorem lim36 : 2000 ≤ LIM := by decide
theorem lfol_ok {l m : List P2} (ha : Asc l) (hi : InN 6 l) (hb : Asc m) (hj : InN 6 m) : Ex (t__law_followed l m) (IsFol l m) := by
  have n1 := len36 ha.nodup hi
  have n2 := len36 hb.nodup hj
  have := lim36
  unfold t__law_followed
  rw [Option.bind_some, Option.bind_some]
  refine Ex.bind (fold_ex (fun done s => (∀ p : P2, p ∈ s ↔ ∃ b, (p.1, b) ∈ done ∧ (b, p.2) ∈ m) ∧ s.length ≤ done.length * 36) ⟨fun p => by simp, by simp⟩ ?_) ?_
  · rintro done a s ⟨rest, e⟩ ⟨h1, h2⟩
    rw [Option.bind_some]
    have hlen : done.length + 1 ≤ l.length := by rw [e]; simp
    have hrow : (List.map (fun (a235 : P2) => (a.1, a235.2)) (List.filter (fun (a235 : P2) => (decide (a.2 = a235.1))) m)).length ≤ 36 := by
      rw [List.length_map]
      exact Nat.le_trans (List.length_filter_le _ _) n2
    refine Ex.bind (Q := fun v => v.1 = s ++ List.map (fun (a235 : P2) => (a.1, a235.2)) (List.filter (fun (a235 : P2) => (decide (a.2 = a235.1))) m)) (Ex.bind ⟨_, if_pos (by
      have h3 : done.length * 36 ≤ 36 * 36 := Nat.mul_le_mul_right _ (by omega)
      exact Nat.le_trans (Nat.add_le_add (Nat.le_trans h2 h3) hrow) (by omega)), rfl⟩ fun c hc => .some hc.symm) fun v hv => .some ?_
    rw [hv]
    refine ⟨fun p => ?_, by rw [List.length_append, List.length_append]; simp only [List.length_cons, List.length_nil]; omega⟩
    rw [List.mem_append, h1]
    constructor
    · rintro (⟨b, g1, g2⟩ | h)
      · exact ⟨b, by simp [g1], g2⟩
      · obtain ⟨q, hq, rfl⟩ := List.mem_map.mp h
        obtain ⟨q1, q2⟩ := List.mem_filter.mp hq
        have q2 := of_decide_eq_true q2
        refine ⟨a.2, by simp, ?_⟩
        rw [q2]; exact q1
    · rintro ⟨b, g1, g2⟩
      rcases List.mem_append.mp g1 with g | g
      · exact .inl ⟨b, g, g2⟩
      · have g := List.mem_singleton.mp g
        right
        refine List.mem_map.mpr ⟨(b, p.2), List.mem_filter.mpr ⟨g2, decide_eq_true ?_⟩, ?_⟩
        · rw [← g]
        · rw [← g]
  · rintro s ⟨h1, _⟩
    refine Ex.bind (Ex.bind (set_ok fun p hp => ?_) fun c hc => .some hc) fun c hc => .some ⟨hc.1, fun p => (hc.2 p).trans (h1 p)⟩
    obtain ⟨b, g1, g2⟩ := (h1 p).mp hp
    have i1 := hi _ g1
    have i2 := hj _ g2
    exact ⟨i1.1, i1.2.1, i2.2.2.1, i2.2.2.2⟩
theorem loft_ok {l : List P2} (ha : Asc l) (hi : InN 6 l) : Ex (t__law_often l) (IsTc l) := by
  unfold t__law_often
  rw [Option.bind_some, show (6 : Int) = ((6 : Nat) : Int) from rfl, rng_ok (by decide), Option.bind_some]
  have := lim36
  refine Ex.bind (Q := fun c => IsTc l c) ?_ fun c hc => .some hc
  refine (fold_ex (fun done s => Asc s ∧ ∀ p : P2, p ∈ s ↔ Rk l done.length p.1 p.2) ⟨ha, fun p => Iff.rfl⟩ ?_).imp ?_
  · rintro done a s _ ⟨h1, h2⟩
    have hs : InN 6 s := fun p hp => (((h2 p).mp hp).tc).inP hi
    have n1 := len36 h1.nodup hs
    have fin : ∀ d, (Asc d ∧ ∀ p : P2, p ∈ d ↔ p ∈ s ∨ ∃ b, (p.1, b) ∈ s ∧ (b, p.2) ∈ l) → Asc d ∧ ∀ p : P2, p ∈ d ↔ Rk l (done ++ [a]).length p.1 p.2 := fun d hd => ⟨hd.1, fun p => by
      rw [hd.2, List.length_append, List.length_singleton, h2]
      show _ ↔ Rk l done.length p.1 p.2 ∨ ∃ c, Rk l done.length p.1 c ∧ (c, p.2) ∈ l
      refine or_congr Iff.rfl ⟨fun ⟨b, g1, g2⟩ => ⟨b, (h2 (p.1, b)).mp g1, g2⟩, fun ⟨b, g1, g2⟩ => ⟨b, (h2 (p.1, b)).mpr g1, g2⟩⟩⟩
    refine Ex.bind (Ex.bind (Ex.bind (Q := fun c => ∀ p : P2, p ∈ c ↔ p ∈ s ∨ ∃ b, (p.1, b) ∈ s ∧ (b, p.2) ∈ l) (Ex.bind (lfol_ok h1 hs ha hi) fun c hc => ?_) fun c hc => ?_) fun c hc => .some hc) fun c hc => .some (fin c hc)
    · have hci : InN 6 c := fun p hp => by
        obtain ⟨b, g1, g2⟩ := (hc.2 p).mp hp
        exact ⟨(hs _ g1).1, (hs _ g1).2.1, (hi _ g2).2.2.1, (hi _ g2).2.2.2⟩
      have := len36 hc.1.nodup hci
      refine ⟨s ++ c, if_pos (by omega), fun p => ?_⟩
      rw [List.mem_append, hc.2]
    · refine (set_ok fun p hp => ?_).imp fun d hd => ⟨hd.1, fun p => (hd.2 p).trans (hc p)⟩
      rcases (hc p).mp hp with g | ⟨b, g1, g2⟩
      · exact hs p g
      · exact ⟨(hs _ g1).1, (hs _ g1).2.1, (hi _ g2).2.2.1, (hi _ g2).2.2.2⟩
  · rintro c ⟨h1, h2⟩
    refine ⟨h1, fun p => (h2 p).trans ⟨Rk.tc, fun h => ?_⟩⟩
    have e : ((List.range 6).map fun (k : Nat) => (k : Int)).length = 6 := by simp
    rw [e]
    exact tc_rk hi h
/-! ### classes -/
def stM (s : List Int) (p : P2) : List Int := mg ((val s p.1).getD 0) ((val s p.2).getD 0) s
theorem fold_eq {α σ : Type} {f : α → σ → Option σ} {g : σ → α → σ} (J : σ → Prop) : ∀ (xs : List α) (s : σ), J s → (∀ a ∈ xs, ∀ s, J s → f a s = some (g s a) ∧ J (g s a)) → foldO f xs s = some (xs.foldl g s) ∧ J (xs.foldl g s)
  | [], s, h, _ => ⟨rfl, h⟩
  | a :: xs, s, h, hf => by
    obtain ⟨h1, h2⟩ := hf a List.mem_cons_self s h
    obtain ⟨h3, h4⟩ := fold_eq (g := g) J xs (g s a) h2 fun b hb => hf b (List.mem_cons_of_mem _ hb)
    unfold foldO
    rw [h1, Option.bind_some]
    exact ⟨h3, h4⟩
theorem nm_fold {n : Int} : ∀ (l ps : List P2) (s : List Int), InN n l → Nm n s ps → Nm n (l.foldl stM s) (ps ++ l)
  | [], ps, s, _, h => by rw [List.append_nil]; exact h
  | p :: l, ps, s, hi, h => by
    have hp := hi p List.mem_cons_self
    obtain ⟨x, hx, _⟩ := val_at h.len hp.1 hp.2.1
    obtain ⟨y, hy, _⟩ := val_at h.len hp.2.2.1 hp.2.2.2
    have h2 : Nm n (stM s p) (ps ++ [p]) := by
      unfold stM
      rw [hx, hy]
      exact h.merge ⟨hp.1, hp.2.1⟩ ⟨hp.2.2.1, hp.2.2.2⟩ hx hy
    have := nm_fold l (ps ++ [p]) (stM s p) (fun q hq => hi q (List.mem_cons_of_mem _ hq)) h2
    rwa [List.append_assoc] at this
theorem fix_fold : ∀ (l : List P2) (s : List Int), (∀ p ∈ l, val s p.1 = val s p.2) → l.foldl stM s = s
  | [], s, _ => rfl
  | p :: l, s, h => by
    have e : stM s p = s := by
      unfold stM
      rw [h p List.mem_cons_self, mg_same]
    rw [List.foldl_cons, e]
    exact fix_fold l s fun q hq => h q (List.mem_cons_of_mem _ hq)
theorem len_st {n : Int} {s : List Int} {p : P2} (h : (s.length : Int) = n) : ((stM s p).length : Int) = n := by
  unfold stM mg
  rw [List.length_map]; exact h
def lot (n : Nat) (s : List Int) (m : Int) : List Int := ((List.range n).map fun (k : Nat) => (k : Int)).filter fun a => decide (val s a = some m)
theorem lot_mem {n : Nat} {s : List Int} {m a : Int} : a ∈ lot n s m ↔ (0 ≤ a ∧ a < n) ∧ val s a = some m := by
  unfold lot
  rw [List.mem_filter, decide_eq_true_eq]
  refine and_congr ⟨fun h => ?_, fun h => ?_⟩ Iff.rfl
  · obtain ⟨k, hk, rfl⟩ := List.mem_map.mp h
    rw [List.mem_range] at hk
    exact ⟨by omega, by omega⟩
  · exact List.mem_map.mpr ⟨a.toNat, List.mem_range.mpr (by omega), Int.toNat_of_nonneg h.1⟩
theorem lot_comp {n : Nat} {s : List Int} (hs : (s.length : Int) = n) (m : Int) : compO (fun (a98 : Int) => (Option.bind (getO s a98) fun (c99 : Int) => some (decide (c99 = m)))) (fun (a98 : Int) => some a98) ((List.range n).map fun (k : Nat) => (k : Int)) = some (lot n s m) := by
  rw [comp_exf (fun a => decide (val s a = some m)) (fun a => a) (fun a ha => ?_) fun a _ => rfl, List.map_id']
  · rfl
  · obtain ⟨k, hk, rfl⟩ := List.mem_map.mp ha
    rw [List.mem_range] at hk
    obtain ⟨v, h1, h2⟩ := val_at hs (i := (k : Int)) (by omega) (by omega)
    rw [h2, h1, Option.bind_some]
    refine congrArg some ?_
    by_cases e : v = m
    · rw [e]; simp
    · simp [e]
/-- the names behind the pairs -/
def nms (n : Nat) (l : List P2) : List Int := l.foldl stM ((List.range n).map fun (k : Nat) => (k : Int))
theorem nms_ok {n : Nat} {l : List P2} (hi : InN n l) : Nm n (nms n l) l := by
  have := nm_fold l [] _ hi (nm_start n)
  rwa [List.nil_append] at this
def lotsOf (n : Nat) (l : List P2) : List (List Int) := ((sortU (nms n l)).map (lot n (nms n l))).mergeSort (leE (eT eI))
theorem sort_lots {n : Nat} {s : List Int} (hs : (s.length : Int) = n) : sortO (eT eI) ((sortU s).map (lot n s)) = some (((sortU s).map (lot n s)).mergeSort (leE (eT eI))) := by
  refine sortO_rows (to := id) (fun _ => rfl) fun k hk => ?_
  obtain ⟨m, hm, rfl⟩ := List.mem_map.mp hk
  obtain ⟨i, hi⟩ := List.getElem?_of_mem ((sortU_mem _ _).mp hm)
  have hlt := (List.getElem?_eq_some_iff.mp hi).1
  have : (i : Int) ∈ lot n s m := lot_mem.mpr ⟨⟨by omega, by omega⟩, hi⟩
  intro z
  have z : lot n s m = [] := z
  rw [z] at this; cases this
theorem setI_ok {n : Nat} {s : List Int} (h6 : n ≤ 6) (hs : (s.length : Int) = n) : sortsetI s = some (sortU s) := by
  have := nodup_len (l := sortU s) (m := s) ((sortU_asc s).imp fun h => by omega) fun x hx => (sortU_mem _ _).mp hx
  exact if_pos ⟨by omega, by omega⟩
theorem lots_by_ok {n : Nat} {l : List P2} (h6 : n ≤ 6) (hi : InN n l) : t_lots_by n l = some (lotsOf n l) := by
  have hn := nms_ok hi
  unfold t_lots_by
  rw [lrng_ok (by omega), Option.bind_some, Option.bind_some]
  have f1 := fold_eq (g := stM) (fun s => (s.length : Int) = n) (f := fun (a78 : (Int × Int)) (s77 : (List Int)) => (Option.bind ((Option.bind ((Option.bind ((Option.bind (getO s77 a78.1) fun (c79 : Int) => Option.bind (getO s77 a78.2) fun (c80 : Int) => some (c79, c80))) fun (p81 : (Int) × Int) => some (min2I p81.1 p81.2))) fun (c82 : Int) => Option.bind ((Option.bind ((Option.bind (getO s77 a78.1) fun (c83 : Int) => Option.bind (getO s77 a78.2) fun (c84 : Int) => some (c83, c84))) fun (p85 : (Int) × Int) => some (max2I p85.1 p85.2))) fun (c86 : Int) => some (c82, c86))) fun (p87 : (Int) × Int) => (Option.bind (some (List.map (fun (a88 : Int) => (bif (decide (a88 = p87.2)) then p87.1 else a88)) (List.filter (fun (a88 : Int) => true) s77))) fun (u90 : (List Int)) => some u90))) l ((List.range n).map fun (k : Nat) => (k : Int)) (by simp) fun p hp s hs => by
    have hq := hi p hp
    obtain ⟨x, x1, x2⟩ := val_at hs hq.1 hq.2.1
    obtain ⟨y, y1, y2⟩ := val_at hs hq.2.2.1 hq.2.2.2
    refine ⟨?_, len_st hs⟩
    simp only [x2, y2, Option.bind_some, filt]
    unfold stM mg
    rw [x1, y1]
    refine congrArg some (List.map_congr_left fun z _ => ?_)
    show (bif decide (z = max2I x y) then min2I x y else z) = if z = max2I x y then min2I x y else z
    by_cases g : z = max2I x y
    · rw [decide_eq_true g, if_pos g]; rfl
    · rw [decide_eq_false g, if_neg g]; rfl
  rw [f1.1, Option.bind_some]
  have hlen : ((nms n l).length : Int) = n := hn.len
  rw [show l.foldl stM ((List.range n).map fun (k : Nat) => (k : Int)) = nms n l from rfl]
  rw [setI_ok h6 hlen, Option.bind_some, Option.bind_some]
  have hz : (sortU (nms n l)).length ≤ 6 := by
    have := nodup_len (l := sortU (nms n l)) (m := nms n l) ((sortU_asc _).imp fun h => by omega) fun x hx => (sortU_mem _ _).mp hx
    omega
  have := lim36
  obtain ⟨s, e1, e2⟩ := fold_ex (xs := sortU (nms n l)) (f := fun (a96 : Int) (s95 : (List (List Int))) => (Option.bind ((Option.bind ((Option.bind ((Option.bind (rng1O n) fun (l97 : List Int) => compO (fun (a98 : Int) => (Option.bind (getO (nms n l) a98) fun (c99 : Int) => some (decide (c99 = a96)))) (fun (a98 : Int) => some a98) l97)) fun (c102 : List Int) => some c102)) fun (c103 : (List Int)) => Option.bind (appO s95 c103) fun c => some (c, c103))) fun (p104 : (List (List Int)) × (List Int)) => some p104.1)) (fun done s => s = done.map (lot n (nms n l))) (s := []) rfl fun done a s ⟨rest, e⟩ hs => by
    rw [rng_ok (by omega), Option.bind_some, lot_comp hlen, Option.bind_some, Option.bind_some]
    have : done.length < LIM := by
      have := congrArg List.length e
      rw [List.length_append, List.length_cons] at this
      omega
    refine Ex.bind (Q := fun v => v.1 = s ++ [lot n (nms n l) a]) (Ex.bind ⟨_, if_pos (by rw [hs, List.length_map]; exact this), rfl⟩ fun c hc => .some hc.symm) fun v hv => .some ?_
    rw [hv, hs, List.map_append]; rfl
  rw [Option.bind_some, e1, Option.bind_some, e2, sort_lots hlen]
  rfl
theorem alike_ok {n : Nat} {l : List P2} (h1 : 1 ≤ n) (h6 : n ≤ 6) (ha : Asc l) (hi : InN n l) : t_alike_by n l = some (lotsOf n l) := by
  unfold t_alike_by
  rw [sized_ok (by omega) (by omega) ha hi, lots_by_ok h6 hi]
  rfl
theorem llots_ok {n : Nat} {l : List P2} (h1 : 1 ≤ n) (h6 : n ≤ 6) (hi : InN n l) : t__law_lots n l = some (lotsOf n l) := by
  have hn := nms_ok hi
  unfold t__law_lots
  rw [lrng_ok (by omega), Option.bind_some, rng_ok (by omega), Option.bind_some]
  have inner : ∀ s : List Int, (s.length : Int) = n → foldO (fun (a256 : (Int × Int)) (s255 : (List Int)) => (Option.bind ((Option.bind ((Option.bind (getO s255 a256.1) fun (c257 : Int) => Option.bind (getO s255 a256.2) fun (c258 : Int) => some (c257, c258))) fun (p259 : (Int) × Int) => some (min2I p259.1 p259.2))) fun (c260 : Int) => (Option.bind ((Option.bind (some s255) fun (l269 : List Int) => compO (fun (a261 : Int) => some true) (fun (a261 : Int) => (Option.bind ((Option.bind ((Option.bind (getO s255 a256.1) fun (c262 : Int) => Option.bind (getO s255 a256.2) fun (c263 : Int) => some (c262, c263))) fun (p264 : (Int) × Int) => some (inB a261 [(p264.1, p264.2).1, (p264.1, p264.2).2]))) fun (c265 : Bool) => bif c265 then some c260 else some a261)) l269)) fun (c271 : List Int) => some c271))) l s = some (l.foldl stM s) ∧ ((l.foldl stM s).length : Int) = n := fun s hs => fold_eq (g := stM) (fun s => (s.length : Int) = n) l s hs fun p hp s hs => by
    have hq := hi p hp
    obtain ⟨x, x1, x2⟩ := val_at hs hq.1 hq.2.1
    obtain ⟨y, y1, y2⟩ := val_at hs hq.2.2.1 hq.2.2.2
    refine ⟨?_, len_st hs⟩
    simp only [x2, y2, Option.bind_some]
    rw [comp_ex (fun z => if z = x ∨ z = y then min2I x y else z) fun z _ => ?_, Option.bind_some, mg_law]
    · unfold stM
      rw [x1, y1]; rfl
    · by_cases g : z = x ∨ z = y
      · have : inB z [x, y] = true := inB_iff.mpr (by simpa using g)
        rw [this, if_pos g]; rfl
      · have : inB z [x, y] = false := inB_no.mpr (by simpa using g)
        rw [this, if_neg g]; rfl
  have outer : ∀ (k : Nat) (xs : List Int) (s : List Int), xs.length = k → (s = nms n l ∨ (s = (List.range n).map (fun (k : Nat) => (k : Int)) ∧ 1 ≤ k)) → foldO (fun (a254 : Int) (s253 : (List Int)) => (Option.bind (foldO (fun (a256 : (Int × Int)) (s255 : (List Int)) => (Option.bind ((Option.bind ((Option.bind (getO s255 a256.1) fun (c257 : Int) => Option.bind (getO s255 a256.2) fun (c258 : Int) => some (c257, c258))) fun (p259 : (Int) × Int) => some (min2I p259.1 p259.2))) fun (c260 : Int) => (Option.bind ((Option.bind (some s255) fun (l269 : List Int) => compO (fun (a261 : Int) => some true) (fun (a261 : Int) => (Option.bind ((Option.bind ((Option.bind (getO s255 a256.1) fun (c262 : Int) => Option.bind (getO s255 a256.2) fun (c263 : Int) => some (c262, c263))) fun (p264 : (Int) × Int) => some (inB a261 [(p264.1, p264.2).1, (p264.1, p264.2).2]))) fun (c265 : Bool) => bif c265 then some c260 else some a261)) l269)) fun (c271 : List Int) => some c271))) l s253) fun s255 => some s255)) xs s = some (nms n l) := fun k => by
    induction k with
    | zero =>
      intro xs s hx hs
      rw [List.length_eq_zero_iff.mp hx]
      rcases hs with rfl | ⟨_, h⟩
      · rfl
      · omega
    | succ k ih =>
      intro xs s hx hs
      cases xs with
      | nil => cases hx
      | cons a xs =>
        have e : l.foldl stM s = nms n l := by
          rcases hs with rfl | ⟨rfl, _⟩
          · exact fix_fold l _ fun p hp => hn.same p.1 p.2 hp
          · rfl
        have hl : (s.length : Int) = n := by
          rcases hs with rfl | ⟨rfl, _⟩
          · exact hn.len
          · simp
        unfold foldO
        rw [(inner s hl).1, e, Option.bind_some, Option.bind_some]
        exact ih xs _ (Nat.succ.inj hx) (.inl rfl)
  simp only [Option.bind_some]
  have o := outer n ((List.range n).map fun (k : Nat) => (k : Int)) _ (by simp) (.inr ⟨rfl, h1⟩)
  simp only [Option.bind_some] at o
  rw [o, Option.bind_some, setI_ok h6 hn.len, Option.bind_some]
  rw [Option.bind_some, comp_ex (lot n (nms n l)) fun m _ => ?_, Option.bind_some, sort_lots hn.len]
  · rfl
  · rw [lot_comp hn.len]; rfl
theorem lots_mem {n : Nat} {l : List P2} (hi : InN n l) {a b : Int} (ha : 0 ≤ a ∧ a < n) (hb : 0 ≤ b ∧ b < n) : (∃ z ∈ lotsOf n l, a ∈ z ∧ b ∈ z) ↔ Eq2 l a b := by
  have hn := nms_ok hi
  rw [← hn.eq ha.1 ha.2 hb.1 hb.2]
  constructor
  · rintro ⟨z, hz, g1, g2⟩
    obtain ⟨m, _, rfl⟩ := List.mem_map.mp ((List.mergeSort_perm _ _).mem_iff.mp hz)
    rw [(lot_mem.mp g1).2, (lot_mem.mp g2).2]
  · intro e
    obtain ⟨v, hv, _⟩ := val_at hn.len ha.1 ha.2
    refine ⟨lot n (nms n l) v, (List.mergeSort_perm _ _).mem_iff.mpr (List.mem_map.mpr ⟨v, (sortU_mem _ _).mpr (List.mem_of_getElem? hv), rfl⟩), lot_mem.mpr ⟨ha, hv⟩, lot_mem.mpr ⟨hb, by rw [← e]; exact hv⟩⟩
end ML

-- part P04d
set_option maxHeartbeats 1000000
namespace ML
open MP MT
theorem compS_ex {α β σ : Type} {f : α → σ → Option (Option β × σ)} (J : σ → Prop) (g : α → β) : ∀ (xs : List α) (s : σ), J s → (∀ a ∈ xs, ∀ s, J s → Ex (f a s) fun v => (v.1 = some (g a) ∨ v.1 = none) ∧ J v.2) → Ex (compS f xs s) fun v => (∃ ys : List α, ys.Sublist xs ∧ v.1 = ys.map g) ∧ J v.2
  | [], s, h, _ => ⟨([], s), rfl, ⟨[], .slnil, rfl⟩, h⟩
  | a :: xs, s, h, hf => by
    unfold compS
    refine Ex.bind (hf a List.mem_cons_self s h) fun v hv => Ex.bind (compS_ex J g xs v.2 hv.2 fun b hb => hf b (List.mem_cons_of_mem _ hb)) fun w ⟨⟨ys, h1, h2⟩, h3⟩ => .some ⟨?_, h3⟩
    rcases hv.1 with e | e
    · refine ⟨a :: ys, h1.cons_cons a, ?_⟩
      rw [e, h2]; rfl
    · refine ⟨ys, h1.cons a, ?_⟩
      rw [e, h2]; rfl
theorem for_ex {α σ ρ ε : Type} {f : α → σ → Option (Fw ρ σ σ)} (J : σ → Prop) : ∀ (xs : List α) (s : σ), J s → (∀ a ∈ xs, ∀ s, J s → Ex (f a s) fun w => ∃ s', w = .next s' ∧ J s') → Ex (forO (ε := ε) f xs s) fun w => ∃ s', w = .next s' ∧ J s'
  | [], s, h, _ => ⟨.next s, rfl, s, rfl, h⟩
  | a :: xs, s, h, hf => by
    unfold forO
    refine Ex.bind (hf a List.mem_cons_self s h) fun w ⟨s', e, h'⟩ => ?_
    subst e
    exact for_ex J xs s' h' fun b hb => hf b (List.mem_cons_of_mem _ hb)
theorem ex_chk {α : Type} {X : Option Bool} {A : Option α} {B : Unit → Option α} {P : α → Prop} (h : Ex X fun c => c = false) (k : Ex (B ()) P) : Ex (X.bind fun c => bif c then A else (Option.bind (some ()) B)) P :=
  Ex.bind h fun c hc => by subst hc; exact k
theorem ex_chkT {α : Type} {X : Option Bool} {A : Option α} {B : Unit → Option α} {P : α → Prop} (h : Ex X fun c => c = true) (k : Ex (B ()) P) : Ex (X.bind fun c => bif (!c) then A else (Option.bind (some ()) B)) P :=
  Ex.bind h fun c hc => by subst hc; exact k
theorem ex_ne {α : Type} [DecidableEq α] {x : Option α} {y : α} (h : Ex x fun c => c = y) : Ex (x.bind fun c => some (!decide (c = y))) fun c => c = false :=
  Ex.bind h fun c hc => .some (by rw [hc]; simp)
def rg (n : Nat) : List Int := (List.range n).map fun (k : Nat) => (k : Int)
theorem rg_mem {n : Nat} {a : Int} : a ∈ rg n ↔ 0 ≤ a ∧ a < n := by
  unfold rg
  constructor
  · intro h
    obtain ⟨k, hk, rfl⟩ := List.mem_map.mp h
    rw [List.mem_range] at hk
    omega
  · intro h
    exact List.mem_map.mpr ⟨a.toNat, List.mem_range.mpr (by omega), Int.toNat_of_nonneg h.1⟩
theorem rg_asc (n : Nat) : (rg n).Pairwise (· < ·) := List.pairwise_map.mpr (List.pairwise_lt_range.imp fun {a b} h => by omega)
theorem rg_len (n : Nat) : (rg n).length = n := by simp [rg]
theorem rg_ok {n : Nat} (h : n ≤ 1048576) : rng1O n = some (rg n) := rng_ok h
theorem done_lt {n : Nat} {done rest : List Int} {a : Int} (e : rg n = done ++ a :: rest) : (0 ≤ a ∧ a < n) ∧ ∀ x ∈ done, x < a := by
  refine ⟨rg_mem.mp (by rw [e]; simp), fun x hx => ?_⟩
  have := rg_asc n
  rw [e] at this
  exact (List.pairwise_append.mp this).2.2 x hx a List.mem_cons_self
theorem lpairs_ok {hand : List D} {n : Nat} (hh : HandOk hand) (h6 : n ≤ 6) : Ex (t__law_pairs hand n) fun v => (Asc v.1 ∧ InN n v.1) ∧ HandOk v.2 := by
  have := lim36
  unfold t__law_pairs
  refine Ex.bind (Q := fun v => (0 < v.1 ∧ v.1 < 1073741824) ∧ HandOk v.2.2) (Ex.bind (draw_ok hh (by decide) (by decide)) fun v hv => .some ⟨⟨by dsimp only; omega, by dsimp only; omega⟩, hv.1⟩) fun v hv => ?_
  rw [rg_ok (by omega), Option.bind_some]
  refine Ex.bind (fold_ex (fun (done : List Int) (s : List D × List P2) => HandOk s.1 ∧ Asc s.2 ∧ ∀ p ∈ s.2, p.1 ∈ done ∧ 0 ≤ p.2 ∧ p.2 < (n : Int)) ⟨hv.2, .nil, fun p hp => by cases hp⟩ ?_) fun s hs => .some ⟨⟨hs.2.1, fun p hp => ?_⟩, hs.1⟩
  · rintro done a s ⟨rest, e⟩ ⟨h1, h2, h3⟩
    obtain ⟨ha, hlt⟩ := done_lt e
    rw [Option.bind_some]
    have c := compS_ex (f := fun (a219 : Int) (s223 : (List D)) => Option.bind ((Option.bind (t__law_draw s223 v.1) fun (p224 : Int × (List D)) => Option.bind (some (decide (p224.1 = 0))) fun (c225 : Bool) => some (c225, p224))) fun (p226 : Bool × Int × (List D)) => bif p226.1 then Option.bind (some (a, a219)) fun (u227 : (Int × Int)) => some (some u227, p226.2.2) else some (none, p226.2.2)) HandOk (fun b => (a, b)) (rg n) s.1 h1 fun b hb s hs => by
      refine Ex.bind (Q := fun w => HandOk w.2.2) (Ex.bind (draw_ok hs hv.1.1 hv.1.2) fun w hw => .some hw.1) fun w hw => ?_
      cases w.1 with
      | true => exact .some ⟨.inl rfl, hw⟩
      | false => exact .some ⟨.inr rfl, hw⟩
    have hs6 : InN 6 s.2 := fun p hp => by
      have := h3 p hp
      have := hlt p.1 this.1
      have h0 : p.1 ∈ rg n := by rw [e]; exact List.mem_append_left _ (h3 p hp).1
      have := rg_mem.mp h0
      unfold InP; omega
    have n1 := len36 h2.nodup hs6
    refine Ex.bind (Q := fun w => (∃ ys : List Int, ys.Sublist (rg n) ∧ w.1 = s.2 ++ ys.map fun b => (a, b)) ∧ HandOk w.2.1.2) (Ex.bind (Q := fun w => (∃ ys : List Int, ys.Sublist (rg n) ∧ w.1.1 = ys.map fun b => (a, b)) ∧ HandOk w.1.2) (Ex.bind c fun w hw => .some hw) fun w hw => ?_) fun w hw => .some ?_
    · obtain ⟨⟨ys, g1, g2⟩, g3⟩ := hw
      refine Ex.bind (Q := fun c => c = s.2 ++ ys.map fun b => (a, b)) ⟨s.2 ++ w.1.1, if_pos ?_, by rw [g2]⟩ fun c hc => .some ⟨⟨ys, g1, hc⟩, g3⟩
      have := g1.length_le
      rw [rg_len] at this
      rw [g2, List.length_map]
      omega
    · obtain ⟨⟨ys, g1, g2⟩, g3⟩ := hw
      refine ⟨g3, ?_, fun p hp => ?_⟩
      · show Asc w.1
        rw [g2]
        refine List.pairwise_append.mpr ⟨h2, List.pairwise_map.mpr (List.Pairwise.imp (R := (· < ·)) (S := fun x y => ltP (a, x) (a, y) = true) (fun {x y} h => ltP_iff.mpr (.inr ⟨rfl, h⟩)) (List.Pairwise.sublist g1 (rg_asc n))), fun p hp q hq => ?_⟩
        obtain ⟨b, _, rfl⟩ := List.mem_map.mp hq
        exact ltP_iff.mpr (.inl (hlt p.1 (h3 p hp).1))
      · have hp : p ∈ w.1 := hp
        rw [g2] at hp
        rcases List.mem_append.mp hp with g | g
        · exact ⟨List.mem_append_left _ (h3 p g).1, (h3 p g).2⟩
        · obtain ⟨b, hb, rfl⟩ := List.mem_map.mp g
          have := rg_mem.mp (g1.subset hb)
          exact ⟨by simp, this.1, this.2⟩
  · have := hs.2.2 p hp
    have h0 := rg_mem.mp this.1
    unfold InP; omega
theorem every_ok {n : Nat} (h6 : n ≤ 6) : Ex (t__law_every n) fun c => InN n c := by
  have := lim36
  unfold t__law_every
  rw [Option.bind_some, rg_ok (by omega), Option.bind_some]
  refine Ex.bind (fold_ex (fun (done : List Int) (s : List P2) => s.length ≤ done.length * 6 ∧ InN n s) ⟨by simp, fun p hp => by cases hp⟩ ?_) fun s hs => .some hs.2
  rintro done a s ⟨rest, e⟩ ⟨h1, h2⟩
  obtain ⟨ha, _⟩ := done_lt e
  rw [Option.bind_some, comp_ex (fun b => (a, b)) fun _ _ => rfl, Option.bind_some]
  have hd : done.length + 1 ≤ n := by
    have := congrArg List.length e
    rw [rg_len, List.length_append, List.length_cons] at this
    omega
  refine Ex.bind (Q := fun w => w.1 = s ++ (rg n).map fun b => (a, b)) (Ex.bind ⟨_, if_pos ?_, rfl⟩ fun c hc => .some hc.symm) fun w hw => .some ?_
  · rw [List.length_map, rg_len]; omega
  · rw [hw]
    refine ⟨?_, fun p hp => ?_⟩
    · rw [List.length_append, List.length_map, rg_len, List.length_append, List.length_singleton]; omega
    · rcases List.mem_append.mp hp with g | g
      · exact h2 p g
      · obtain ⟨b, hb, rfl⟩ := List.mem_map.mp g
        have := rg_mem.mp hb
        exact ⟨ha.1, ha.2, this.1, this.2⟩
end ML

-- part P04e
set_option maxHeartbeats 1000000
namespace ML
open MP MT
theorem IsFol.one {l m c d : List P2} (h : IsFol l m c) (g : IsFol l m d) : c = d := asc_ext h.1 g.1 fun p => (h.2 p).trans (g.2 p).symm
theorem IsFol.inN {l m c : List P2} {n : Int} (h : IsFol l m c) (hl : InN n l) (hm : InN n m) : InN n c := fun p hp => by
  obtain ⟨b, g1, g2⟩ := (h.2 p).mp hp
  exact ⟨(hl _ g1).1, (hl _ g1).2.1, (hm _ g2).2.2.1, (hm _ g2).2.2.2⟩
def IsTurn (l c : List P2) : Prop := Asc c ∧ ∀ p : P2, p ∈ c ↔ (p.2, p.1) ∈ l
theorem IsTurn.inN {l c : List P2} {n : Int} (h : IsTurn l c) (hl : InN n l) : InN n c := fun p hp => by
  have := hl _ ((h.2 p).mp hp)
  exact ⟨this.2.2.1, this.2.2.2, this.1, this.2.1⟩
/-- the first checks -/
theorem lit1 : t_often [(0, 1), (1, 2)] = some [(0, 1), (0, 2), (1, 2)] := by decide +kernel
theorem lit3 : t_followed [(0, 1)] [(1, 1), (2, 0)] = some [(0, 1)] := by decide +kernel
theorem lit2 : t_alike_by 3 [(0, 2)] = some [[0, 2], [1]] := by
  have h := alike_ok (n := 3) (l := [(0, 2)]) (by decide) (by decide) (List.pairwise_singleton _ _) (fun p hp => by
    cases List.mem_singleton.mp hp
    exact ⟨by decide, by decide, by decide, by decide⟩)
  rw [show ((3 : Nat) : Int) = 3 from rfl] at h
  rw [h]
  unfold lotsOf
  have e : (sortU (nms 3 [(0, 2)])).map (lot 3 (nms 3 [(0, 2)])) = [[0, 2], [1]] := by decide +kernel
  rw [e, List.mergeSort_of_pairwise]
  refine List.pairwise_cons.mpr ⟨fun x hx => ?_, List.pairwise_singleton _ _⟩
  cases List.mem_singleton.mp hx
  rfl
/-- one lap -/
theorem lap_ok {one other : List P2} {n : Nat} (h1 : 1 ≤ n) (h6 : n ≤ 6) (a1 : Asc one) (i1 : InN n one) (a2 : Asc other) (i2 : InN n other) {α : Type} {A1 A2 A3 A4 A5 A6 A7 A8 A9 A10 : Option α} {P : α → Prop} {Z : List (List Int) → List P2 → Option α}
    (hz : ∀ lots both, lots = lotsOf n one → (∀ a b : Int, 0 ≤ a ∧ a < n → 0 ≤ b ∧ b < n → ((a, b) ∈ both ↔ ∃ z ∈ lots, a ∈ z ∧ b ∈ z)) → Ex (Z lots both) P) :
    Ex ((Option.bind ((Option.bind (sortO (e2 eI eI) (List.map (fun (a320 : (Int × Int)) => (a320.2, a320.1)) (List.filter (fun (a320 : (Int × Int)) => true) one))) fun (c321 : (List (Int × Int))) => some c321)) fun (c322 : (List (Int × Int))) => (Option.bind ((Option.bind (t_turned one) fun (c323 : (List (Int × Int))) => some (!decide (c323 = c322)))) fun (c324 : Bool) => bif c324 then A1 else
(Option.bind (some ()) fun (p326 : Unit) => (Option.bind ((Option.bind (t_turned c322) fun (c327 : (List (Int × Int))) => some (!decide (c327 = one)))) fun (c328 : Bool) => bif c328 then A2 else
(Option.bind (some ()) fun (p330 : Unit) => (Option.bind ((Option.bind ((Option.bind (t_followed one other) fun (c331 : (List (Int × Int))) => Option.bind (t__law_followed one other) fun (c332 : (List (Int × Int))) => some (c331, c332))) fun (p333 : ((List (Int × Int))) × (List (Int × Int))) => some (!decide (p333.1 = p333.2)))) fun (c334 : Bool) => bif c334 then A3 else
(Option.bind (some ()) fun (p336 : Unit) => (Option.bind ((Option.bind ((Option.bind ((Option.bind (t_followed one other) fun (c337 : (List (Int × Int))) => t_turned c337)) fun (c338 : (List (Int × Int))) => Option.bind ((Option.bind ((Option.bind (t_turned other) fun (c339 : (List (Int × Int))) => Option.bind (t_turned one) fun (c340 : (List (Int × Int))) => some (c339, c340))) fun (p341 : ((List (Int × Int))) × (List (Int × Int))) => t_followed p341.1 p341.2)) fun (c342 : (List (Int × Int))) => some (c338, c342))) fun (p343 : ((List (Int × Int))) × (List (Int × Int))) => some (!decide (p343.1 = p343.2)))) fun (c344 : Bool) => bif c344 then A4 else
(Option.bind (some ()) fun (p346 : Unit) => (Option.bind (t__law_often one) fun (c347 : (List (Int × Int))) => (Option.bind ((Option.bind (t_often one) fun (c348 : (List (Int × Int))) => some (!decide (c348 = c347)))) fun (c349 : Bool) => bif c349 then A5 else
(Option.bind (some ()) fun (p351 : Unit) => (Option.bind ((Option.bind ((Option.bind ((Option.bind (t_followed c347 c347) fun (c352 : (List (Int × Int))) => some c352)) fun (l353 : List (Int × Int)) => compO (fun (a354 : (Int × Int)) => some true) (fun (a354 : (Int × Int)) => some (inB a354 c347)) l353)) fun (c358 : List Bool) => some (List.all c358 id))) fun (c359 : Bool) => bif (!c359) then A6 else
(Option.bind (some ()) fun (p361 : Unit) => (Option.bind ((Option.bind (t_often c347) fun (c362 : (List (Int × Int))) => some (!decide (c362 = c347)))) fun (c363 : Bool) => bif c363 then A7 else
(Option.bind (some ()) fun (p365 : Unit) => (Option.bind ((Option.bind ((Option.bind (catO one other) fun (c366 : (List (Int × Int))) => sortsetT (e2 eI eI) c366)) fun (c367 : (List (Int × Int))) => some c367)) fun (c368 : (List (Int × Int))) => (Option.bind ((Option.bind ((Option.bind (some c347) fun (l372 : List (Int × Int)) => compO (fun (a369 : (Int × Int)) => some true) (fun (a369 : (Int × Int)) => (Option.bind (t_often c368) fun (c370 : (List (Int × Int))) => some (inB a369 c370))) l372)) fun (c374 : List Bool) => some (List.all c374 id))) fun (c375 : Bool) => bif (!c375) then A8 else
(Option.bind (some ()) fun (p377 : Unit) => (Option.bind ((Option.bind ((Option.bind (t_often_or_none n one) fun (c378 : (List (Int × Int))) => Option.bind ((Option.bind ((Option.bind ((Option.bind ((Option.bind ((Option.bind (rng1O n) fun (l379 : List Int) => compO (fun (a380 : Int) => some true) (fun (a380 : Int) => some (a380, a380)) l379)) fun (c383 : List (Int × Int)) => some c383)) fun (c384 : (List (Int × Int))) => catO c347 c384)) fun (c385 : (List (Int × Int))) => sortsetT (e2 eI eI) c385)) fun (c386 : (List (Int × Int))) => some c386)) fun (c387 : (List (Int × Int))) => some (c378, c387))) fun (p388 : ((List (Int × Int))) × (List (Int × Int))) => some (!decide (p388.1 = p388.2)))) fun (c389 : Bool) => bif c389 then A9 else
(Option.bind (some ()) fun (p391 : Unit) => (Option.bind (t__law_lots n one) fun (c392 : (List (List Int))) => (Option.bind ((Option.bind (t_alike_by n one) fun (c393 : (List (List Int))) => some (!decide (c393 = c392)))) fun (c394 : Bool) => bif c394 then A10 else
(Option.bind (some ()) fun (p396 : Unit) => (Option.bind ((Option.bind ((Option.bind ((Option.bind (catO one c322) fun (c397 : (List (Int × Int))) => sortsetT (e2 eI eI) c397)) fun (c398 : (List (Int × Int))) => some c398)) fun (c399 : (List (Int × Int))) => t_often_or_none n c399)) fun (c400 : (List (Int × Int))) => Z c392 c400)))))))))))))))))))))))))) P := by
  have := lim36
  have j1 := i1.six (by omega)
  have j2 := i2.six (by omega)
  have n1 := len36 a1.nodup j1
  have n2 := len36 a2.nodup j2
  rw [filt]
  refine Ex.bind (Q := IsTurn one) (Ex.bind (sort_ok (List.pairwise_map.mpr (a1.nodup.imp fun {a b} h e => h (by injection e with e1 e2; exact Prod.ext e2 e1)))) fun c hc => .some ⟨hc.1, fun p => ?_⟩) fun back hb => ?_
  · rw [hc.2]
    constructor
    · intro h
      obtain ⟨q, hq, rfl⟩ := List.mem_map.mp h
      exact hq
    · exact fun h => List.mem_map.mpr ⟨_, h, rfl⟩
  have ib := hb.inN i1
  have jb := ib.six (by omega)
  refine ex_chk (ex_ne ((turned_ok a1 j1).imp fun c hc => asc_ext hc.1 hb.1 fun p => (hc.2 p).trans (hb.2 p).symm)) ?_
  refine ex_chk (ex_ne ((turned_ok hb.1 jb).imp fun c hc => asc_ext hc.1 a1 fun p => (hc.2 p).trans (hb.2 _))) ?_
  refine ex_chk (Ex.bind (Q := fun (v : List P2 × List P2) => v.1 = v.2) (Ex.bind (followed_ok a1 j1 a2 j2) fun c hc => Ex.bind (lfol_ok a1 j1 a2 j2) fun d hd => .some (hc.one hd)) fun v hv => .some (by rw [hv]; simp)) ?_
  refine ex_chk (Ex.bind (Q := fun (v : List P2 × List P2) => v.1 = v.2) (Ex.bind (Q := fun c => Asc c ∧ ∀ p : P2, p ∈ c ↔ ∃ b, (p.2, b) ∈ one ∧ (b, p.1) ∈ other) (Ex.bind (followed_ok a1 j1 a2 j2) fun c hc => (turned_ok hc.1 (hc.inN j1 j2)).imp fun d hd => ⟨hd.1, fun p => (hd.2 p).trans (hc.2 _)⟩) fun c hc =>
    Ex.bind (Q := fun d => Asc d ∧ ∀ p : P2, p ∈ d ↔ ∃ b, (p.2, b) ∈ one ∧ (b, p.1) ∈ other) (Ex.bind (Q := fun (v : List P2 × List P2) => IsTurn other v.1 ∧ IsTurn one v.2) (Ex.bind (turned_ok a2 j2) fun c hc => Ex.bind (turned_ok a1 j1) fun d hd => .some ⟨hc, hd⟩) fun v hv => (followed_ok hv.1.1 (hv.1.inN j2) hv.2.1 (hv.2.inN j1)).imp fun d hd => ⟨hd.1, fun p => (hd.2 p).trans ?_⟩) fun d hd => .some (asc_ext hc.1 hd.1 fun p => (hc.2 p).trans (hd.2 p).symm)) fun v hv => .some (by rw [hv]; simp)) ?_
  · constructor
    · rintro ⟨b, g1, g2⟩
      exact ⟨b, (hv.2.2 _).mp g2, (hv.1.2 _).mp g1⟩
    · rintro ⟨b, g1, g2⟩
      exact ⟨b, (hv.1.2 (p.1, b)).mpr g2, (hv.2.2 (b, p.2)).mpr g1⟩
  show Ex (Option.bind (t__law_often one) _) P
  refine Ex.bind (loft_ok a1 j1) fun whole hw => ?_
  have iw := hw.inN i1
  have jw := iw.six (by omega)
  refine ex_chk (ex_ne ((often_ok a1 j1).imp fun c hc => hc.one hw)) ?_
  refine ex_chkT (Ex.bind (Q := fun l => ∃ c, IsFol whole whole c ∧ l = c.map fun p => inB p whole) (Ex.bind (Ex.bind (followed_ok hw.1 jw hw.1 jw) fun c hc => .some hc) fun c hc => ⟨_, comp_ex (fun p => inB p whole) fun _ _ => rfl, c, hc, rfl⟩) fun l ⟨c, hc, e⟩ => .some ?_) ?_
  · rw [e]
    refine all_true fun p hp => inB_iff.mpr ?_
    obtain ⟨b, g1, g2⟩ := (hc.2 p).mp hp
    exact (hw.2 p).mpr (((hw.2 _).mp g1).trans ((hw.2 _).mp g2))
  refine ex_chk (ex_ne ((often_ok hw.1 jw).imp fun c hc => asc_ext hc.1 hw.1 fun p => (hc.2 p).trans ⟨fun h => (hw.2 p).mpr (h.least (fun a b z => (hw.2 _).mp z) fun _ _ _ x y => x.trans y), fun h => .one h⟩)) ?_
  have join : ∀ m : List P2, InN 6 m → m.length ≤ 36 → Ex (Option.bind (catO one m) fun c => sortsetT (e2 eI eI) c) fun c => Asc c ∧ ∀ p, p ∈ c ↔ p ∈ one ∨ p ∈ m := fun m jm nm => by
    refine Ex.bind (Q := fun c => c = one ++ m) ⟨one ++ m, if_pos (by omega), rfl⟩ fun c hc => ?_
    subst hc
    exact (set_ok fun p hp => (List.mem_append.mp hp).elim (j1 p) (jm p)).imp fun c hc => ⟨hc.1, fun p => (hc.2 p).trans List.mem_append⟩
  refine Ex.bind (Q := fun c => Asc c ∧ ∀ p, p ∈ c ↔ p ∈ one ∨ p ∈ other) (Ex.bind (join other j2 n2) fun c hc => .some hc) fun wide hwide => ?_
  have jwide : InN 6 wide := fun p hp => ((hwide.2 p).mp hp).elim (j1 p) (j2 p)
  obtain ⟨tw, etw, htw⟩ := often_ok hwide.1 jwide
  refine ex_chkT (Ex.bind (Q := fun l => l = whole.map fun p => inB p tw) ⟨_, comp_ex (fun p => inB p tw) (fun p _ => by rw [etw]; rfl), rfl⟩ fun l e => .some ?_) ?_
  · rw [e]
    exact all_true fun p hp => inB_iff.mpr ((htw.2 p).mpr (((hw.2 p).mp hp).mono fun q hq => (hwide.2 q).mpr (.inl hq)))
  refine ex_chk (Ex.bind (Q := fun (v : List P2 × List P2) => v.1 = v.2) (Ex.bind (ooN_ok h1 h6 a1 i1) fun c ⟨t, ht, hc⟩ => Ex.bind (Q := fun d => IsSelf n whole d) ?_ fun d hd => .some ?_) fun v hv => .some (by rw [hv]; simp)) ?_
  · rw [rg_ok (by omega), Option.bind_some, comp_ex (fun a => (a, a)) fun _ _ => rfl, Option.bind_some, Option.bind_some]
    have nw := len36 hw.1.nodup jw
    refine Ex.bind (Q := fun d => IsSelf n whole d) (Ex.bind (Q := fun c => c = whole ++ (rg n).map fun a => (a, a)) ⟨_, if_pos (by rw [List.length_map, rg_len]; omega), rfl⟩ fun c hc => ?_) fun d hd => .some hd
    subst hc
    have mem : ∀ p : P2, p ∈ whole ++ (rg n).map (fun a => (a, a)) ↔ p ∈ whole ∨ (p.1 = p.2 ∧ 0 ≤ p.1 ∧ p.1 < n) := fun p => by
      rw [List.mem_append]
      exact or_congr Iff.rfl selves_mem
    refine (set_ok fun p hp => ?_).imp fun c hc => ⟨hc.1, fun p => (hc.2 p).trans (mem p)⟩
    rcases (mem p).mp hp with g | g
    · exact jw p g
    · unfold InP; omega
  · have e : t = whole := ht.one hw
    subst e
    exact asc_ext hc.1 hd.1 fun p => (hc.2 p).trans (hd.2 p).symm
  show Ex (Option.bind (t__law_lots n one) _) P
  rw [llots_ok h1 h6 i1, Option.bind_some]
  refine ex_chk (ex_ne ⟨_, alike_ok h1 h6 a1 i1, rfl⟩) ?_
  have nb := len36 hb.1.nodup jb
  refine Ex.bind (Q := fun both => ∀ a b : Int, 0 ≤ a ∧ a < n → 0 ≤ b ∧ b < n → ((a, b) ∈ both ↔ ∃ z ∈ lotsOf n one, a ∈ z ∧ b ∈ z)) (Ex.bind (Q := fun c => Asc c ∧ ∀ p, p ∈ c ↔ p ∈ one ∨ p ∈ back) (Ex.bind (join back jb nb) fun c hc => .some hc) fun sym hs => ?_) fun both hboth => hz _ both rfl hboth
  have is : InN n sym := fun p hp => ((hs.2 p).mp hp).elim (i1 p) (ib p)
  refine (ooN_ok h1 h6 hs.1 is).imp fun c ⟨t, ht, hc⟩ a b ha hb' => ?_
  rw [lots_mem i1 ha hb', hc.2, ht.2, Eq2.tc (qs := sym) fun p => (hs.2 p).trans (or_congr Iff.rfl (hb.2 p))]
  constructor
  · rintro (h | h)
    · exact .inr h
    · exact .inl h.1
  · rintro (h | h)
    · exact .inr ⟨h, ha.1, ha.2⟩
    · exact .inl h
/-- the law -/
theorem law_ok (ns : List Int) : t_law ns = some true := by
  have main : Ex (t_law ns) fun b => b = true := by
    unfold t_law
    refine Ex.bind (hand_ok ns) fun hand hh => ?_
    refine ex_chk (ex_ne ⟨_, lit1, rfl⟩) ?_
    refine ex_chk (ex_ne ⟨_, lit2, rfl⟩) ?_
    refine ex_chk (ex_ne ⟨_, lit3, rfl⟩) ?_
    rw [show (5 : Int) = ((5 : Nat) : Int) from rfl, rg_ok (by decide), Option.bind_some]
    refine Ex.bind (for_ex HandOk (rg 5) hand hh fun a _ s hs => ?_) fun w ⟨s', e, _⟩ => by
      subst e
      exact .some rfl
    refine Ex.bind (Q := fun (v : Int × Int × List D) => (∃ n : Nat, v.1 = (n : Int) ∧ 1 ≤ n ∧ n ≤ 6) ∧ HandOk v.2.2) (Ex.bind (draw_ok hs (by decide) (by decide)) fun v hv => .some ⟨⟨(1 + v.1).toNat, by dsimp only; omega, by omega, by omega⟩, hv.1⟩) fun v ⟨⟨n, en, h1, h6⟩, hv⟩ => ?_
    rw [en]
    refine Ex.bind (Q := fun (w : (List P2 × List D) × List P2 × List D) => ((Asc w.1.1 ∧ InN n w.1.1) ∧ (Asc w.2.1 ∧ InN n w.2.1)) ∧ HandOk w.2.2) (Ex.bind (lpairs_ok hv h6) fun x hx => Ex.bind (lpairs_ok hx.2 h6) fun y hy => .some ⟨⟨hx.1, hy.1⟩, hy.2⟩) fun w ⟨⟨w1, w2⟩, w3⟩ => ?_
    refine lap_ok h1 h6 w1.1 w1.2 w2.1 w2.2 fun lots both el hb => ?_
    refine Ex.bind (Q := fun f => f = .next ()) (Ex.bind (Q := fun c => InN n c) (Ex.bind (every_ok h6) fun c hc => .some hc) fun c hc => ?_) fun f hf => by
      subst hf
      exact .some ⟨_, rfl, w3⟩
    refine (for_ex (fun _ => True) c () trivial fun p hp s _ => ?_).imp fun f ⟨s', e, _⟩ => e
    rw [filt]
    have h := hc p hp
    have e : inB (p.1, p.2) both = (List.map (fun (a406 : (List Int)) => ((inB p.1 a406) && (inB p.2 a406))) lots).any id := by
      rw [Bool.eq_iff_iff, inB_iff, hb p.1 p.2 ⟨h.1, h.2.1⟩ ⟨h.2.2.1, h.2.2.2⟩, List.any_eq_true]
      constructor
      · rintro ⟨z, hz, g1, g2⟩
        exact ⟨_, List.mem_map.mpr ⟨z, hz, rfl⟩, by show (inB p.1 z && inB p.2 z) = true; rw [inB_iff.mpr g1, inB_iff.mpr g2]; rfl⟩
      · rintro ⟨x, hx, e⟩
        obtain ⟨z, hz, rfl⟩ := List.mem_map.mp hx
        have e : (inB p.1 z && inB p.2 z) = true := e
        rw [Bool.and_eq_true] at e
        exact ⟨z, hz, inB_iff.mp e.1, inB_iff.mp e.2⟩
    refine ex_chk (.some ?_) (.some ⟨(), rfl, trivial⟩)
    rw [e]; simp
  obtain ⟨b, e, rfl⟩ := main
  exact e
end ML

namespace MP
open PySem PySem.Spec PyProof.Rows L2
abbrev topS (i : Nat) : Stmt := PySem.Challenge.pw_fewworlds_k04_whole_pairs_followed_and_o.main.body.getD i (.Pass ⟨0, 0, 0, 0⟩)
def rows : List Row := [
  ⟨"is_integer", topS 5, ["thing"], f_is_integer⟩,
  ⟨"is_within", topS 6, ["thing", "low", "high"], f_is_within⟩,
  ⟨"is_tuple", topS 7, ["thing", "least", "most"], f_is_tuple⟩,
  ⟨"is_size", topS 10, ["thing"], f_is_size⟩,
  ⟨"check_size", topS 11, ["size"], f_check_size⟩,
  ⟨"are_pairs", topS 12, ["size", "thing", "pair", "one", "other"], f_are_pairs⟩,
  ⟨"check_any", topS 14, ["pairs"], f_check_any⟩,
  ⟨"check_sized", topS 15, ["size", "pairs"], f_check_sized⟩,
  ⟨"turned", topS 16, ["pairs", "start", "to"], f_turned⟩,
  ⟨"followed_of", topS 17, ["one", "other", "found", "start", "middle", "again", "to"], f_followed_of⟩,
  ⟨"followed", topS 18, ["one", "other"], f_followed⟩,
  ⟨"often_of", topS 19, ["pairs", "found", "more"], f_often_of⟩,
  ⟨"often", topS 20, ["pairs"], f_often⟩,
  ⟨"with_selves", topS 21, ["size", "pairs", "a"], f_with_selves⟩,
  ⟨"often_or_none", topS 22, ["size", "pairs"], f_often_or_none⟩,
  ⟨"lots_by", topS 23, ["size", "pairs", "names", "a", "b", "low", "high", "name", "found"], f_lots_by⟩,
  ⟨"alike_by", topS 24, ["size", "pairs"], f_alike_by⟩,
  ⟨"_law_hand", topS 26, ["script", "cells", "cell"], f__law_hand⟩,
  ⟨"_law_draw", topS 27, ["hand", "many", "cell", "digit", "number"], f__law_draw⟩,
  ⟨"_law_pairs", topS 28, ["hand", "size", "often_here", "found", "a", "b"], f__law_pairs⟩,
  ⟨"_law_followed", topS 29, ["one", "other", "found", "a", "b", "c", "d"], f__law_followed⟩,
  ⟨"_law_often", topS 30, ["pairs", "found", "turn"], f__law_often⟩,
  ⟨"_law_lots", topS 31, ["size", "pairs", "marks", "turn", "a", "b", "low", "mark_now"], f__law_lots⟩,
  ⟨"_law_every", topS 32, ["size", "found", "a", "b"], f__law_every⟩,
  ⟨"law", topS 33, ["script", "hand", "turn", "size", "one", "other", "back", "a", "b", "whole", "pair", "wide", "lots", "both", "lot"], f_law⟩]
def cns : List (Str × D) := [("MOST_WORLDS", (.int 6))]
def bls : List Str := ["len", "all", "any", "list", "tuple", "sorted", "set", "abs", "int", "min", "max", "range", "zip", "isinstance", "bool"]

theorem ck_rows : rows.all (rowB rows cns bls) = true := by decide +kernel
theorem rows_prog : rowP rows = prog := funext fun f => match f with
  | 0 => rfl
  | 1 => rfl
  | 2 => rfl
  | 3 => rfl
  | 4 => rfl
  | 5 => rfl
  | 6 => rfl
  | 7 => rfl
  | 8 => rfl
  | 9 => rfl
  | 10 => rfl
  | 11 => rfl
  | 12 => rfl
  | 13 => rfl
  | 14 => rfl
  | 15 => rfl
  | 16 => rfl
  | 17 => rfl
  | 18 => rfl
  | 19 => rfl
  | 20 => rfl
  | 21 => rfl
  | 22 => rfl
  | 23 => rfl
  | 24 => rfl
  | _ + 25 => rfl
theorem law_holds (ns : List Int) (_ : ns.length ≤ 63) : ∃ out, callF (rowP rows) 20 24 [.val (.scr ns)] = .ok (.val (.bl true)) out := by
  rw [rows_prog]
  obtain ⟨w, h1, h2, _⟩ := MT.t_law_ok 13 ns true (ML.law_ok ns)
  have e : w = .val (.bl true) := h2
  rw [e] at h1
  exact ⟨_, h1⟩
end MP
open PySem PySem.W PyProof.Rows
set_option maxHeartbeats 0 in
theorem PySem.Challenge.cw_fewworlds_k04_whole_pairs_followed_and_o_holds : PySem.Challenge.rw_fewworlds_k04_whole_pairs_followed_and_o.Holds := by
  w_on; o_law; k_head; (case hw => w_witness2)
  k_fill
  refine L2.walk_of (l := PySem.Challenge.rw_fewworlds_k04_whole_pairs_followed_and_o) (n := 63) (k := 20) (x := "script") (CX := fun _ => L2.CX0) (sp := fun w => MP.spF _ (MP.callF (MP.rowP MP.rows) 20) 24 1) rfl (by decide) rfl ⟨rfl, by decide, by decide⟩ (fun w h Y => PySem.W.kIn_of Y) ?F (fun w H a ns hl hO hS => MP.sp_law (m := 63) MP.law_holds H a ns hl (Nat.le_refl _) hO hS _) (fun _ _ _ _ _ h => h)
  case F =>
    intro w mg fa h KX G hmg
    have h0 : MP.Known (L2.KOf KX) mg ⟨"is_integer", MP.topS 5, ["thing"], MP.f_is_integer⟩ := by
      refine' MP.known_of KX G ?a ?l ?c ?k (by decide) (fun _ _ _ _ _ _ us hl => match us, hl with | [_], _ => rfl)
      (case a => k_is); (case l => k_is); (case c => k_is); (case k => k_is)
    have h1 : MP.Known (L2.KOf KX) mg ⟨"is_within", MP.topS 6, ["thing", "low", "high"], MP.f_is_within⟩ := by
      refine' MP.known_of KX G ?a ?l ?c ?k (by decide) (fun _ _ _ _ _ _ us hl => match us, hl with | [_, _, _], _ => rfl)
      (case a => k_is); (case l => k_is); (case c => k_is); (case k => k_is)
    have h2 : MP.Known (L2.KOf KX) mg ⟨"is_tuple", MP.topS 7, ["thing", "least", "most"], MP.f_is_tuple⟩ := by
      refine' MP.known_of KX G ?a ?l ?c ?k (by decide) (fun _ _ _ _ _ _ us hl => match us, hl with | [_, _, _], _ => rfl)
      (case a => k_is); (case l => k_is); (case c => k_is); (case k => k_is)
    have h3 : MP.Known (L2.KOf KX) mg ⟨"is_size", MP.topS 10, ["thing"], MP.f_is_size⟩ := by
      refine' MP.known_of KX G ?a ?l ?c ?k (by decide) (fun _ _ _ _ _ _ us hl => match us, hl with | [_], _ => rfl)
      (case a => k_is); (case l => k_is); (case c => k_is); (case k => k_is)
    have h4 : MP.Known (L2.KOf KX) mg ⟨"check_size", MP.topS 11, ["size"], MP.f_check_size⟩ := by
      refine' MP.known_of KX G ?a ?l ?c ?k (by decide) (fun _ _ _ _ _ _ us hl => match us, hl with | [_], _ => rfl)
      (case a => k_is); (case l => k_is); (case c => k_is); (case k => k_is)
    have h5 : MP.Known (L2.KOf KX) mg ⟨"are_pairs", MP.topS 12, ["size", "thing", "pair", "one", "other"], MP.f_are_pairs⟩ := by
      refine' MP.known_of KX G ?a ?l ?c ?k (by decide) (fun _ _ _ _ _ _ us hl => match us, hl with | [_, _], _ => rfl)
      (case a => k_is); (case l => k_is); (case c => k_is); (case k => k_is)
    have h6 : MP.Known (L2.KOf KX) mg ⟨"check_any", MP.topS 14, ["pairs"], MP.f_check_any⟩ := by
      refine' MP.known_of KX G ?a ?l ?c ?k (by decide) (fun _ _ _ _ _ _ us hl => match us, hl with | [_], _ => rfl)
      (case a => k_is); (case l => k_is); (case c => k_is); (case k => k_is)
    have h7 : MP.Known (L2.KOf KX) mg ⟨"check_sized", MP.topS 15, ["size", "pairs"], MP.f_check_sized⟩ := by
      refine' MP.known_of KX G ?a ?l ?c ?k (by decide) (fun _ _ _ _ _ _ us hl => match us, hl with | [_, _], _ => rfl)
      (case a => k_is); (case l => k_is); (case c => k_is); (case k => k_is)
    have h8 : MP.Known (L2.KOf KX) mg ⟨"turned", MP.topS 16, ["pairs", "start", "to"], MP.f_turned⟩ := by
      refine' MP.known_of KX G ?a ?l ?c ?k (by decide) (fun _ _ _ _ _ _ us hl => match us, hl with | [_], _ => rfl)
      (case a => k_is); (case l => k_is); (case c => k_is); (case k => k_is)
    have h9 : MP.Known (L2.KOf KX) mg ⟨"followed_of", MP.topS 17, ["one", "other", "found", "start", "middle", "again", "to"], MP.f_followed_of⟩ := by
      refine' MP.known_of KX G ?a ?l ?c ?k (by decide) (fun _ _ _ _ _ _ us hl => match us, hl with | [_, _], _ => rfl)
      (case a => k_is); (case l => k_is); (case c => k_is); (case k => k_is)
    have h10 : MP.Known (L2.KOf KX) mg ⟨"followed", MP.topS 18, ["one", "other"], MP.f_followed⟩ := by
      refine' MP.known_of KX G ?a ?l ?c ?k (by decide) (fun _ _ _ _ _ _ us hl => match us, hl with | [_, _], _ => rfl)
      (case a => k_is); (case l => k_is); (case c => k_is); (case k => k_is)
    have h11 : MP.Known (L2.KOf KX) mg ⟨"often_of", MP.topS 19, ["pairs", "found", "more"], MP.f_often_of⟩ := by
      refine' MP.known_of KX G ?a ?l ?c ?k (by decide) (fun _ _ _ _ _ _ us hl => match us, hl with | [_], _ => rfl)
      (case a => k_is); (case l => k_is); (case c => k_is); (case k => k_is)
    have h12 : MP.Known (L2.KOf KX) mg ⟨"often", MP.topS 20, ["pairs"], MP.f_often⟩ := by
      refine' MP.known_of KX G ?a ?l ?c ?k (by decide) (fun _ _ _ _ _ _ us hl => match us, hl with | [_], _ => rfl)
      (case a => k_is); (case l => k_is); (case c => k_is); (case k => k_is)
    have h13 : MP.Known (L2.KOf KX) mg ⟨"with_selves", MP.topS 21, ["size", "pairs", "a"], MP.f_with_selves⟩ := by
      refine' MP.known_of KX G ?a ?l ?c ?k (by decide) (fun _ _ _ _ _ _ us hl => match us, hl with | [_, _], _ => rfl)
      (case a => k_is); (case l => k_is); (case c => k_is); (case k => k_is)
    have h14 : MP.Known (L2.KOf KX) mg ⟨"often_or_none", MP.topS 22, ["size", "pairs"], MP.f_often_or_none⟩ := by
      refine' MP.known_of KX G ?a ?l ?c ?k (by decide) (fun _ _ _ _ _ _ us hl => match us, hl with | [_, _], _ => rfl)
      (case a => k_is); (case l => k_is); (case c => k_is); (case k => k_is)
    have h15 : MP.Known (L2.KOf KX) mg ⟨"lots_by", MP.topS 23, ["size", "pairs", "names", "a", "b", "low", "high", "name", "found"], MP.f_lots_by⟩ := by
      refine' MP.known_of KX G ?a ?l ?c ?k (by decide) (fun _ _ _ _ _ _ us hl => match us, hl with | [_, _], _ => rfl)
      (case a => k_is); (case l => k_is); (case c => k_is); (case k => k_is)
    have h16 : MP.Known (L2.KOf KX) mg ⟨"alike_by", MP.topS 24, ["size", "pairs"], MP.f_alike_by⟩ := by
      refine' MP.known_of KX G ?a ?l ?c ?k (by decide) (fun _ _ _ _ _ _ us hl => match us, hl with | [_, _], _ => rfl)
      (case a => k_is); (case l => k_is); (case c => k_is); (case k => k_is)
    have h17 : MP.Known (L2.KOf KX) mg ⟨"_law_hand", MP.topS 26, ["script", "cells", "cell"], MP.f__law_hand⟩ := by
      refine' MP.known_of KX G ?a ?l ?c ?k (by decide) (fun _ _ _ _ _ _ us hl => match us, hl with | [_], _ => rfl)
      (case a => k_is); (case l => k_is); (case c => k_is); (case k => k_is)
    have h18 : MP.Known (L2.KOf KX) mg ⟨"_law_draw", MP.topS 27, ["hand", "many", "cell", "digit", "number"], MP.f__law_draw⟩ := by
      refine' MP.known_of KX G ?a ?l ?c ?k (by decide) (fun _ _ _ _ _ _ us hl => match us, hl with | [_, _], _ => rfl)
      (case a => k_is); (case l => k_is); (case c => k_is); (case k => k_is)
    have h19 : MP.Known (L2.KOf KX) mg ⟨"_law_pairs", MP.topS 28, ["hand", "size", "often_here", "found", "a", "b"], MP.f__law_pairs⟩ := by
      refine' MP.known_of KX G ?a ?l ?c ?k (by decide) (fun _ _ _ _ _ _ us hl => match us, hl with | [_, _], _ => rfl)
      (case a => k_is); (case l => k_is); (case c => k_is); (case k => k_is)
    have h20 : MP.Known (L2.KOf KX) mg ⟨"_law_followed", MP.topS 29, ["one", "other", "found", "a", "b", "c", "d"], MP.f__law_followed⟩ := by
      refine' MP.known_of KX G ?a ?l ?c ?k (by decide) (fun _ _ _ _ _ _ us hl => match us, hl with | [_, _], _ => rfl)
      (case a => k_is); (case l => k_is); (case c => k_is); (case k => k_is)
    have h21 : MP.Known (L2.KOf KX) mg ⟨"_law_often", MP.topS 30, ["pairs", "found", "turn"], MP.f__law_often⟩ := by
      refine' MP.known_of KX G ?a ?l ?c ?k (by decide) (fun _ _ _ _ _ _ us hl => match us, hl with | [_], _ => rfl)
      (case a => k_is); (case l => k_is); (case c => k_is); (case k => k_is)
    have h22 : MP.Known (L2.KOf KX) mg ⟨"_law_lots", MP.topS 31, ["size", "pairs", "marks", "turn", "a", "b", "low", "mark_now"], MP.f__law_lots⟩ := by
      refine' MP.known_of KX G ?a ?l ?c ?k (by decide) (fun _ _ _ _ _ _ us hl => match us, hl with | [_, _], _ => rfl)
      (case a => k_is); (case l => k_is); (case c => k_is); (case k => k_is)
    have h23 : MP.Known (L2.KOf KX) mg ⟨"_law_every", MP.topS 32, ["size", "found", "a", "b"], MP.f__law_every⟩ := by
      refine' MP.known_of KX G ?a ?l ?c ?k (by decide) (fun _ _ _ _ _ _ us hl => match us, hl with | [_], _ => rfl)
      (case a => k_is); (case l => k_is); (case c => k_is); (case k => k_is)
    have h24 : MP.Known (L2.KOf KX) mg ⟨"law", MP.topS 33, ["script", "hand", "turn", "size", "one", "other", "back", "a", "b", "whole", "pair", "wide", "lots", "both", "lot"], MP.f_law⟩ := by
      refine' MP.known_of KX G ?a ?l ?c ?k (by decide) (fun _ _ _ _ _ _ us hl => match us, hl with | [_], _ => rfl)
      (case a => k_is); (case l => k_is); (case c => k_is); (case k => k_is)
    have b0 : mg "len" = none := by
      refine' PySem.W.mg_none_of KX G ?z
      (case z => k_is)
    have b1 : mg "all" = none := by
      refine' PySem.W.mg_none_of KX G ?z
      (case z => k_is)
    have b2 : mg "any" = none := by
      refine' PySem.W.mg_none_of KX G ?z
      (case z => k_is)
    have b3 : mg "list" = none := by
      refine' PySem.W.mg_none_of KX G ?z
      (case z => k_is)
    have b4 : mg "tuple" = none := by
      refine' PySem.W.mg_none_of KX G ?z
      (case z => k_is)
    have b5 : mg "sorted" = none := by
      refine' PySem.W.mg_none_of KX G ?z
      (case z => k_is)
    have b6 : mg "set" = none := by
      refine' PySem.W.mg_none_of KX G ?z
      (case z => k_is)
    have b7 : mg "abs" = none := by
      refine' PySem.W.mg_none_of KX G ?z
      (case z => k_is)
    have b8 : mg "int" = none := by
      refine' PySem.W.mg_none_of KX G ?z
      (case z => k_is)
    have b9 : mg "min" = none := by
      refine' PySem.W.mg_none_of KX G ?z
      (case z => k_is)
    have b10 : mg "max" = none := by
      refine' PySem.W.mg_none_of KX G ?z
      (case z => k_is)
    have b11 : mg "range" = none := by
      refine' PySem.W.mg_none_of KX G ?z
      (case z => k_is)
    have b12 : mg "zip" = none := by
      refine' PySem.W.mg_none_of KX G ?z
      (case z => k_is)
    have b13 : mg "isinstance" = none := by
      refine' PySem.W.mg_none_of KX G ?z
      (case z => k_is)
    have b14 : mg "bool" = none := by
      refine' PySem.W.mg_none_of KX G ?z
      (case z => k_is)
    have c0 : ∃ v u, mg "MOST_WORLDS" = some u ∧ L2.RelV v u ∧ (("MOST_WORLDS" : Str) == ("__debug__" : Str)) = false ∧ ∀ H N, MP.Rep (L2.KOf KX) H N v (.int 6) := by
      refine' MP.cn_int KX G ?z (by decide)
      (case z => k_is)
    have T : MP.TabOk (L2.KOf KX) mg MP.rows MP.cns MP.bls := by
      refine MP.tab_of ?_ ?_ ?_
      · exact List.forall_mem_cons.mpr ⟨h0, List.forall_mem_cons.mpr ⟨h1, List.forall_mem_cons.mpr ⟨h2, List.forall_mem_cons.mpr ⟨h3, List.forall_mem_cons.mpr ⟨h4, List.forall_mem_cons.mpr ⟨h5, List.forall_mem_cons.mpr ⟨h6, List.forall_mem_cons.mpr ⟨h7, List.forall_mem_cons.mpr ⟨h8, List.forall_mem_cons.mpr ⟨h9, List.forall_mem_cons.mpr ⟨h10, List.forall_mem_cons.mpr ⟨h11, List.forall_mem_cons.mpr ⟨h12, List.forall_mem_cons.mpr ⟨h13, List.forall_mem_cons.mpr ⟨h14, List.forall_mem_cons.mpr ⟨h15, List.forall_mem_cons.mpr ⟨h16, List.forall_mem_cons.mpr ⟨h17, List.forall_mem_cons.mpr ⟨h18, List.forall_mem_cons.mpr ⟨h19, List.forall_mem_cons.mpr ⟨h20, List.forall_mem_cons.mpr ⟨h21, List.forall_mem_cons.mpr ⟨h22, List.forall_mem_cons.mpr ⟨h23, List.forall_mem_cons.mpr ⟨h24, fun _ z => nomatch z⟩⟩⟩⟩⟩⟩⟩⟩⟩⟩⟩⟩⟩⟩⟩⟩⟩⟩⟩⟩⟩⟩⟩⟩⟩
      · intro n d z
        have z' := z
        revert z'
        unfold MP.cns
        intro z'
        rcases List.mem_cons.mp z' with z | z'
        · cases z; exact c0
        · cases z'
      · exact List.forall_mem_cons.mpr ⟨b0, List.forall_mem_cons.mpr ⟨b1, List.forall_mem_cons.mpr ⟨b2, List.forall_mem_cons.mpr ⟨b3, List.forall_mem_cons.mpr ⟨b4, List.forall_mem_cons.mpr ⟨b5, List.forall_mem_cons.mpr ⟨b6, List.forall_mem_cons.mpr ⟨b7, List.forall_mem_cons.mpr ⟨b8, List.forall_mem_cons.mpr ⟨b9, List.forall_mem_cons.mpr ⟨b10, List.forall_mem_cons.mpr ⟨b11, List.forall_mem_cons.mpr ⟨b12, List.forall_mem_cons.mpr ⟨b13, List.forall_mem_cons.mpr ⟨b14, fun _ z => nomatch z⟩⟩⟩⟩⟩⟩⟩⟩⟩⟩⟩⟩⟩⟩⟩
    obtain ⟨fd, hb, hF⟩ := MP.law_mk (P := PySem.Challenge.rw_fewworlds_k04_whole_pairs_followed_and_o.prog) (w := w) T MP.ck_rows (f := 24) rfl rfl rfl rfl 20 hmg
    exact ⟨fd, hb, fun base _ _ => hF base⟩

