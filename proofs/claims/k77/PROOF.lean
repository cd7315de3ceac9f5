import PyProof.Rows.All
import Wide.All
import OpenK.AllK
import Wide.FinOn
import HandS.ForMost
import HandS.Zip
import HandS.IsInst
import HandS.SortInts
import HandS.TupAny
import HandS.Conv
import HandS.Style
import HandS.Deep
import HandS.Flow
import KE.DataEq
import KE.GoesMore
import PySem.Challenge.RW_fewworlds_k77_whole_what_would_and_might
set_option Elab.async false
set_option linter.all false
set_option maxRecDepth 100000
/-! A small language without a heap: what the given texts say, value by value. -/
namespace MP

/-- values: texts by their codes; scr: the script, as it is handed in -/
inductive D where
  | non
  | bl (b : Bool)
  | int (i : Int)
  | str (s : List Nat)
  | tup (xs : List D)
  | lst (xs : List D)
  | scr (xs : List Int)
  | dct (kvs : List (D × D))

/-- how a slot that owns its list may be used: free, a caller's (fix), walked just now (lck) -/
inductive Md where
  | free | fix | lck

inductive Sl where
  | no
  | val (d : D)
  | acc (m : Md) (xs : List D)

abbrev Env := List Sl

inductive W where
  | val (d : D)
  | own (xs : List D)
  | slot (i : Nat)

structure Exc where
  cls : Nat
  fs : List D

inductive R (α : Type) where
  | ok (a : α) (r : Env)
  | exc (x : Exc) (r : Env)
  | no

namespace R
variable {α β : Type}
def bind : R α → (α → Env → R β) → R β
  | ok a r, f => f a r
  | exc x r, _ => exc x r
  | no, _ => no
@[simp] theorem bind_ok (a : α) (r : Env) (f : α → Env → R β) : (ok a r).bind f = f a r := rfl
@[simp] theorem bind_exc (x : Exc) (r : Env) (f : α → Env → R β) : (exc x r : R α).bind f = exc x r := rfl
@[simp] theorem bind_no (f : α → Env → R β) : (no : R α).bind f = no := rfl
def ofO (r : Env) : Option α → R α
  | some a => ok a r
  | none => no
@[simp] theorem ofO_some (r : Env) (a : α) : ofO r (some a) = ok a r := rfl
@[simp] theorem ofO_none (r : Env) : ofO r (none : Option α) = no := rfl
end R

/-! ### slots -/
def gets : Env → Nat → Sl
  | [], _ => .no
  | x :: _, 0 => x
  | _ :: r, n + 1 => gets r n
def sets : Env → Nat → Sl → Env
  | [], _, _ => []
  | _ :: r, 0, y => y :: r
  | x :: r, n + 1, y => x :: sets r n y
def wipes (r : Env) : List Nat → Env
  | [] => r
  | i :: is => sets (wipes r is) i .no
/-- the slots `is` as they were in r0 -/
def backs (r0 : Env) (r : Env) : List Nat → Env
  | [] => r
  | i :: is => sets (backs r0 r is) i (gets r0 i)

/-- what is seen of a result -/
def view (r : Env) : W → Option D
  | .val d => some d
  | .own xs => some (.lst xs)
  | .slot i => match gets r i with
    | .val d => some d
    | .acc _ xs => some (.lst xs)
    | .no => none
def views (r : Env) : List W → Option (List D)
  | [] => some []
  | w :: ws => match view r w, views r ws with
    | some d, some ds => some (d :: ds)
    | _, _ => none
def vals : List W → Option (List D)
  | [] => some []
  | .val d :: ws => (vals ws).map (d :: ·)
  | _ :: _ => none
/-- a result handed on for good: its list is never changed again -/
def take : W → Env → R D
  | .val d, r => .ok d r
  | .own xs, r => .ok (.lst xs) r
  | .slot i, r => match gets r i with
    | .val d => .ok d r
    | .acc .free xs => .ok (.lst xs) (sets r i (.val (.lst xs)))
    | _ => .no

/-! ### operators -/
inductive Op where
  | add | sub | mul | fdiv | mod | pow | shl | shr | band | bor
inductive Cm where
  | eq | ne | lt | le | gt | ge | is_ | isnot | mem | nomem
inductive Ty where
  | int | bool | str | tuple | list | dict
inductive Bi where
  | len | sum | sum2 | all | any | list | tuple | sorted | lenset | sortset | abs | int | min1 | max1 | min2 | max2 | listrange
inductive Me where
  | index | count
inductive Ik where
  | seq | rng1 | rng2 | enum | zip

def LIM : Nat := 1048576
def b2i (b : Bool) : Int := if b then 1 else 0

mutual
/-- == -/
def eqD : D → D → Bool
  | .non, .non => true
  | .bl a, .bl b => a == b
  | .bl a, .int j => b2i a == j
  | .int i, .bl b => i == b2i b
  | .int i, .int j => i == j
  | .str x, .str y => x == y
  | .tup xs, .tup ys => eqDs xs ys
  | .lst xs, .lst ys => eqDs xs ys
  | _, _ => false
def eqDs : List D → List D → Bool
  | [], [] => true
  | x :: xs, y :: ys => eqD x y && eqDs xs ys
  | _, _ => false
end
mutual
/-- neither dicts nor the script within -/
def pln : D → Bool
  | .tup xs => plns xs
  | .lst xs => plns xs
  | .dct _ => false
  | .scr _ => false
  | _ => true
def plns : List D → Bool
  | [] => true
  | x :: xs => pln x && plns xs
end
mutual
def dep : D → Nat
  | .tup xs => deps xs + 1
  | .lst xs => deps xs + 1
  | _ => 0
def deps : List D → Nat
  | [] => 0
  | x :: xs => max (dep x) (deps xs)
end
/-- may be compared by == -/
def eqOk (d e : D) : Bool := pln d && pln e && decide (min (dep d) (dep e) ≤ 64)

def getI : D → Option Int
  | .int i => some i
  | _ => none
def getsI : List D → Option (List Int)
  | [] => some []
  | .int i :: r => (getsI r).map (i :: ·)
  | _ :: _ => none
def getsB : List D → Option (List Bool)
  | [] => some []
  | .bl b :: r => (getsB r).map (b :: ·)
  | _ :: _ => none

def mulOk (i j : Int) : Bool := (decide (-18446744073709551616 < i) && decide (i < 18446744073709551616)) || (decide (-18446744073709551616 < j) && decide (j < 18446744073709551616))
def binOp : Op → D → D → Option W
  | .add, .int i, .int j => some (.val (.int (i + j)))
  | .add, .lst xs, .lst ys => if xs.length + ys.length ≤ LIM then some (.own (xs ++ ys)) else none
  | .add, .tup xs, .tup ys => if xs.length + ys.length ≤ LIM then some (.val (.tup (xs ++ ys))) else none
  | .add, .str x, .str y => if x.length + y.length ≤ LIM then some (.val (.str (x ++ y))) else none
  | .sub, .int i, .int j => some (.val (.int (i - j)))
  | .mul, .int i, .int j => if mulOk i j then some (.val (.int (i * j))) else none
  | .fdiv, .int i, .int j => if 0 < j ∧ j < 1073741824 then some (.val (.int (i / j))) else none
  | .mod, .int i, .int j => if 0 < j then some (.val (.int (i % j))) else none
  | .pow, .int i, .int j => if 0 ≤ j ∧ j ≤ 1000 ∧ i.natAbs < 18446744073709551616 then some (.val (.int (i ^ j.toNat))) else none
  | .shl, .int i, .int j => if 0 ≤ j ∧ j ≤ 1000 ∧ i.natAbs < 18446744073709551616 then some (.val (.int (i * 2 ^ j.toNat))) else none
  | .shr, .int i, .int j => if 0 ≤ j then some (.val (.int (i / 2 ^ j.toNat))) else none
  | _, _, _ => none
def isNon : D → Bool
  | .non => true
  | _ => false
/-- x in ds -/
def memD (x : D) (ds : List D) : Bool := ds.any fun y => eqD y x
def cmpOp : Cm → D → D → Option Bool
  | .eq, d, e => if eqOk d e then some (eqD d e) else none
  | .ne, d, e => if eqOk d e then some (!eqD d e) else none
  | .lt, .int i, .int j => some (decide (i < j))
  | .le, .int i, .int j => some (decide (i ≤ j))
  | .gt, .int i, .int j => some (decide (j < i))
  | .ge, .int i, .int j => some (decide (j ≤ i))
  | .is_, d, .non => some (isNon d)
  | .isnot, d, .non => some (!isNon d)
  | .mem, x, .lst ds => if eqOk (.lst ds) (.lst [x]) then some (memD x ds) else none
  | .mem, x, .tup ds => if eqOk (.tup ds) (.tup [x]) then some (memD x ds) else none
  | .nomem, x, .lst ds => if eqOk (.lst ds) (.lst [x]) then some (!memD x ds) else none
  | .nomem, x, .tup ds => if eqOk (.tup ds) (.tup [x]) then some (!memD x ds) else none
  | _, _, _ => none
def isTy : Ty → D → Option Bool
  | _, .scr _ => none
  | .int, .int _ => some true
  | .int, .bl _ => some true
  | .bool, .bl _ => some true
  | .str, .str _ => some true
  | .tuple, .tup _ => some true
  | .list, .lst _ => some true
  | .dict, .dct _ => some true
  | _, _ => some false

/-- ascending, by insertion -/
def insI (x : Int) : List Int → List Int
  | [] => [x]
  | y :: r => if x ≤ y then x :: y :: r else y :: insI x r
def sortI : List Int → List Int
  | [] => []
  | x :: r => insI x (sortI r)
def nodupI : List Int → Bool
  | [] => true
  | x :: r => !(r.contains x) && nodupI r
def minI : Int → List Int → Int
  | m, [] => m
  | m, x :: r => minI (if x < m then x else m) r
def maxI : Int → List Int → Int
  | m, [] => m
  | m, x :: r => maxI (if x > m then x else m) r
def sumL : List D → List D → Option (List D)
  | acc, [] => some acc
  | acc, .lst xs :: r => if acc.length + xs.length ≤ LIM then sumL (acc ++ xs) r else none
  | _, _ :: _ => none
def items : D → Option (List D)
  | .lst xs => some xs
  | .tup xs => some xs
  | _ => none
def biLen : List D → Option W
  | [.lst xs] => some (.val (.int xs.length))
  | [.tup xs] => some (.val (.int xs.length))
  | [.str xs] => some (.val (.int xs.length))
  | _ => none
def biSum : List D → Option W
  | [.lst xs] => (getsI xs).map fun ns => .val (.int ns.sum)
  | _ => none
def biSum2 : List D → Option W
  | [.lst (x :: xs), .lst ys] => (sumL ys (x :: xs)).map .own
  | _ => none
def biAll : List D → Option W
  | [.lst xs] => (getsB xs).map fun bs => .val (.bl (bs.all id))
  | _ => none
def biAny : List D → Option W
  | [.lst xs] => (getsB xs).map fun bs => .val (.bl (bs.any id))
  | _ => none
def biList : List D → Option W
  | [d] => (items d).map .own
  | _ => none
def biTuple : List D → Option W
  | [.lst xs] => some (.val (.tup xs))
  | [.tup xs] => some (.val (.tup xs))
  | _ => none
def biSorted : List D → Option W
  | [.lst xs] => (getsI xs).map fun ns => .own ((sortI ns).map .int)
  | _ => none
def biLenset : List D → Option W
  | [.lst xs] => (getsI xs).bind fun ns => if nodupI ns && decide (ns.length ≤ 4000) then some (.val (.int ns.length)) else none
  | _ => none
def biAbs : List D → Option W
  | [.int i] => some (.val (.int (if i < 0 then -i else i)))
  | _ => none
def biInt : List D → Option W
  | [.int i] => some (.val (.int i))
  | [.bl b] => some (.val (.int (b2i b)))
  | _ => none
def biMin1 : List D → Option W
  | [.lst xs] => (getsI xs).bind fun
    | [] => none
    | n :: ns => some (.val (.int (minI n ns)))
  | _ => none
def biMax1 : List D → Option W
  | [.lst xs] => (getsI xs).bind fun
    | [] => none
    | n :: ns => some (.val (.int (maxI n ns)))
  | _ => none
def biMin2 : List D → Option W
  | [.int i, .int j] => some (.val (.int (if j < i then j else i)))
  | _ => none
def biMax2 : List D → Option W
  | [.int i, .int j] => some (.val (.int (if j > i then j else i)))
  | _ => none
def biListrange : List D → Option W
  | [.int n] => if n ≤ 1048576 ∧ -1073741824 ≤ n then some (.own ((List.range n.toNat).map fun (k : Nat) => D.int (k : Int))) else none
  | _ => none
def biOp : Bi → List D → Option W
  | .len, ds => biLen ds
  | .sum, ds => biSum ds
  | .sum2, ds => biSum2 ds
  | .all, ds => biAll ds
  | .any, ds => biAny ds
  | .list, ds => biList ds
  | .tuple, ds => biTuple ds
  | .sorted, ds => biSorted ds
  | .lenset, ds => biLenset ds
  | .sortset, _ => none
  | .abs, ds => biAbs ds
  | .int, ds => biInt ds
  | .min1, ds => biMin1 ds
  | .max1, ds => biMax1 ds
  | .min2, ds => biMin2 ds
  | .max2, ds => biMax2 ds
  | .listrange, ds => biListrange ds
/-- the first place of an equal one -/
def findD (x : D) : Nat → List D → Option Nat
  | _, [] => none
  | k, y :: r => if eqD y x then some k else findD x (k + 1) r
def meOp : Me → D → List D → Option W
  | .index, .lst ds, [x] => if eqOk (.lst ds) (.lst [x]) then (findD x 0 ds).map fun k => .val (.int k) else none
  | _, _, _ => none
def enumD : Nat → List D → List D
  | _, [] => []
  | k, x :: r => .tup [.int (k : Int), x] :: enumD (k + 1) r
/-- what is walked -/
def itR1 : List D → Option (List D)
  | [.int n] => if n ≤ 1048576 ∧ -1073741824 ≤ n then some ((List.range n.toNat).map fun (k : Nat) => D.int (0 + (k : Int))) else none
  | _ => none
def itR2 : List D → Option (List D)
  | [.int a, .int b] => if b - a ≤ 1048576 ∧ -1073741824 ≤ a ∧ a ≤ 1073741824 ∧ b ≤ 1073741824 ∧ -1073741824 ≤ b then some ((List.range (b - a).toNat).map fun (k : Nat) => D.int (a + (k : Int))) else none
  | _ => none
def itEnum : List D → Option (List D)
  | [.lst xs] => some (enumD 0 xs)
  | [.tup xs] => some (enumD 0 xs)
  | _ => none
def itZip : List D → Option (List D)
  | [.lst xs, .lst ys] => some (List.zipWith (fun x y => .tup [x, y]) xs ys)
  | [.tup xs, .tup ys] => some (List.zipWith (fun x y => .tup [x, y]) xs ys)
  | _ => none
def itSeq : List D → Option (List D)
  | [d] => items d
  | _ => none
def itOp : Ik → List D → Option (List D)
  | .seq, ds => itSeq ds
  | .rng1, ds => itR1 ds
  | .rng2, ds => itR2 ds
  | .enum, ds => itEnum ds
  | .zip, ds => itZip ds
def ixN (n : Nat) (i : Int) : Option Nat := if 0 ≤ i then (if i < n then some i.toNat else none) else if -(n : Int) ≤ i then some (i + n).toNat else none
def subOp : D → D → Option D
  | .lst xs, .int i => (ixN xs.length i).bind fun k => xs[k]?
  | .tup xs, .int i => (ixN xs.length i).bind fun k => xs[k]?
  | _, _ => none
def sIx (n d : Nat) : Option Int → Nat
  | none => d
  | some i => if i < 0 then (i + n).toNat else min i.toNat n
def cut {α : Type} (xs : List α) (lo hi : Option Int) : List α := (xs.drop (sIx xs.length 0 lo)).take (sIx xs.length xs.length hi - sIx xs.length 0 lo)
def cutOp (lo hi : Option Int) : D → Option W
  | .lst xs => some (.own (cut xs lo hi))
  | .tup xs => some (.val (.tup (cut xs lo hi)))
  | .scr ns => some (.own ((cut ns lo hi).map .int))
  | _ => none

/-! ### syntax -/
/-- targets: a slot, a tuple of targets (tp of a chain) -/
inductive Tg where
  | nm (i : Nat)
  | tp (ts : Tg)
  | nil
  | cons (t ts : Tg)

inductive E where
  | var (i : Nat)
  | lit (d : D)
  | tk (e : E)
  | bin (op : Op) (a b : E)
  | neg (a : E)
  | not (a : E)
  | and (a b : E)
  | or (a b : E)
  | cmp (op : Cm) (a b : E)
  | chain (o1 o2 : Cm) (a b c : E)
  | ite (c a b : E)
  | tup (es : E)
  | list (es : E)
  | sub (a i : E)
  | cut (a lo hi : E)
  | bi (b : Bi) (es : E)
  | meth (m : Me) (o es : E)
  | isi (e : E) (t : Ty)
  | call (f : Nat) (es : E)
  | app (i : Nat) (e : E)
  | ext (i : Nat) (e : E)
  | pop (i : Nat)
  | popAt (i : Nat) (e : E)
  | lc (t : Tg) (k : Ik) (es c x : E) (own : List Nat)
  | nil
  | cons (e es : E)

inductive S where
  | skip
  | seq (a b : S)
  | asn (t : Tg) (e : E)
  | par (t : Tg) (e : E)
  | setix (i : Nat) (e v : E)
  | expr (e : E)
  | ret (e : E)
  | retn
  | ite (c : E) (a b : S)
  | for_ (t : Tg) (k : Ik) (es : E) (b : S)
  | wh (c : E) (b : S)
  | brk
  | dead

inductive Fl where
  | next
  | ret (w : W)
  | brk

/-! ### meaning -/
abbrev CallF := Nat → List Sl → R W

/-- a plain store: a caller's list stays at its name, a walked one too -/
def held : Sl → Bool
  | .acc .fix _ => true
  | .acc .lck _ => true
  | _ => false
def put : Env → Nat → Sl → Option Env
  | [], _, _ => none
  | s :: r, 0, y => if held s then none else some (y :: r)
  | s :: r, n + 1, y => (put r n y).map (s :: ·)
mutual
def asg : Tg → D → Env → Option Env
  | .nm i, d, r => put r i (.val d)
  | .tp ts, .tup ds, r => asgs ts ds r
  | _, _, _ => none
def asgs : Tg → List D → Env → Option Env
  | .nil, [], r => some r
  | .cons t ts, d :: ds, r => match asg t d r with
    | some r' => asgs ts ds r'
    | none => none
  | _, _, _ => none
end
/-- a result put to a name: a new list is the name's own -/
def putW (r : Env) (i : Nat) : W → R Unit
  | .val d => R.ofO r (put r i (.val d)) |>.bind fun r' _ => .ok () r'
  | .own xs => R.ofO r (put r i (.acc .free xs)) |>.bind fun r' _ => .ok () r'
  | .slot j => (take (.slot j) r).bind fun d r1 => R.ofO r1 (put r1 i (.val d)) |>.bind fun r' _ => .ok () r'
def lock1 (r : Env) : W → Env
  | .slot i => match gets r i with
    | .acc _ xs => sets r i (.acc .lck xs)
    | _ => r
  | _ => r
def locks (r : Env) : List W → Env
  | [] => r
  | w :: ws => locks (lock1 r w) ws
/-- the slots of ws with the mode they had in r0 -/
def unlock1 (r0 r : Env) : W → Env
  | .slot i => match gets r0 i, gets r i with
    | .acc m _, .acc .lck xs => sets r i (.acc m xs)
    | _, _ => r
  | _ => r
def unlocks (r0 r : Env) : List W → Env
  | [] => r
  | w :: ws => unlock1 r0 (unlocks r0 r ws) w
def R.unlock {α : Type} (r0 : Env) (ws : List W) : R α → R α
  | .ok a r => .ok a (unlocks r0 r ws)
  | .exc x r => .exc x (unlocks r0 r ws)
  | .no => .no

/-- an argument as the callee's slot -/
def argS (r : Env) : W → Option Sl
  | .val d => some (.val d)
  | .own _ => none
  | .slot i => match gets r i with
    | .acc .free xs => some (.acc .fix xs)
    | .acc .fix xs => some (.acc .fix xs)
    | _ => none
def argsS (r : Env) : List W → Option (List Sl)
  | [] => some []
  | w :: ws => match argS r w, argsS r ws with
    | some s, some ss => some (s :: ss)
    | _, _ => none
def slotsOf : List W → List Nat
  | [] => []
  | .slot i :: ws => i :: slotsOf ws
  | _ :: ws => slotsOf ws
def nodupN : List Nat → Bool
  | [] => true
  | x :: r => !(r.contains x) && nodupN r
/-- the callee's lists, back in the caller's slots -/
def backArgs : List W → List Sl → Env → Env
  | .slot i :: ws, .acc _ xs :: ss, r => match gets r i with
    | .acc m _ => backArgs ws ss (sets r i (.acc m xs))
    | _ => backArgs ws ss r
  | _ :: ws, _ :: ss, r => backArgs ws ss r
  | _, _, r => r
def R.back (ws : List W) (r : Env) : R W → R W
  | .ok (.slot _) _ => .no
  | .ok w out => .ok w (backArgs ws out r)
  | .exc x out => .exc x (backArgs ws out r)
  | .no => .no

/-- one item of a comprehension at a time -/
def compL (step : D → Env → R (Option D)) : List D → List D → Env → R (List D)
  | [], out, r => .ok out r
  | x :: xs, out, r => (step x r).bind fun y r' => match y with
    | some d => compL step xs (out ++ [d]) r'
    | none => compL step xs out r'
def forL (step : D → Env → R Fl) : List D → Env → R Fl
  | [], r => .ok .next r
  | x :: xs, r => (step x r).bind fun f r' => match f with
    | .next => forL step xs r'
    | .brk => .ok .next r'
    | .ret w => .ok (.ret w) r'
def whL (test : Env → R Bool) (step : Env → R Fl) : Nat → Env → R Fl
  | 0, _ => .no
  | n + 1, r => (test r).bind fun b r1 => match b with
    | true => (step r1).bind fun f r2 => match f with
      | .next => whL test step n r2
      | .brk => .ok .next r2
      | .ret w => .ok (.ret w) r2
    | false => .ok .next r1

def vw {β : Type} (r : Env) (w : W) (f : D → R β) : R β := match view r w with
  | some d => f d
  | none => .no
/-- a part of a slice; nil: left out -/
def R.part : E → (Unit → R W) → Env → R (Option Int)
  | .nil, _, r => .ok none r
  | _, f, _ => (f ()).bind fun w r => match w with
    | .val (.int i) => .ok (some i) r
    | _ => .no
def asB (w : W) (r : Env) : R Bool := match w with
  | .val (.bl b) => .ok b r
  | _ => .no
/-- the list that slot i owns, to be changed -/
def mutL {β : Type} (r : Env) (i : Nat) (f : Md → List D → R β) : R β := match gets r i with
  | .acc .free xs => f .free xs
  | .acc .fix xs => f .fix xs
  | _ => .no

section
variable (C : CallF)
mutual
def ev : E → Env → R W
  | .var i, r => match gets r i with
    | .val d => .ok (.val d) r
    | .acc _ _ => .ok (.slot i) r
    | .no => .no
  | .lit d, r => .ok (.val d) r
  | .tk e, r => (ev e r).bind fun w r1 => (take w r1).bind fun d r2 => .ok (.val d) r2
  | .bin op a b, r => (ev a r).bind fun x r1 => (ev b r1).bind fun y r2 => vw r2 x fun d => vw r2 y fun e => R.ofO r2 (binOp op d e)
  | .neg a, r => (ev a r).bind fun x r1 => match x with
    | .val (.int i) => .ok (.val (.int (-i))) r1
    | _ => .no
  | .not a, r => (ev a r).bind fun x r1 => (asB x r1).bind fun b r2 => .ok (.val (.bl (!b))) r2
  | .and a b, r => (ev a r).bind fun x r1 => (asB x r1).bind fun c r2 => match c with
    | true => ev b r2
    | false => .ok (.val (.bl false)) r2
  | .or a b, r => (ev a r).bind fun x r1 => (asB x r1).bind fun c r2 => match c with
    | true => .ok (.val (.bl true)) r2
    | false => ev b r2
  | .cmp op a b, r => (ev a r).bind fun x r1 => (ev b r1).bind fun y r2 => vw r2 x fun d => vw r2 y fun e => (R.ofO r2 (cmpOp op d e)).bind fun c r3 => .ok (.val (.bl c)) r3
  | .chain o1 o2 a b c, r => (ev a r).bind fun x r1 => (ev b r1).bind fun y r2 => vw r2 x fun d => vw r2 y fun e => (R.ofO r2 (cmpOp o1 d e)).bind fun t r3 => match t with
    | true => (ev c r3).bind fun z r4 => vw r4 y fun e' => vw r4 z fun g => (R.ofO r4 (cmpOp o2 e' g)).bind fun t r5 => .ok (.val (.bl t)) r5
    | false => .ok (.val (.bl false)) r3
  | .ite c a b, r => (ev c r).bind fun x r1 => (asB x r1).bind fun t r2 => match t with
    | true => ev a r2
    | false => ev b r2
  | .tup es, r => (evs es r).bind fun ws r1 => R.ofO r1 ((vals ws).map fun ds => .val (.tup ds))
  | .list es, r => (evs es r).bind fun ws r1 => R.ofO r1 ((vals ws).map .own)
  | .sub a i, r => (ev a r).bind fun x r1 => (ev i r1).bind fun y r2 => vw r2 x fun d => vw r2 y fun e => R.ofO r2 ((subOp d e).map .val)
  | .cut a lo hi, r => (ev a r).bind fun x r1 => (R.part lo (fun _ => ev lo r1) r1).bind fun l r2 => (R.part hi (fun _ => ev hi r2) r2).bind fun h r3 => vw r3 x fun d => R.ofO r3 (cutOp l h d)
  | .bi b es, r => (evs es r).bind fun ws r1 => match views r1 ws with
    | some ds => R.ofO r1 (biOp b ds)
    | none => .no
  | .meth m o es, r => (ev o r).bind fun x r1 => (evs es r1).bind fun ws r2 => vw r2 x fun d => match views r2 ws with
    | some ds => R.ofO r2 (meOp m d ds)
    | none => .no
  | .isi e t, r => (ev e r).bind fun x r1 => vw r1 x fun d => R.ofO r1 ((isTy t d).map fun b => .val (.bl b))
  | .call f es, r => (evs es r).bind fun ws r1 => match argsS r1 ws with
    | some ss => if nodupN (slotsOf ws) then (C f ss).back ws r1 else .no
    | none => .no
  | .app i e, r => mutL r i fun _ _ => (ev e r).bind fun x r1 => match x with
    | .val d => mutL r1 i fun m xs => if xs.length < LIM then .ok (.val .non) (sets r1 i (.acc m (xs ++ [d]))) else .no
    | _ => .no
  | .ext i e, r => mutL r i fun _ _ => (ev e r).bind fun x r1 => vw r1 x fun d => match d with
    | .lst ys => mutL r1 i fun m xs => if xs.length + ys.length ≤ LIM then .ok (.val .non) (sets r1 i (.acc m (xs ++ ys))) else .no
    | _ => .no
  | .pop i, r => mutL r i fun m xs => match xs.getLast? with
    | some d => .ok (.val d) (sets r i (.acc m xs.dropLast))
    | none => .no
  | .popAt i e, r => mutL r i fun _ _ => (ev e r).bind fun x r1 => match x with
    | .val (.int k) => mutL r1 i fun m xs => match (ixN xs.length k).bind fun j => (xs[j]?).map fun d => (j, d) with
      | some (j, d) => .ok (.val d) (sets r1 i (.acc m (xs.eraseIdx j)))
      | none => .no
    | _ => .no
  | .lc t k es c x own, r => (evs es r).bind fun ws r1 => match (views r1 ws).bind (itOp k) with
    | some ds => ((compL (fun d r2 => match asg t d r2 with
        | some r3 => (ev c r3).bind fun y r4 => (asB y r4).bind fun b r5 => match b with
          | true => (ev x r5).bind fun z r6 => match z with
            | .val d' => .ok (some d') (wipes r6 own)
            | _ => .no
          | false => .ok none (wipes r5 own)
        | none => .no) ds [] (wipes (locks r1 ws) own)).bind fun out r7 => .ok (.own out) (backs (locks r1 ws) r7 own)).unlock r1 ws
    | none => .no
  | .nil, _ => .no
  | .cons _ _, _ => .no
def evs : E → Env → R (List W)
  | .nil, r => .ok [] r
  | .cons e es, r => (ev e r).bind fun w r1 => (evs es r1).bind fun ws r2 => .ok (w :: ws) r2
  | _, _ => .no
end
def test (c : E) (r : Env) : R Bool := (ev C c r).bind asB
/-- how long a while may go -/
def WN : Nat := 100000
/-- several results to several targets, from the left -/
def putWs : Tg → List W → Env → R Unit
  | .nil, [], r => .ok () r
  | .cons (.nm i) ts, w :: ws, r => if (slotsOf ws).contains i then .no else (putW r i w).bind fun _ r1 => putWs ts ws r1
  | .cons (.tp t) ts, .val d :: ws, r => if (slotsOf ws).isEmpty then (R.ofO r (asg (.tp t) d r)).bind fun r' _ => putWs ts ws r' else .no
  | _, _, _ => .no
def ex : S → Env → R Fl
  | .skip, r => .ok .next r
  | .seq a b, r => (ex a r).bind fun f r1 => match f with
    | .next => ex b r1
    | .ret w => .ok (.ret w) r1
    | .brk => .ok .brk r1
  | .asn t e, r => (ev C e r).bind fun w r1 => match t with
    | .nm i => (putW r1 i w).bind fun _ r2 => .ok .next r2
    | t => vw r1 w fun d => match d with
      | .tup _ => (R.ofO r1 (asg t d r1)).bind fun r' _ => .ok .next r'
      | _ => .no
  | .par t es, r => (evs C es r).bind fun ws r1 => (putWs t ws r1).bind fun _ r2 => .ok .next r2
  | .setix i e v, r => (ev C v r).bind fun x r1 => mutL r1 i fun _ _ => (ev C e r1).bind fun y r2 => match x, y with
    | .val d, .val (.int k) => mutL r2 i fun m xs => match ixN xs.length k with
      | some j => .ok .next (sets r2 i (.acc m (xs.set j d)))
      | none => .no
    | _, _ => .no
  | .expr e, r => (ev C e r).bind fun _ r1 => .ok .next r1
  | .ret e, r => (ev C e r).bind fun w r1 => .ok (.ret w) r1
  | .retn, r => .ok (.ret (.val .non)) r
  | .ite c a b, r => (test C c r).bind fun t r1 => match t with
    | true => ex a r1
    | false => ex b r1
  | .for_ t k es b, r => (evs C es r).bind fun ws r1 => match (views r1 ws).bind (itOp k) with
    | some ds => (forL (fun d r2 => match asg t d r2 with
        | some r3 => ex b r3
        | none => .no) ds (locks r1 ws)).unlock r1 ws
    | none => .no
  | .wh c b, r => whL (test C c) (ex b) WN r
  | .brk, r => .ok .brk r
  | .dead, _ => .no
end

/-- a def: how many parameters, how many slots, its body -/
structure Fn where
  n : Nat
  m : Nat
  b : S

/-- the parameters behind a call: lists that were handed in as the callee left them -/
def outsF (r : Env) : Nat → List Sl → List Sl
  | _, [] => []
  | i, .acc _ _ :: ss => gets r i :: outsF r (i + 1) ss
  | i, s :: ss => s :: outsF r (i + 1) ss
def outs (ss : List Sl) (r : Env) : List Sl := outsF r 0 ss
/-- what is handed back -/
def outW (w : W) (r : Env) : R W := match w with
  | .slot i => match gets r i with
    | .val d => .ok (.val d) r
    | .acc .free xs => .ok (.own xs) (sets r i .no)
    | _ => .no
  | w => .ok w r
def R.fin (ss : List Sl) : R Fl → R W
  | .ok (.ret w) r => (outW w r).bind fun w' r' => .ok w' (outs ss r')
  | .ok .next r => .ok (.val .non) (outs ss r)
  | .ok .brk _ => .no
  | .exc x r => .exc x (outs ss r)
  | .no => .no
def callF (P : Nat → Option Fn) : Nat → CallF
  | 0 => fun _ _ => .no
  | n + 1 => fun f ss => match P f with
    | some fn => if ss.length = fn.n then (ex (callF P n) fn.b (ss ++ List.replicate (fn.m - fn.n) .no)).fin ss else .no
    | none => .no

end MP

/-! How the values of MP lie in the abstract heap of the hand layer. -/
namespace MP
open PySem PySem.Spec PyProof.Rows L2

/-! ### slots -/
theorem gets_sets_same : ∀ {r : Env} {i : Nat} {s : Sl}, i < r.length → gets (sets r i s) i = s
  | [], _, _, h => absurd h (Nat.not_lt_zero _)
  | _ :: _, 0, _, _ => rfl
  | _ :: r, i + 1, _, h => gets_sets_same (r := r) (i := i) (Nat.lt_of_succ_lt_succ h)
theorem gets_sets_ne : ∀ {r : Env} {i j : Nat} {s : Sl}, j ≠ i → gets (sets r i s) j = gets r j
  | [], _, _, _, _ => rfl
  | _ :: _, 0, 0, _, h => absurd rfl h
  | _ :: _, 0, _ + 1, _, _ => rfl
  | _ :: _, _ + 1, 0, _, _ => rfl
  | _ :: r, i + 1, j + 1, _, h => gets_sets_ne (r := r) (i := i) (j := j) (fun e => h (congrArg _ e))
theorem sets_length : ∀ {r : Env} {i : Nat} {s : Sl}, (sets r i s).length = r.length
  | [], _, _ => rfl
  | _ :: _, 0, _ => rfl
  | _ :: r, i + 1, _ => congrArg (· + 1) (sets_length (r := r) (i := i))
theorem gets_lt : ∀ {r : Env} {i : Nat}, gets r i ≠ .no → i < r.length
  | [], _, h => absurd rfl h
  | _ :: _, 0, _ => Nat.succ_pos _
  | _ :: r, i + 1, h => Nat.succ_lt_succ (gets_lt (r := r) (i := i) h)

/-- the script: locked, or of the written part -/
def ScrAt (K : PySem.W.Frag) (H : Hp) (a : Addr) (xs : List V) : Prop := (∃ o, H a = some (.frz o (.lst xs))) ∨ SqL K (fun _ => none) a xs
theorem ScrAt.sq {K : PySem.W.Frag} {H : Hp} {a : Addr} {xs : List V} (h : ScrAt K H a xs) : SqL K H a xs := by
  rcases h with ⟨o, h⟩ | (h | ⟨o, h⟩) | h
  · exact .inl (.inr ⟨o, h⟩)
  · cases h
  · cases h
  · exact .inr h
theorem ScrAt.of {K : PySem.W.Frag} {H : Hp} {a : Addr} {xs : List V} (hO : Only H) (h : SqL K H a xs) : ScrAt K H a xs := by
  rcases h with (h | ⟨o, h⟩) | h
  · rcases hO a with z | ⟨o, ys, z⟩
    · rw [z] at h; cases h
    · rw [z] at h; cases h
  · exact .inl ⟨o, h⟩
  · exact .inr (.inr h)
/-! ### values in the heap; N: addresses that a value never comes to -/
mutual
inductive Rep (K : PySem.W.Frag) (H : Hp) (N : Addr → Prop) : V → D → Prop
  | non : Rep K H N .non .non
  | bl (b : Bool) : Rep K H N (.bl b) (.bl b)
  | int (i : Int) : Rep K H N (.int i) (.int i)
  | str (s : List Nat) : s.length ≤ LIM → Rep K H N (.str ⟨s.toArray⟩) (.str s)
  | tup {a : Addr} {vs : List V} {ds : List D} : SqT K H a vs → Reps K H N vs ds → ds.length ≤ sizeLine → Rep K H N (.ref a) (.tup ds)
  | lst {a : Addr} {vs : List V} {ds : List D} : ¬ N a → H a = some (.lst vs) → Reps K H N vs ds → ds.length ≤ sizeLine → Rep K H N (.ref a) (.lst ds)
  | scr {a : Addr} {ns : List Int} : ScrAt K H a (ns.map V.int) → ns.length ≤ sizeLine → Rep K H N (.ref a) (.scr ns)
inductive Reps (K : PySem.W.Frag) (H : Hp) (N : Addr → Prop) : List V → List D → Prop
  | nil : Reps K H N [] []
  | cons {v : V} {vs : List V} {d : D} {ds : List D} : Rep K H N v d → Reps K H N vs ds → Reps K H N (v :: vs) (d :: ds)
end

/-- M: what may change; it is lists, and nothing comes to it -/
structure Stab (H H' : Hp) (M N N' : Addr → Prop) : Prop where
  frame : ∀ b o, H b = some o → ¬ M b → H' b = some o
  lists : ∀ b, M b → ∃ xs, H b = some (.lst xs)
  sub : ∀ b, M b → N b
  new : ∀ b, N' b → N b ∨ H b = none

section
variable {K : PySem.W.Frag} {H H' : Hp} {M N N' : Addr → Prop}
theorem Stab.rd (st : Stab H H' M N N') {a : Addr} {vs : List V} (h : SqT K H a vs) : SqT K H' a vs := by
  have nM : ∀ u, H a = some u → (∀ xs, u ≠ .lst xs) → ¬ M a := fun u e ne m => by
    obtain ⟨xs, e'⟩ := st.lists a m
    rw [e] at e'
    exact ne xs (Option.some.inj e')
  rcases h with (h | ⟨o, h⟩) | h
  · exact .inl (.inl (st.frame a _ h (nM _ h fun _ z => nomatch z)))
  · exact .inl (.inr ⟨o, st.frame a _ h (nM _ h fun _ z => nomatch z)⟩)
  · exact .inr h
theorem Stab.notN (st : Stab H H' M N N') {a : Addr} {o : HO} (h : H a = some o) (n : ¬ N a) : ¬ N' a := fun z => by
  rcases st.new a z with z | z
  · exact n z
  · rw [h] at z; cases z
theorem Stab.notM (st : Stab H H' M N N') {a : Addr} (n : ¬ N a) : ¬ M a := fun z => n (st.sub a z)
mutual
theorem Rep.stab (st : Stab H H' M N N') : ∀ {v : V} {d : D}, Rep K H N v d → Rep K H' N' v d
  | _, .non, h => by cases h; exact .non
  | _, .bl b, h => by cases h; exact .bl b
  | _, .int i, h => by cases h; exact .int i
  | _, .str s, h => by cases h with | str _ l => exact .str s l
  | _, .tup ds, h => by
    cases h with
    | tup h1 h2 h3 => exact .tup (st.rd h1) (Reps.stab st h2) h3
  | _, .lst ds, h => by
    cases h with
    | lst h0 h1 h2 h3 => exact .lst (st.notN h1 h0) (st.frame _ _ h1 (st.notM h0)) (Reps.stab st h2) h3
  | _, .scr ns, h => by
    cases h with
    | scr h1 h2 =>
      rcases h1 with ⟨o, h1⟩ | h1
      · refine .scr (.inl ⟨o, st.frame _ _ h1 fun m => ?_⟩) h2
        obtain ⟨xs, e⟩ := st.lists _ m
        rw [h1] at e; cases e
      · exact .scr (.inr h1) h2
  | _, .dct _, h => by cases h
theorem Reps.stab (st : Stab H H' M N N') : ∀ {vs : List V} {ds : List D}, Reps K H N vs ds → Reps K H' N' vs ds
  | _, [], h => by cases h; exact .nil
  | _, d :: ds, h => by
    cases h with
    | cons h1 h2 => exact .cons (Rep.stab st h1) (Reps.stab st h2)
end
theorem Rep.anti {v : V} {d : D} (h : Rep K H N v d) (hn : ∀ b, N' b → N b) : Rep K H N' v d :=
  Rep.stab (M := fun _ => False) ⟨fun _ _ e _ => e, fun _ z => z.elim, fun _ z => z.elim, fun b z => .inl (hn b z)⟩ h
theorem Reps.anti {vs : List V} {ds : List D} (h : Reps K H N vs ds) (hn : ∀ b, N' b → N b) : Reps K H N' vs ds :=
  Reps.stab (M := fun _ => False) ⟨fun _ _ e _ => e, fun _ z => z.elim, fun _ z => z.elim, fun b z => .inl (hn b z)⟩ h
/-- where nothing is changed -/
theorem Stab.grow (k : ∀ b o, H b = some o → H' b = some o) (hn : ∀ b, N' b → N b ∨ H b = none) : Stab H H' (fun _ => False) N N' := ⟨fun b o e _ => k b o e, fun _ z => z.elim, fun _ z => z.elim, hn⟩
theorem Reps.length : ∀ {vs : List V} {ds : List D}, Reps K H N vs ds → vs.length = ds.length
  | _, [], h => by cases h; rfl
  | _, d :: ds, h => by
    cases h with
    | cons h1 h2 => exact congrArg (· + 1) (Reps.length h2)
theorem Reps.append : ∀ {vs us : List V} {ds es : List D}, Reps K H N vs ds → Reps K H N us es → Reps K H N (vs ++ us) (ds ++ es)
  | _, _, [], _, h, g => by cases h; exact g
  | _, _, d :: ds, _, h, g => by
    cases h with
    | cons h1 h2 => exact .cons h1 (Reps.append h2 g)
theorem Reps.get : ∀ {vs : List V} {ds : List D} {k : Nat} {d : D}, Reps K H N vs ds → ds[k]? = some d → ∃ v, vs[k]? = some v ∧ Rep K H N v d
  | _, [], _, _, _, e => by simp at e
  | _, d :: ds, 0, _, h, e => by
    cases h with
    | cons h1 h2 => simp at e; subst e; exact ⟨_, rfl, h1⟩
  | _, d :: ds, k + 1, _, h, e => by
    cases h with
    | cons h1 h2 => exact Reps.get (k := k) h2 (by simpa using e)
theorem Reps.set : ∀ {vs : List V} {ds : List D} (k : Nat) {v : V} {d : D}, Rep K H N v d → Reps K H N vs ds → Reps K H N (vs.set k v) (ds.set k d)
  | _, [], _, _, _, _, h => by cases h; exact .nil
  | _, _ :: ds, 0, _, _, r, h => by
    cases h with
    | cons h1 h2 => exact .cons r h2
  | _, _ :: ds, k + 1, _, _, r, h => by
    cases h with
    | cons h1 h2 => exact .cons h1 (Reps.set k r h2)
theorem Reps.erase : ∀ {vs : List V} {ds : List D} (k : Nat), Reps K H N vs ds → Reps K H N (vs.eraseIdx k) (ds.eraseIdx k)
  | _, [], _, h => by cases h; exact .nil
  | _, _ :: ds, 0, h => by
    cases h with
    | cons h1 h2 => exact h2
  | _, _ :: ds, k + 1, h => by
    cases h with
    | cons h1 h2 => exact .cons h1 (Reps.erase k h2)
theorem Reps.take : ∀ {vs : List V} {ds : List D} (k : Nat), Reps K H N vs ds → Reps K H N (vs.take k) (ds.take k)
  | _, _, 0, _ => .nil
  | _, [], _ + 1, h => by cases h; exact .nil
  | _, _ :: ds, k + 1, h => by
    cases h with
    | cons h1 h2 => exact .cons h1 (Reps.take k h2)
theorem Reps.drop : ∀ {vs : List V} {ds : List D} (k : Nat), Reps K H N vs ds → Reps K H N (vs.drop k) (ds.drop k)
  | _, _, 0, h => h
  | _, [], _ + 1, h => by cases h; exact .nil
  | _, _ :: ds, k + 1, h => by
    cases h with
    | cons h1 h2 => exact Reps.drop k h2
theorem Reps.dropLast : ∀ {vs : List V} {ds : List D}, Reps K H N vs ds → Reps K H N vs.dropLast ds.dropLast := fun {vs ds} h => by
  rw [List.dropLast_eq_take, List.dropLast_eq_take, h.length]
  exact h.take _
theorem Reps.ints : ∀ {ns : List Int}, Reps K H N (ns.map V.int) (ns.map D.int)
  | [] => .nil
  | n :: ns => .cons (.int n) Reps.ints
end

/-! ### what the slots hold -/
def Acc (σ : L2.St) (r : Env) (a : Addr) : Prop := ∃ i m xs, gets r i = .acc m xs ∧ σ[i]? = some (some (.ref a))
/-- what may be changed -/
def Mu (σ : L2.St) (r : Env) (a : Addr) : Prop := ∃ i m xs, gets r i = .acc m xs ∧ m ≠ .lck ∧ σ[i]? = some (some (.ref a))
theorem Mu.acc {σ : L2.St} {r : Env} {a : Addr} : Mu σ r a → Acc σ r a := fun ⟨i, m, xs, h, _, e⟩ => ⟨i, m, xs, h, e⟩
/-- nothing that a name holds comes to T or to a list that another name owns -/
structure ER (K : PySem.W.Frag) (H : Hp) (T : Addr → Prop) (σ : L2.St) (r : Env) : Prop where
  len : σ.length = r.length
  val : ∀ i d, gets r i = .val d → ∃ v, σ[i]? = some (some v) ∧ Rep K H (fun b => T b ∨ Acc σ r b) v d
  acc : ∀ i m xs, gets r i = .acc m xs → ∃ a vs, σ[i]? = some (some (.ref a)) ∧ ¬ T a ∧ H a = some (.lst vs) ∧ Reps K H (fun b => T b ∨ Acc σ r b) vs xs ∧ xs.length ≤ sizeLine
  inj : ∀ i j m m' xs ys a, gets r i = .acc m xs → gets r j = .acc m' ys → σ[i]? = some (some (.ref a)) → σ[j]? = some (some (.ref a)) → i = j
  tal : ∀ a, T a → H a ≠ none

def ownA : W → V → List Addr
  | .own _, .ref a => [a]
  | _, _ => []
def owns : List W → List V → List Addr
  | w :: ws, v :: vs => ownA w v ++ owns ws vs
  | _, _ => []
/-- T and the new lists among the results -/
def Tw (T : Addr → Prop) (ws : List W) (vs : List V) : Addr → Prop := fun b => T b ∨ b ∈ owns ws vs
def WR (K : PySem.W.Frag) (H : Hp) (T : Addr → Prop) (σ : L2.St) (r : Env) : W → V → Prop
  | .val d, v => Rep K H (fun b => T b ∨ Acc σ r b) v d
  | .own xs, v => ∃ a vs, v = .ref a ∧ T a ∧ H a = some (.lst vs) ∧ Reps K H (fun b => T b ∨ Acc σ r b) vs xs ∧ xs.length ≤ sizeLine
  | .slot i, v => σ[i]? = some (some v)
inductive WRs (K : PySem.W.Frag) (H : Hp) (T : Addr → Prop) (σ : L2.St) (r : Env) : List W → List V → Prop
  | nil : WRs K H T σ r [] []
  | cons {w : W} {v : V} {ws : List W} {vs : List V} : WR K H T σ r w v → WRs K H T σ r ws vs → WRs K H T σ r (w :: ws) (v :: vs)

/-- from (H, σ, r) on: the results ws at vs, behind them (H', σ', r') -/
structure Po (K : PySem.W.Frag) (H : Hp) (T : Addr → Prop) (σ : L2.St) (r : Env) (σ' : L2.St) (r' : Env) (ws : List W) (vs : List V) (H' : Hp) : Prop where
  t0 : ∀ a, T a → H a ≠ none
  frame : ∀ b o, H b = some o → ¬ Mu σ r b → H' b = some o
  pers : ∀ b, H b ≠ none → H' b ≠ none
  env : ER K H' (Tw T ws vs) σ' r'
  res : WRs K H' (Tw T ws vs) σ' r' ws vs
  fresh : ∀ b ∈ owns ws vs, H b = none
  nd : (owns ws vs).Nodup
  news : ∀ a, Acc σ' r' a → Acc σ r a ∨ H a = none
  mun : ∀ a, Mu σ' r' a → Mu σ r a ∨ H a = none
  keep : ∀ i m xs, gets r i = .acc m xs → m ≠ .free → (∃ ys, gets r' i = .acc m ys ∧ (m = .lck → ys = xs)) ∧ σ'[i]? = σ[i]?

section
variable {K : PySem.W.Frag} {H H' H1 H2 : Hp} {T T' : Addr → Prop} {σ σ' σ1 σ2 : L2.St} {r r' r1 r2 : Env} {ws us : List W} {vs zs : List V} {w : W} {v : V}
theorem ER.lists (h : ER K H T σ r) : ∀ b, Mu σ r b → ∃ xs, H b = some (.lst xs) := fun b ⟨i, m, xs, e, _, e2⟩ => by
  obtain ⟨a, vs, e3, _, e4, _⟩ := h.acc i m xs e
  rw [e2] at e3; cases e3
  exact ⟨vs, e4⟩
theorem ER.accT (h : ER K H T σ r) {a : Addr} (x : Acc σ r a) : ¬ T a ∧ H a ≠ none := by
  obtain ⟨i, m, xs, e, e2⟩ := x
  obtain ⟨a', vs, e3, n, e4, _⟩ := h.acc i m xs e
  rw [e2] at e3; cases e3
  exact ⟨n, by rw [e4]; simp⟩
theorem ER.sub (h : ER K H T σ r) (hT : ∀ b, T' b → T b) : ER K H T' σ r :=
  ⟨h.len, fun i d e => let ⟨v, e1, e2⟩ := h.val i d e; ⟨v, e1, e2.anti fun b z => z.imp (hT b) id⟩,
    fun i m xs e => let ⟨a, vs, e1, e2, e3, e4, e5⟩ := h.acc i m xs e; ⟨a, vs, e1, fun z => e2 (hT a z), e3, e4.anti fun b z => z.imp (hT b) id, e5⟩, h.inj, fun a z => h.tal a (hT a z)⟩
/-- the heap has grown -/
theorem ER.grow (h : ER K H T σ r) (k : ∀ b o, H b = some o → H' b = some o) (hn : ∀ b, T' b → T b ∨ H b = none) (ht : ∀ b, T' b → H' b ≠ none) : ER K H' T' σ r := by
  have hN : ∀ b, (T' b ∨ Acc σ r b) → (T b ∨ Acc σ r b) ∨ H b = none := fun b z => by
    rcases z with z | z
    · rcases hn b z with z | z
      · exact .inl (.inl z)
      · exact .inr z
    · exact .inl (.inr z)
  refine ⟨h.len, fun i d e => let ⟨v, e1, e2⟩ := h.val i d e; ⟨v, e1, Rep.stab (.grow k hN) e2⟩, fun i m xs e => ?_, h.inj, ht⟩
  obtain ⟨a, vs, e1, e2, e3, e4, e5⟩ := h.acc i m xs e
  refine ⟨a, vs, e1, fun z => ?_, k a _ e3, Reps.stab (.grow k hN) e4, e5⟩
  rcases hn a z with z | z
  · exact e2 z
  · rw [e3] at z; cases z
theorem owns_app : ∀ {ws us : List W} {vs zs : List V}, ws.length = vs.length → owns (ws ++ us) (vs ++ zs) = owns ws vs ++ owns us zs
  | [], _, [], _, _ => rfl
  | w :: ws, us, v :: vs, zs, h => by
    show ownA w v ++ owns (ws ++ us) (vs ++ zs) = (ownA w v ++ owns ws vs) ++ owns us zs
    rw [owns_app (by simpa using h), List.append_assoc]
  | [], _, _ :: _, _, h => by simp at h
  | _ :: _, _, [], _, h => by simp at h
theorem WRs.length : ∀ {ws : List W} {vs : List V}, WRs K H T σ r ws vs → ws.length = vs.length
  | _, _, .nil => rfl
  | _, _, .cons _ h => congrArg (· + 1) (WRs.length h)
theorem WRs.append : ∀ {ws us : List W} {vs zs : List V}, WRs K H T σ r ws vs → WRs K H T σ r us zs → WRs K H T σ r (ws ++ us) (vs ++ zs)
  | _, _, _, _, .nil, g => g
  | _, _, _, _, .cons h t, g => .cons h (WRs.append t g)
theorem Tw_nil : Tw T [] [] = T := funext fun b => propext ⟨fun h => h.elim id fun z => absurd (show b ∈ ([] : List Addr) from z) (by simp), .inl⟩
theorem Tw_app (h : ws.length = vs.length) : Tw (Tw T ws vs) us zs = Tw T (ws ++ us) (vs ++ zs) := funext fun b => propext (by
  unfold Tw
  rw [owns_app h, List.mem_append, or_assoc])
/-- results a step later -/
theorem WR.stab (h : WR K H T σ r w v) (E : ER K H T σ r) (frame : ∀ b o, H b = some o → ¬ Mu σ r b → H' b = some o) (news : ∀ a, Acc σ' r' a → Acc σ r a ∨ H a = none) (hT : ∀ b, T b → T' b) (hn : ∀ b, T' b → T b ∨ H b = none)
    (hs : ∀ i, w = .slot i → σ'[i]? = σ[i]?) : WR K H' T' σ' r' w v := by
  have st : Stab H H' (Mu σ r) (fun b => T b ∨ Acc σ r b) (fun b => T' b ∨ Acc σ' r' b) := ⟨frame, E.lists, fun b z => .inr z.acc, fun b z => by
    rcases z with z | z
    · rcases hn b z with z | z
      · exact .inl (.inl z)
      · exact .inr z
    · rcases news b z with z | z
      · exact .inl (.inr z)
      · exact .inr z⟩
  cases w with
  | val d => exact Rep.stab st h
  | own xs =>
    obtain ⟨a, vs, e, t, e1, e2, e3⟩ := h
    exact ⟨a, vs, e, hT a t, frame a _ e1 (fun z => (E.accT z.acc).1 t), Reps.stab st e2, e3⟩
  | slot i => exact (hs i rfl).trans h
theorem WRs.stab : ∀ {ws : List W} {vs : List V}, WRs K H T σ r ws vs → ER K H T σ r → (∀ b o, H b = some o → ¬ Mu σ r b → H' b = some o) → (∀ a, Acc σ' r' a → Acc σ r a ∨ H a = none) → (∀ b, T b → T' b) → (∀ b, T' b → T b ∨ H b = none) →
    (∀ i, W.slot i ∈ ws → σ'[i]? = σ[i]?) → WRs K H' T' σ' r' ws vs
  | _, _, .nil, _, _, _, _, _, _ => .nil
  | _, _, .cons h t, E, f, n, hT, hn, hs => .cons (h.stab E f n hT hn fun i e => hs i (by rw [e]; exact List.mem_cons_self)) (t.stab E f n hT hn fun i e => hs i (List.mem_cons_of_mem _ e))

theorem Po.refl (E : ER K H T σ r) : Po K H T σ r σ r [] [] H where
  t0 := E.tal
  frame := fun _ _ e _ => e
  pers := fun _ h => h
  env := by rw [Tw_nil]; exact E
  res := .nil
  fresh := fun _ z => by cases z
  nd := List.nodup_nil
  news := fun _ z => .inl z
  mun := fun _ z => .inl z
  keep := fun i m xs e _ => ⟨⟨xs, e, fun _ => rfl⟩, rfl⟩
theorem Po.trans (p : Po K H T σ r σ1 r1 ws vs H1) (q : Po K H1 (Tw T ws vs) σ1 r1 σ2 r2 us zs H2) (hs : ∀ i, W.slot i ∈ ws → σ2[i]? = σ1[i]?) : Po K H T σ r σ2 r2 (ws ++ us) (vs ++ zs) H2 := by
  have hl := p.res.length
  have back : ∀ b, H1 b = none → H b = none := fun b e => Classical.byContradiction fun n => p.pers b n e
  have frame : ∀ b o, H b = some o → ¬ Mu σ r b → H2 b = some o := fun b o e n => q.frame b o (p.frame b o e n) fun z => (p.mun b z).elim n fun z => by rw [e] at z; cases z
  refine ⟨p.t0, frame, fun b h => q.pers b (p.pers b h), ?_, ?_, fun b hb => ?_, ?_, fun a x => ?_, fun a x => ?_, fun i m xs e nf => ?_⟩
  · rw [← Tw_app hl]; exact q.env
  · refine .append ?_ (by rw [← Tw_app hl]; exact q.res)
    refine p.res.stab p.env q.frame q.news (fun b z => ?_) (fun b z => ?_) hs
    · rw [← Tw_app hl]; exact .inl z
    · rw [← Tw_app hl] at z
      exact z.imp id (q.fresh b)
  · rw [owns_app hl] at hb
    rcases List.mem_append.mp hb with hb | hb
    · exact p.fresh b hb
    · exact back b (q.fresh b hb)
  · rw [owns_app hl]
    refine List.nodup_append.mpr ⟨p.nd, q.nd, fun a ha b hb e => ?_⟩
    subst e
    exact p.env.tal a (.inr ha) (q.fresh a hb)
  · rcases q.news a x with x | x
    · exact p.news a x
    · exact .inr (back a x)
  · rcases q.mun a x with x | x
    · exact p.mun a x
    · exact .inr (back a x)
  · obtain ⟨⟨ys, e1, l1⟩, s1⟩ := p.keep i m xs e nf
    obtain ⟨⟨zs, e2, l2⟩, s2⟩ := q.keep i m ys e1 nf
    exact ⟨⟨zs, e2, fun z => (l2 z).trans (l1 z)⟩, s2.trans s1⟩
/-- some results dropped -/
theorem Po.drop (p : Po K H T σ r σ1 r1 ws vs H1) : Po K H T σ r σ1 r1 [] [] H1 :=
  ⟨p.t0, p.frame, p.pers, by rw [Tw_nil]; exact p.env.sub fun b z => .inl z, .nil, fun b z => absurd (show b ∈ ([] : List Addr) from z) (by simp), List.nodup_nil, p.news, p.mun, p.keep⟩

/-- what an operation on values leaves -/
structure Op1 (K : PySem.W.Frag) (H : Hp) (N : Addr → Prop) (w : W) (v : V) (H' : Hp) : Prop where
  grow : ∀ b o, H b = some o → H' b = some o
  res : match w with
    | .val d => Rep K H' N v d
    | .own xs => ∃ a vs, v = .ref a ∧ H a = none ∧ H' a = some (.lst vs) ∧ Reps K H N vs xs ∧ xs.length ≤ sizeLine
    | .slot _ => False
theorem Po.op (p : Po K H T σ r σ1 r1 ws vs H1) (o : Op1 K H1 (fun b => Tw T ws vs b ∨ Acc σ1 r1 b) w v H2) : Po K H T σ r σ1 r1 [w] [v] H2 := by
  have back : ∀ b, H1 b = none → H b = none := fun b e => Classical.byContradiction fun n => p.pers b n e
  have pers : ∀ b, H1 b ≠ none → H2 b ≠ none := fun b h z => by
    cases q : H1 b with
    | none => exact h q
    | some u => rw [o.grow b u q] at z; cases z
  have base : ∀ (hf : ∀ b ∈ owns [w] [v], H1 b = none ∧ H2 b ≠ none) (hr : WR K H2 (Tw T [w] [v]) σ1 r1 w v) (hnd : (owns [w] [v]).Nodup), Po K H T σ r σ1 r1 [w] [v] H2 := fun hf hr hnd =>
    ⟨p.t0, fun b u e n => o.grow b u (p.frame b u e n), fun b h => pers b (p.pers b h),
      p.env.grow o.grow (fun b z => z.elim (fun z => .inl (.inl z)) fun z => .inr (hf b z).1) (fun b z => z.elim (fun z => pers b (p.env.tal b (.inl z))) fun z => (hf b z).2),
      .cons hr .nil, fun b hb => back b (hf b hb).1, hnd, p.news, p.mun, p.keep⟩
  cases w with
  | val d =>
    have h : Rep K H2 _ v d := o.res
    refine base (fun b hb => ?_) ?_ ?_
    · cases hb
    · exact h.anti fun b z => z.elim (fun z => .inl (z.elim .inl fun z => by cases z)) .inr
    · exact List.nodup_nil
  | own xs =>
    obtain ⟨a, us, e, e1, e2, e3, e4⟩ := o.res
    subst e
    refine base (fun b hb => ?_) ⟨a, us, rfl, .inr (List.mem_singleton.mpr rfl), e2, Reps.stab (.grow o.grow fun b z => ?_) e3, e4⟩ ?_
    · have hb' : b ∈ [a] := hb
      rw [List.mem_singleton] at hb'
      subst hb'
      exact ⟨e1, by rw [e2]; simp⟩
    · rcases z with (z | z) | z
      · exact .inl (.inl (.inl z))
      · have z' : b ∈ [a] := z
        rw [List.mem_singleton] at z'
        subst z'
        exact .inr e1
      · exact .inl (.inr z)
    · show [a].Nodup
      simp
  | slot i => exact o.res.elim

/-- a value as it is seen: of a list the list alone may be come to by a name -/
def VR (K : PySem.W.Frag) (H : Hp) (N : Addr → Prop) (v : V) : D → Prop
  | .lst xs => ∃ a vs, v = .ref a ∧ H a = some (.lst vs) ∧ Reps K H N vs xs ∧ xs.length ≤ sizeLine
  | d => Rep K H N v d
theorem VR.of {N : Addr → Prop} {d : D} (h : Rep K H N v d) : VR K H N v d := by
  cases d with
  | lst xs => cases h with | lst h0 h1 h2 h3 => exact ⟨_, _, rfl, h1, h2, h3⟩
  | _ => exact h
theorem WR.view {d : D} (h : WR K H T σ r w v) (E : ER K H T σ r) (e : view r w = some d) : VR K H (fun b => T b ∨ Acc σ r b) v d := by
  cases w with
  | val d' => cases e; exact .of h
  | own xs =>
    cases e
    obtain ⟨a, vs, e, _, e1, e2, e3⟩ := h
    exact ⟨a, vs, e, e1, e2, e3⟩
  | slot i =>
    have h : σ[i]? = some (some v) := h
    have e : (match gets r i with
      | .val d => some d
      | .acc _ xs => some (.lst xs)
      | .no => none) = some d := e
    cases q : gets r i with
    | no => rw [q] at e; cases e
    | val d' =>
      rw [q] at e; cases e
      obtain ⟨v', e1, e2⟩ := E.val i _ q
      rw [h] at e1; cases e1
      exact .of e2
    | acc m xs =>
      rw [q] at e; cases e
      obtain ⟨a, vs, e1, _, e2, e3, e4⟩ := E.acc i m xs q
      rw [h] at e1; cases e1
      exact ⟨a, vs, rfl, e2, e3, e4⟩
inductive VRs (K : PySem.W.Frag) (H : Hp) (N : Addr → Prop) : List V → List D → Prop
  | nil : VRs K H N [] []
  | cons {v : V} {d : D} {vs : List V} {ds : List D} : VR K H N v d → VRs K H N vs ds → VRs K H N (v :: vs) (d :: ds)
theorem WRs.views (E : ER K H T σ r) : ∀ {ws : List W} {vs : List V} {ds : List D}, WRs K H T σ r ws vs → MP.views r ws = some ds → VRs K H (fun b => T b ∨ Acc σ r b) vs ds
  | _, _, _, .nil, e => by cases e; exact .nil
  | _, _, _, .cons (w := w) (ws := ws) h t, e => by
    unfold MP.views at e
    cases q1 : MP.view r w with
    | none => rw [q1] at e; cases e
    | some d =>
      cases q2 : MP.views r ws with
      | none => rw [q1, q2] at e; cases e
      | some ds =>
        rw [q1, q2] at e
        cases e
        exact .cons (h.view E q1) (t.views E q2)
end
end MP

/-! Stores: a list handed on, changed, given a name; targets. -/
namespace MP
open PySem PySem.Spec PyProof.Rows L2

theorem R.bind_inv {α β : Type} {x : R α} {f : α → Env → R β} {b : β} {r : Env} (e : x.bind f = .ok b r) : ∃ a r1, x = .ok a r1 ∧ f a r1 = .ok b r := by
  cases x with
  | ok a r1 => exact ⟨a, r1, rfl, e⟩
  | exc x r1 => cases e
  | no => cases e
theorem R.ofO_inv {α : Type} {r r' : Env} {o : Option α} {a : α} (e : R.ofO r o = .ok a r') : o = some a ∧ r' = r := by
  cases o with
  | none => cases e
  | some b => cases e; exact ⟨rfl, rfl⟩
theorem gets_sets {r : Env} {i j : Nat} {s : Sl} : gets (sets r i s) j = if j = i ∧ i < r.length then s else gets r j := by
  by_cases h : j = i
  · subst h
    by_cases hl : j < r.length
    · rw [gets_sets_same hl, if_pos ⟨rfl, hl⟩]
    · rw [if_neg fun z => hl z.2]
      have a : gets (sets r j s) j = .no := Classical.byContradiction fun n => hl (by have := gets_lt n; rwa [sets_length] at this)
      have b : gets r j = .no := Classical.byContradiction fun n => hl (gets_lt n)
      rw [a, b]
  · rw [gets_sets_ne h, if_neg fun z => h z.1]

section
variable {K : PySem.W.Frag} {H H' H1 H2 : Hp} {T T' : Addr → Prop} {σ σ' σ1 σ2 : L2.St} {r r' r1 r2 : Env} {ws us : List W} {vs zs : List V} {w : W} {v : V} {i : Nat} {d : D} {xs ys : List D} {a b : Addr} {m : Md}

theorem acc_sets {s : Sl} (h : Acc σ (sets r i s) b) : Acc σ r b ∨ ∃ m xs, s = .acc m xs ∧ σ[i]? = some (some (.ref b)) := by
  obtain ⟨j, m, xs, e, e2⟩ := h
  rw [gets_sets] at e
  split at e
  · rename_i hj
    rw [hj.1] at e2
    exact .inr ⟨m, xs, e, e2⟩
  · exact .inl ⟨j, m, xs, e, e2⟩
theorem mu_sets {s : Sl} (h : Mu σ (sets r i s) b) : Mu σ r b ∨ ∃ m xs, s = .acc m xs ∧ m ≠ .lck ∧ σ[i]? = some (some (.ref b)) := by
  obtain ⟨j, m, xs, e, nl, e2⟩ := h
  rw [gets_sets] at e
  split at e
  · rename_i hj
    rw [hj.1] at e2
    exact .inr ⟨m, xs, e, nl, e2⟩
  · exact .inl ⟨j, m, xs, e, nl, e2⟩

/-- a list is given up: it is a value from now on -/
theorem ER.freeze (E : ER K H T σ r) (e : gets r i = .acc m xs) : ER K H T σ (sets r i (.val (.lst xs))) ∧ (∀ b, Acc σ (sets r i (.val (.lst xs))) b → Acc σ r b) ∧ (∀ b, Mu σ (sets r i (.val (.lst xs))) b → Mu σ r b) ∧
    ∀ a, σ[i]? = some (some (.ref a)) → ¬ Acc σ (sets r i (.val (.lst xs))) a := by
  have hi : i < r.length := gets_lt (by rw [e]; exact Sl.noConfusion)
  have h1 : ∀ b, Acc σ (sets r i (.val (.lst xs))) b → Acc σ r b := fun b x => by
    rcases acc_sets x with x | ⟨_, _, z, _⟩
    · exact x
    · cases z
  have h2 : ∀ b, Mu σ (sets r i (.val (.lst xs))) b → Mu σ r b := fun b x => by
    rcases mu_sets x with x | ⟨_, _, z, _⟩
    · exact x
    · cases z
  have h3 : ∀ a, σ[i]? = some (some (.ref a)) → ¬ Acc σ (sets r i (.val (.lst xs))) a := fun a ea ⟨j, m', ys, e2, e3⟩ => by
    rw [gets_sets] at e2
    split at e2
    · cases e2
    · rename_i hj
      exact hj ⟨(E.inj i j m m' xs ys a e e2 ea e3).symm, hi⟩
  refine ⟨⟨E.len.trans sets_length.symm, fun j d' e2 => ?_, fun j m' ys e2 => ?_, fun j k m1 m2 x1 x2 a e1 e2 e3 e4 => ?_, E.tal⟩, h1, h2, h3⟩
  · rw [gets_sets] at e2
    split at e2
    · rename_i hj
      cases e2
      obtain ⟨a, vs, e1, e4, e5, e6, e7⟩ := E.acc i m xs e
      refine ⟨.ref a, by rw [hj.1]; exact e1, .lst (fun z => z.elim e4 (h3 a e1)) e5 (e6.anti fun b z => z.imp id (h1 b)) e7⟩
    · obtain ⟨v, e3, e4⟩ := E.val j d' e2
      exact ⟨v, e3, e4.anti fun b z => z.imp id (h1 b)⟩
  · rw [gets_sets] at e2
    split at e2
    · cases e2
    · obtain ⟨a, vs, e1, e4, e5, e6, e7⟩ := E.acc j m' ys e2
      exact ⟨a, vs, e1, e4, e5, e6.anti fun b z => z.imp id (h1 b), e7⟩
  · rw [gets_sets] at e1 e2
    split at e1
    · cases e1
    · split at e2
      · cases e2
      · exact E.inj j k m1 m2 x1 x2 a e1 e2 e3 e4

theorem take_slot (e : take (.slot i) r = .ok d r') : (gets r i = .val d ∧ r' = r) ∨ ∃ xs, gets r i = .acc .free xs ∧ d = .lst xs ∧ r' = sets r i (.val (.lst xs)) := by
  unfold take at e
  dsimp only at e
  cases q : gets r i with
  | no => rw [q] at e; cases e
  | val d' => rw [q] at e; cases e; exact .inl ⟨rfl, rfl⟩
  | acc m xs =>
    rw [q] at e
    cases m with
    | free => cases e; exact .inr ⟨xs, rfl, rfl, rfl⟩
    | fix => cases e
    | lck => cases e

/-- a result handed on for good -/
theorem Po.take (p : Po K H T σ r σ1 r1 (w :: ws) (v :: vs) H1) (e : take w r1 = .ok d r2) : Po K H T σ r σ1 r2 (.val d :: ws) (v :: vs) H1 := by
  have hT : ∀ b, Tw T (.val d :: ws) (v :: vs) b → Tw T (w :: ws) (v :: vs) b := fun b z => z.imp id fun z => List.mem_append_right _ z
  have key : ∀ (r2 : Env), ER K H1 (Tw T (.val d :: ws) (v :: vs)) σ1 r2 → (∀ b, Acc σ1 r2 b → Acc σ1 r1 b) → (∀ b, Mu σ1 r2 b → Mu σ1 r1 b) → (∀ i m xs, gets r i = .acc m xs → m ≠ .free → ∃ ys, gets r2 i = .acc m ys ∧ (m = .lck → ys = xs)) →
      Rep K H1 (fun b => Tw T (.val d :: ws) (v :: vs) b ∨ Acc σ1 r2 b) v d → Po K H T σ r σ1 r2 (.val d :: ws) (v :: vs) H1 := fun r2 E2 ha hm hk hr => by
    refine ⟨p.t0, p.frame, p.pers, E2, ?_, fun b hb => p.fresh b (List.mem_append_right _ hb), (List.nodup_append.mp p.nd).2.1, fun b x => p.news b (ha b x), fun b x => p.mun b (hm b x), fun i m xs e nf => ⟨hk i m xs e nf, (p.keep i m xs e nf).2⟩⟩
    cases p.res with
    | cons h t =>
      refine .cons hr ?_
      have go : ∀ {us : List W} {zs : List V}, WRs K H1 (Tw T (w :: ws) (v :: vs)) σ1 r1 us zs → (∀ b ∈ owns us zs, b ∈ owns ws vs) → WRs K H1 (Tw T (.val d :: ws) (v :: vs)) σ1 r2 us zs := fun {us zs} h => by
        induction h with
        | nil => exact fun _ => .nil
        | cons g t ih =>
          rename_i w' v' us' zs'
          intro hsub
          refine .cons ?_ (ih fun b hb => hsub b (List.mem_append_right _ hb))
          cases w' with
          | val d' => exact Rep.anti g fun b z => z.imp (hT b) (ha b)
          | own xs =>
            obtain ⟨a, us, e, t, e1, e2, e3⟩ := g
            subst e
            exact ⟨a, us, rfl, .inr (hsub a (List.mem_append_left _ (List.mem_singleton.mpr rfl))), e1, e2.anti fun b z => z.imp (hT b) (ha b), e3⟩
          | slot i => exact g
      exact go t fun b hb => hb
  have hk := fun i m xs e nf => (p.keep i m xs e nf).1
  cases w with
  | val d' =>
    cases e
    exact p
  | own xs =>
    cases e
    refine key r1 (p.env.sub hT) (fun _ z => z) (fun _ z => z) hk ?_
    cases p.res with
    | cons h t =>
      obtain ⟨a, us, e, t, e1, e2, e3⟩ := h
      subst e
      have ha : a ∈ owns (.own xs :: ws) (.ref a :: vs) := List.mem_append_left _ (List.mem_singleton.mpr rfl)
      refine .lst (fun z => ?_) e1 (e2.anti fun b z => z.imp (hT b) id) e3
      rcases z with (z | z) | z
      · exact p.t0 a z (p.fresh a ha)
      · exact (List.nodup_append.mp p.nd).2.2 a (List.mem_singleton.mpr rfl) a z rfl
      · exact (p.env.accT z).1 t
  | slot i =>
    have hs : σ1[i]? = some (some v) := by
      cases p.res with
      | cons h t => exact h
    rcases take_slot e with ⟨q, e2⟩ | ⟨xs, q, e1, e2⟩
    · subst e2
      refine key r2 (p.env.sub hT) (fun _ z => z) (fun _ z => z) hk ?_
      obtain ⟨v', e3, e4⟩ := p.env.val i d q
      rw [hs] at e3; cases e3
      exact e4.anti fun b z => z.imp (hT b) id
    · subst e1 e2
      obtain ⟨E2, h1, h2, h3⟩ := (p.env.sub hT).freeze q
      refine key _ E2 h1 h2 (fun j m ys e nf => ?_) ?_
      · obtain ⟨zs, e5, e6⟩ := hk j m ys e nf
        refine ⟨zs, ?_, e6⟩
        rw [gets_sets, if_neg fun z => ?_]
        · exact e5
        · rw [z.1, q] at e5
          cases e5
          exact nf rfl
      · have hi : i < r1.length := gets_lt (by rw [q]; exact Sl.noConfusion)
        obtain ⟨v', e3, e4⟩ := E2.val i (.lst xs) (by rw [gets_sets, if_pos ⟨rfl, hi⟩])
        rw [hs] at e3; cases e3
        exact e4

/-- a name's own list is changed -/
theorem Po.mut {us : List V} (p : Po K H T σ r σ1 r1 ws vs H1) (e : gets r1 i = .acc m xs) (nl : m ≠ .lck) (ea : σ1[i]? = some (some (.ref a))) (h : Reps K H1 (fun b => Tw T ws vs b ∨ Acc σ1 r1 b) us ys) (hl : ys.length ≤ sizeLine) :
    Po K H T σ r σ1 (sets r1 i (.acc m ys)) ws vs (upd H1 a (.lst us)) := by
  have hi : i < r1.length := gets_lt (by rw [e]; exact Sl.noConfusion)
  have ma : Mu σ1 r1 a := ⟨i, m, xs, e, nl, ea⟩
  have frame : ∀ b o, H1 b = some o → ¬ Mu σ1 r1 b → upd H1 a (.lst us) b = some o := fun b o e1 n => by
    rw [upd_ne fun z => n (by rw [z]; exact ma)]
    exact e1
  have ha : ∀ b, Acc σ1 (sets r1 i (.acc m ys)) b → Acc σ1 r1 b := fun b x => by
    rcases acc_sets x with x | ⟨m', _, z, e2⟩
    · exact x
    · exact ⟨i, m, xs, e, e2⟩
  have hm : ∀ b, Mu σ1 (sets r1 i (.acc m ys)) b → Mu σ1 r1 b := fun b x => by
    rcases mu_sets x with x | ⟨m', _, z, n, e2⟩
    · exact x
    · exact ⟨i, m, xs, e, nl, e2⟩
  have st : Stab H1 (upd H1 a (.lst us)) (fun b => b = a) (fun b => Tw T ws vs b ∨ Acc σ1 r1 b) (fun b => Tw T ws vs b ∨ Acc σ1 (sets r1 i (.acc m ys)) b) :=
    ⟨fun b o e1 n => by rw [upd_ne n]; exact e1, fun b z => by rw [z]; exact p.env.lists a ma, fun b z => by rw [z]; exact .inr ma.acc, fun b z => .inl (z.imp id (ha b))⟩
  have pers : ∀ b, H1 b ≠ none → upd H1 a (.lst us) b ≠ none := fun b n => by
    by_cases z : b = a
    · rw [z, upd_same]; simp
    · rw [upd_ne z]; exact n
  refine ⟨p.t0, fun b o e1 n => ?_, fun b n => pers b (p.pers b n), ⟨p.env.len.trans sets_length.symm, fun j d e2 => ?_, fun j m' zs e2 => ?_, fun j k m1 m2 x1 x2 c e1 e2 e3 e4 => ?_, fun b z => pers b (p.env.tal b z)⟩, ?_, p.fresh, p.nd, fun b x => p.news b (ha b x), fun b x => p.mun b (hm b x), fun j m' zs e2 nf => ?_⟩
  · refine frame b o (p.frame b o e1 n) fun z => ?_
    rcases p.mun b z with z | z
    · exact n z
    · rw [e1] at z; cases z
  · rw [gets_sets] at e2
    split at e2
    · cases e2
    · obtain ⟨v, e3, e4⟩ := p.env.val j d e2
      exact ⟨v, e3, e4.stab st⟩
  · rw [gets_sets] at e2
    split at e2
    · rename_i hj
      cases e2
      obtain ⟨a', vs', e3, e4, e5, e6, e7⟩ := p.env.acc i m xs e
      rw [ea] at e3; cases e3
      exact ⟨a, us, by rw [hj.1]; exact ea, e4, upd_same, h.stab st, hl⟩
    · rename_i hj
      obtain ⟨a', vs', e3, e4, e5, e6, e7⟩ := p.env.acc j m' zs e2
      refine ⟨a', vs', e3, e4, ?_, e6.stab st, e7⟩
      rw [upd_ne fun z => ?_]
      · exact e5
      · subst z
        exact hj ⟨(p.env.inj i j m m' xs zs a' e e2 ea e3).symm, hi⟩
  · rw [gets_sets] at e1 e2
    split at e1
    · rename_i h1
      split at e2
      · rename_i h2
        rw [h1.1, h2.1]
      · rw [h1.1] at e3 ⊢
        exact p.env.inj i k m m2 xs x2 c e e2 e3 e4
    · split at e2
      · rename_i h2
        rw [h2.1] at e4 ⊢
        exact p.env.inj j i m1 m x1 xs c e1 e e3 e4
      · exact p.env.inj j k m1 m2 x1 x2 c e1 e2 e3 e4
  · exact p.res.stab p.env frame (fun b x => .inl (ha b x)) (fun _ z => z) (fun _ z => .inl z) fun _ _ => rfl
  · obtain ⟨⟨zs', e3, e4⟩, e5⟩ := p.keep j m' zs e2 nf
    refine ⟨?_, e5⟩
    rw [gets_sets]
    split
    · rename_i hj
      rw [hj.1, e] at e3
      cases e3
      exact ⟨ys, rfl, fun z => (nl z).elim⟩
    · exact ⟨zs', e3, e4⟩

/-! ### stores -/
theorem put_is {s : Sl} : ∀ {r r' : Env} {i : Nat}, MP.put r i s = some r' → r' = sets r i s ∧ (∀ m xs, gets r i = .acc m xs → m = .free) ∧ i < r.length
  | [], _, _, e => by cases e
  | x :: r, r', 0, e => by
    unfold MP.put at e
    split at e
    · cases e
    · rename_i h
      cases e
      refine ⟨rfl, fun m xs q => ?_, Nat.succ_pos _⟩
      have q : x = .acc m xs := q
      subst q
      cases m with
      | free => rfl
      | fix => exact (h rfl).elim
      | lck => exact (h rfl).elim
  | x :: r, r', i + 1, e => by
    have e : (MP.put r i s).map (x :: ·) = some r' := e
    cases q : MP.put r i s with
    | none => rw [q] at e; cases e
    | some r2 =>
      rw [q] at e
      cases e
      obtain ⟨h1, h2, h3⟩ := put_is q
      exact ⟨by rw [h1]; rfl, h2, Nat.succ_lt_succ h3⟩
theorem set_at {σ : L2.St} {i j : Nat} {v : V} : (σ.set i (some v))[j]? = if j = i ∧ i < σ.length then some (some v) else σ[j]? := by
  by_cases h : j = i
  · subst h
    by_cases hl : j < σ.length
    · rw [if_pos ⟨rfl, hl⟩, List.getElem?_set_self hl]
    · rw [if_neg fun z => hl z.2, List.getElem?_eq_none (by simpa using hl), List.getElem?_eq_none (by omega)]
  · rw [if_neg fun z => h z.1, List.getElem?_set_ne (fun z => h z.symm)]
theorem mem_slots : ∀ {ws : List W} {i : Nat}, W.slot i ∈ ws → i ∈ slotsOf ws
  | [], _, h => by cases h
  | .slot j :: ws, i, h => by
    unfold slotsOf
    rcases List.mem_cons.mp h with e | h
    · cases e; exact List.mem_cons_self
    · exact List.mem_cons_of_mem _ (mem_slots h)
  | .val d :: ws, i, h => by
    unfold slotsOf
    rcases List.mem_cons.mp h with e | h
    · cases e
    · exact mem_slots h
  | .own d :: ws, i, h => by
    unfold slotsOf
    rcases List.mem_cons.mp h with e | h
    · cases e
    · exact mem_slots h
theorem ownA_own {xs : List D} (h : WR K H T σ r (.own xs) v) : ∃ a, v = .ref a ∧ ownA (.own xs) v = [a] := by
  obtain ⟨a, _, e, _⟩ := h
  subst e
  exact ⟨a, rfl, rfl⟩
/-- a value gets a name -/
theorem Po.put {s : Sl} (p : Po K H T σ r σ1 r1 (w :: ws) (v :: vs) H1) (hw : (∃ d, w = .val d ∧ s = .val d) ∨ ∃ xs, w = .own xs ∧ s = .acc .free xs) (e : MP.put r1 i s = some r2) (hs : i ∉ slotsOf ws) :
    Po K H T σ r (σ1.set i (some v)) r2 ws vs H1 := by
  obtain ⟨rfl, free, hi⟩ := put_is e
  have hσ : i < σ1.length := by rw [p.env.len]; exact hi
  have hN0 : ∀ j, j ≠ i → (σ1.set i (some v))[j]? = σ1[j]? := fun j n => by rw [set_at, if_neg fun z => n z.1]
  have hNi : (σ1.set i (some v))[i]? = some (some v) := by rw [set_at, if_pos ⟨rfl, hσ⟩]
  obtain ⟨hw0, ht⟩ : WR K H1 (Tw T (w :: ws) (v :: vs)) σ1 r1 w v ∧ WRs K H1 (Tw T (w :: ws) (v :: vs)) σ1 r1 ws vs := by
    cases p.res with
    | cons h t => exact ⟨h, t⟩
  have nd2 := List.nodup_append.mp p.nd
  -- what is owned now
  have ha : ∀ b, Acc (σ1.set i (some v)) (sets r1 i s) b → (Acc σ1 r1 b ∧ ¬ b ∈ ownA w v) ∨ b ∈ ownA w v := fun b x => by
    obtain ⟨j, m, xs, e1, e2⟩ := x
    rw [gets_sets] at e1
    split at e1
    · rename_i hj
      rw [hj.1, hNi] at e2
      cases e2
      rcases hw with ⟨d, rfl, rfl⟩ | ⟨ys, rfl, rfl⟩
      · cases e1
      · exact .inr (List.mem_singleton.mpr rfl)
    · rename_i hj
      have hj' : j ≠ i := fun z => hj ⟨z, hi⟩
      rw [hN0 j hj'] at e2
      have x : Acc σ1 r1 b := ⟨j, m, xs, e1, e2⟩
      exact .inl ⟨x, fun z => (p.env.accT x).1 (.inr (List.mem_append_left _ z))⟩
  have hm : ∀ b, Mu (σ1.set i (some v)) (sets r1 i s) b → Mu σ1 r1 b ∨ b ∈ ownA w v := fun b x => by
    obtain ⟨j, m, xs, e1, nl, e2⟩ := x
    rw [gets_sets] at e1
    split at e1
    · rename_i hj
      rw [hj.1, hNi] at e2
      cases e2
      rcases hw with ⟨d, rfl, rfl⟩ | ⟨ys, rfl, rfl⟩
      · cases e1
      · exact .inr (List.mem_singleton.mpr rfl)
    · rename_i hj
      have hj' : j ≠ i := fun z => hj ⟨z, hi⟩
      rw [hN0 j hj'] at e2
      exact .inl ⟨j, m, xs, e1, nl, e2⟩
  have hN : ∀ b, (Tw T ws vs b ∨ Acc (σ1.set i (some v)) (sets r1 i s) b) → (Tw T (w :: ws) (v :: vs) b ∨ Acc σ1 r1 b) := fun b z => by
    rcases z with (z | z) | z
    · exact .inl (.inl z)
    · exact .inl (.inr (List.mem_append_right _ z))
    · rcases ha b z with z | z
      · exact .inr z.1
      · exact .inl (.inr (List.mem_append_left _ z))
  have hTs : ∀ b, Tw T ws vs b → Tw T (w :: ws) (v :: vs) b := fun b z => z.imp id fun z => List.mem_append_right _ z
  have hfr : ∀ b ∈ ownA w v, H b = none := fun b z => p.fresh b (List.mem_append_left _ z)
  refine ⟨p.t0, p.frame, p.pers, ⟨?_, fun j d e1 => ?_, fun j m xs e1 => ?_, fun j k m1 m2 x1 x2 c e1 e2 e3 e4 => ?_, fun b z => p.env.tal b (hTs b z)⟩, ?_, fun b hb => p.fresh b (List.mem_append_right _ hb), nd2.2.1, fun b x => ?_, fun b x => ?_, fun j m xs e1 nf => ?_⟩
  · rw [List.length_set, sets_length]; exact p.env.len
  · rw [gets_sets] at e1
    split at e1
    · rename_i hj
      rcases hw with ⟨d', rfl, rfl⟩ | ⟨ys, rfl, rfl⟩
      · cases e1
        exact ⟨v, by rw [hj.1]; exact hNi, Rep.anti hw0 hN⟩
      · cases e1
    · rename_i hj
      obtain ⟨u, e2, e3⟩ := p.env.val j d e1
      exact ⟨u, by rw [hN0 j fun z => hj ⟨z, hi⟩]; exact e2, e3.anti hN⟩
  · rw [gets_sets] at e1
    split at e1
    · rename_i hj
      rcases hw with ⟨d', rfl, rfl⟩ | ⟨ys, rfl, rfl⟩
      · cases e1
      · cases e1
        obtain ⟨a, us, e2, t, e3, e4, e5⟩ := hw0
        subst e2
        refine ⟨a, us, by rw [hj.1]; exact hNi, fun z => ?_, e3, e4.anti hN, e5⟩
        rcases z with z | z
        · exact p.t0 a z (p.fresh a (List.mem_append_left _ (List.mem_singleton.mpr rfl)))
        · exact nd2.2.2 a (List.mem_singleton.mpr rfl) a z rfl
    · rename_i hj
      obtain ⟨a, us, e2, t, e3, e4, e5⟩ := p.env.acc j m xs e1
      exact ⟨a, us, by rw [hN0 j fun z => hj ⟨z, hi⟩]; exact e2, fun z => t (hTs a z), e3, e4.anti hN, e5⟩
  · -- one name a list
    have other : ∀ (j : Nat) (m : Md) (x : List D), gets r1 j = .acc m x → j ≠ i → σ1[j]? = some (some (.ref c)) → ¬ c ∈ ownA w v := fun j m x e1 n e2 z => (p.env.accT ⟨j, m, x, e1, e2⟩).1 (.inr (List.mem_append_left _ z))
    have own : ∀ m x, s = .acc m x → v = .ref c → c ∈ ownA w v := fun m x e1 e2 => by
      subst e2
      rcases hw with ⟨d', rfl, rfl⟩ | ⟨ys, rfl, rfl⟩
      · cases e1
      · exact List.mem_singleton.mpr rfl
    rw [gets_sets] at e1 e2
    split at e1
    · rename_i h1
      rw [h1.1, hNi] at e3
      split at e2
      · rename_i h2
        rw [h1.1, h2.1]
      · rename_i h2
        have hk : k ≠ i := fun z => h2 ⟨z, hi⟩
        rw [hN0 k hk] at e4
        exact (other k m2 x2 e2 hk e4 (own m1 x1 e1 (Option.some.inj (Option.some.inj e3)))).elim
    · rename_i h1
      have hj : j ≠ i := fun z => h1 ⟨z, hi⟩
      rw [hN0 j hj] at e3
      split at e2
      · rename_i h2
        rw [h2.1, hNi] at e4
        exact (other j m1 x1 e1 hj e3 (own m2 x2 e2 (Option.some.inj (Option.some.inj e4)))).elim
      · rename_i h2
        have hk : k ≠ i := fun z => h2 ⟨z, hi⟩
        rw [hN0 k hk] at e4
        exact p.env.inj j k m1 m2 x1 x2 c e1 e2 e3 e4
  · have go : ∀ {us : List W} {zs : List V}, WRs K H1 (Tw T (w :: ws) (v :: vs)) σ1 r1 us zs → (∀ b ∈ owns us zs, b ∈ owns ws vs) → (i ∉ slotsOf us) → WRs K H1 (Tw T ws vs) (σ1.set i (some v)) (sets r1 i s) us zs := fun {us zs} h => by
      induction h with
      | nil => exact fun _ _ => .nil
      | cons g t ih =>
        rename_i w' v' us' zs'
        intro hsub hsl
        refine .cons ?_ (ih (fun b hb => hsub b (List.mem_append_right _ hb)) fun z => hsl ?_)
        · cases w' with
          | val d' => exact Rep.anti g hN
          | own xs =>
            obtain ⟨a, us, e, t, e1, e2, e3⟩ := g
            subst e
            exact ⟨a, us, rfl, .inr (hsub a (List.mem_append_left _ (List.mem_singleton.mpr rfl))), e1, e2.anti hN, e3⟩
          | slot k =>
            have hk : k ≠ i := fun z => hsl (by unfold slotsOf; rw [z]; exact List.mem_cons_self)
            have g' : σ1[k]? = some (some v') := g
            show (σ1.set i (some v))[k]? = some (some v')
            rw [hN0 k hk]; exact g'
        · cases w' <;> (unfold slotsOf; first | exact z | exact List.mem_cons_of_mem _ z)
    exact go ht (fun b hb => hb) hs
  · rcases ha b x with x | x
    · exact p.news b x.1
    · exact .inr (hfr b x)
  · rcases hm b x with x | x
    · exact p.mun b x
    · exact .inr (hfr b x)
  · obtain ⟨⟨zs, e2, e3⟩, e4⟩ := p.keep j m xs e1 nf
    have hj : j ≠ i := fun z => by
      rw [z] at e2
      exact nf (free m zs e2)
    exact ⟨⟨zs, by rw [gets_sets, if_neg fun z => hj z.1]; exact e2, e3⟩, by rw [hN0 j hj]; exact e4⟩
theorem put_len {s : Sl} (e : MP.put r i s = some r') : r'.length = r.length := by
  obtain ⟨rfl, _, _⟩ := put_is e
  exact sets_length
theorem take_len (e : take w r = .ok d r') : r'.length = r.length := by
  cases w with
  | val d => cases e; rfl
  | own xs => cases e; rfl
  | slot j =>
    rcases take_slot e with ⟨_, e⟩ | ⟨_, _, _, e⟩
    · rw [e]
    · rw [e, sets_length]
/-- any result gets a name -/
theorem Po.putW {q : Unit} (p : Po K H T σ r σ1 r1 (w :: ws) (v :: vs) H1) (e : putW r1 i w = .ok q r2) (hs : i ∉ slotsOf ws) : Po K H T σ r (σ1.set i (some v)) r2 ws vs H1 := by
  cases w with
  | val d =>
    unfold MP.putW at e
    dsimp only at e
    obtain ⟨_, _, h, e1⟩ := R.bind_inv e
    obtain ⟨h1, h2⟩ := R.ofO_inv h
    subst h2
    cases e1
    exact p.put (.inl ⟨d, rfl, rfl⟩) h1 hs
  | own xs =>
    unfold MP.putW at e
    dsimp only at e
    obtain ⟨_, _, h, e1⟩ := R.bind_inv e
    obtain ⟨h1, h2⟩ := R.ofO_inv h
    subst h2
    cases e1
    exact p.put (.inr ⟨xs, rfl, rfl⟩) h1 hs
  | slot j =>
    unfold MP.putW at e
    dsimp only at e
    obtain ⟨d, r3, h, e1⟩ := R.bind_inv e
    obtain ⟨_, _, h2, e2⟩ := R.bind_inv e1
    obtain ⟨h3, h4⟩ := R.ofO_inv h2
    subst h4
    cases e2
    exact (p.take h).put (.inl ⟨d, rfl, rfl⟩) h3 hs
theorem putW_len {q : Unit} (e : putW r i w = .ok q r') : r'.length = r.length := by
  cases w with
  | val d =>
    unfold MP.putW at e
    dsimp only at e
    obtain ⟨_, _, h, e1⟩ := R.bind_inv e
    obtain ⟨h1, h2⟩ := R.ofO_inv h
    subst h2
    cases e1
    exact put_len h1
  | own xs =>
    unfold MP.putW at e
    dsimp only at e
    obtain ⟨_, _, h, e1⟩ := R.bind_inv e
    obtain ⟨h1, h2⟩ := R.ofO_inv h
    subst h2
    cases e1
    exact put_len h1
  | slot j =>
    unfold MP.putW at e
    dsimp only at e
    obtain ⟨d, r3, h, e1⟩ := R.bind_inv e
    obtain ⟨_, _, h2, e2⟩ := R.bind_inv e1
    obtain ⟨h3, h4⟩ := R.ofO_inv h2
    subst h4
    cases e2
    exact (put_len h3).trans (take_len h)
end
end MP

/-! Calls, lists that are walked, the names of a comprehension. -/
namespace MP
open PySem PySem.Spec PyProof.Rows L2

section
variable {K : PySem.W.Frag} {H H' H1 H2 : Hp} {T T' : Addr → Prop} {σ σ' σ1 σ2 : L2.St} {r r' r1 r2 : Env} {ws us : List W} {vs zs : List V} {w : W} {v : V} {i j : Nat} {d : D} {xs ys : List D} {a b : Addr} {m : Md}

/-- results, by a smaller T -/
theorem WRs.re (h : WRs K H T σ r ws vs) (hN : ∀ b, (T' b ∨ Acc σ r' b) → (T b ∨ Acc σ r b)) (ho : ∀ b ∈ owns ws vs, T' b) : WRs K H T' σ r' ws vs := by
  induction h with
  | nil => exact .nil
  | cons g t ih =>
    rename_i w' v' us' zs'
    refine .cons ?_ (ih fun b hb => ho b (List.mem_append_right _ hb))
    cases w' with
    | val d' => exact Rep.anti g hN
    | own xs =>
      obtain ⟨a, us, e, t, e1, e2, e3⟩ := g
      subst e
      exact ⟨a, us, rfl, ho a (List.mem_append_left _ (List.mem_singleton.mpr rfl)), e1, e2.anti hN, e3⟩
    | slot i => exact g

/-! ### modes -/
def SameM (r r' : Env) : Prop := ∀ j, gets r' j = gets r j ∨ ∃ m m' xs, gets r j = .acc m xs ∧ gets r' j = .acc m' xs
theorem SameM.acc (h : SameM r r') (a : Addr) : Acc σ r' a ↔ Acc σ r a := by
  constructor
  · rintro ⟨j, m, xs, e, e2⟩
    rcases h j with q | ⟨m1, m2, ys, q1, q2⟩
    · exact ⟨j, m, xs, q ▸ e, e2⟩
    · exact ⟨j, m1, ys, q1, e2⟩
  · rintro ⟨j, m, xs, e, e2⟩
    rcases h j with q | ⟨m1, m2, ys, q1, q2⟩
    · exact ⟨j, m, xs, q.trans e, e2⟩
    · exact ⟨j, m2, ys, q2, e2⟩
theorem SameM.er (h : SameM r r') (hl : r'.length = r.length) (E : ER K H T σ r) : ER K H T σ r' := by
  have hN : ∀ b, (T b ∨ Acc σ r' b) → (T b ∨ Acc σ r b) := fun b z => z.imp id (h.acc b).mp
  have back : ∀ j m xs, gets r' j = .acc m xs → ∃ m', gets r j = .acc m' xs := fun j m xs e => by
    rcases h j with q | ⟨m1, m2, ys, q1, q2⟩
    · exact ⟨m, q ▸ e⟩
    · rw [q2] at e; cases e
      exact ⟨m1, q1⟩
  refine ⟨E.len.trans hl.symm, fun j d e => ?_, fun j m xs e => ?_, fun j k m1 m2 x1 x2 c e1 e2 e3 e4 => ?_, E.tal⟩
  · rcases h j with q | ⟨m1, m2, ys, q1, q2⟩
    · obtain ⟨v, e1, e2⟩ := E.val j d (q ▸ e)
      exact ⟨v, e1, e2.anti hN⟩
    · rw [q2] at e; cases e
  · obtain ⟨m', q⟩ := back j m xs e
    obtain ⟨a, vs, e1, e2, e3, e4, e5⟩ := E.acc j m' xs q
    exact ⟨a, vs, e1, e2, e3, e4.anti hN, e5⟩
  · obtain ⟨m1', q1⟩ := back j m1 x1 e1
    obtain ⟨m2', q2⟩ := back k m2 x2 e2
    exact E.inj j k m1' m2' x1 x2 c q1 q2 e3 e4

/-! ### lists that are walked -/
theorem lock1_at : gets (lock1 r (.slot i)) j = if j = i then (match gets r i with | .acc _ xs => .acc .lck xs | s => s) else gets r j := by
  unfold lock1
  dsimp only
  cases q : gets r i with
  | no => split <;> simp_all
  | val d => split <;> simp_all
  | acc m xs =>
    dsimp only
    have hi : i < r.length := gets_lt (by rw [q]; exact Sl.noConfusion)
    rw [gets_sets]
    by_cases h : j = i
    · rw [if_pos ⟨h, hi⟩, if_pos h]
    · rw [if_neg fun z => h z.1, if_neg h]
theorem lock1_len : (lock1 r w).length = r.length := by
  cases w with
  | val d => rfl
  | own xs => rfl
  | slot i =>
    unfold lock1
    dsimp only
    split
    · exact sets_length
    · rfl
theorem locks_len : ∀ {ws : List W} {r : Env}, (locks r ws).length = r.length
  | [], _ => rfl
  | w :: ws, r => by
    show (locks (lock1 r w) ws).length = r.length
    rw [locks_len, lock1_len]
theorem locks_out : ∀ {ws : List W} {r : Env}, j ∉ slotsOf ws → gets (locks r ws) j = gets r j
  | [], _, _ => rfl
  | .val d :: ws, r, h => locks_out (ws := ws) (r := r) h
  | .own xs :: ws, r, h => locks_out (ws := ws) (r := r) h
  | .slot i :: ws, r, h => by
    have h' : j ∉ i :: slotsOf ws := h
    rw [List.mem_cons, not_or] at h'
    show gets (locks (lock1 r (.slot i)) ws) j = _
    rw [locks_out h'.2, lock1_at, if_neg h'.1]
theorem locks_acc : ∀ {ws : List W} {r : Env} {m : Md}, gets r j = .acc m xs → ∃ m', gets (locks r ws) j = .acc m' xs ∧ ((m' = .lck ∧ j ∈ slotsOf ws) ∨ (m' = m ∧ j ∉ slotsOf ws))
  | [], r, m, e => ⟨m, e, .inr ⟨rfl, fun z => by cases z⟩⟩
  | .val d :: ws, r, m, e => locks_acc (ws := ws) (r := r) e
  | .own zs :: ws, r, m, e => locks_acc (ws := ws) (r := r) e
  | .slot i :: ws, r, m, e => by
    show ∃ m', gets (locks (lock1 r (.slot i)) ws) j = .acc m' xs ∧ ((m' = .lck ∧ j ∈ i :: slotsOf ws) ∨ (m' = m ∧ j ∉ i :: slotsOf ws))
    by_cases h : j = i
    · have e1 : gets (lock1 r (.slot i)) j = .acc .lck xs := by rw [lock1_at, if_pos h, ← h, e]
      obtain ⟨m', e2, e3⟩ := locks_acc (ws := ws) e1
      refine ⟨m', e2, .inl ⟨?_, by rw [h]; exact List.mem_cons_self⟩⟩
      rcases e3 with e3 | e3
      · exact e3.1
      · exact e3.1
    · have e1 : gets (lock1 r (.slot i)) j = .acc m xs := by rw [lock1_at, if_neg h, e]
      obtain ⟨m', e2, e3⟩ := locks_acc (ws := ws) e1
      refine ⟨m', e2, ?_⟩
      rcases e3 with e3 | e3
      · exact .inl ⟨e3.1, List.mem_cons_of_mem _ e3.2⟩
      · exact .inr ⟨e3.1, fun z => (List.mem_cons.mp z).elim h e3.2⟩
theorem locks_same : ∀ (ws : List W) (r : Env), SameM r (locks r ws)
  | [], r => fun j => .inl rfl
  | .val d :: ws, r => locks_same ws r
  | .own xs :: ws, r => locks_same ws r
  | .slot i :: ws, r => fun j => by
    have e0 : gets (lock1 r (.slot i)) j = gets r j ∨ ∃ m m' xs, gets r j = .acc m xs ∧ gets (lock1 r (.slot i)) j = .acc m' xs := by
      rw [lock1_at]
      by_cases h : j = i
      · rw [if_pos h, ← h]
        cases q : gets r j with
        | no => exact .inl rfl
        | val d => exact .inl rfl
        | acc m xs => exact .inr ⟨m, .lck, xs, rfl, rfl⟩
      · rw [if_neg h]; exact .inl rfl
    show gets (locks (lock1 r (.slot i)) ws) j = _ ∨ ∃ m m' xs, _ ∧ gets (locks (lock1 r (.slot i)) ws) j = _
    rcases locks_same ws (lock1 r (.slot i)) j with q | ⟨m1, m2, xs, q1, q2⟩
    · rcases e0 with e0 | ⟨m, m', xs, e1, e2⟩
      · exact .inl (q.trans e0)
      · exact .inr ⟨m, m', xs, e1, q.trans e2⟩
    · rcases e0 with e0 | ⟨m, m', xs', e1, e2⟩
      · exact .inr ⟨m1, m2, xs, e0 ▸ q1, q2⟩
      · rw [q1] at e2; cases e2
        exact .inr ⟨m, m2, xs, e1, q2⟩
theorem unlock1_at {r0 : Env} : gets (unlock1 r0 r (.slot i)) j = if j = i then (match gets r0 i, gets r i with | .acc m _, .acc .lck xs => .acc m xs | _, s => s) else gets r j := by
  unfold unlock1
  dsimp only
  by_cases h : j = i
  · subst h
    rw [if_pos rfl]
    cases q0 : gets r0 j with
    | no => rfl
    | val d => rfl
    | acc m ys =>
      cases q : gets r j with
      | no => exact q
      | val d => exact q
      | acc m' xs =>
        cases m' with
        | free => exact q
        | fix => exact q
        | lck =>
          dsimp only
          rw [gets_sets_same (gets_lt (by rw [q]; exact Sl.noConfusion))]
  · rw [if_neg h]
    split
    · rw [gets_sets_ne h]
    · rfl
theorem unlock1_len {r0 : Env} : (unlock1 r0 r w).length = r.length := by
  cases w with
  | val d => rfl
  | own xs => rfl
  | slot i =>
    unfold unlock1
    dsimp only
    split
    · exact sets_length
    · rfl
theorem unlocks_len {r0 : Env} : ∀ {ws : List W} {r : Env}, (unlocks r0 r ws).length = r.length
  | [], _ => rfl
  | w :: ws, r => by
    show (unlock1 r0 (unlocks r0 r ws) w).length = r.length
    rw [unlock1_len, unlocks_len]
theorem unlocks_out {r0 : Env} : ∀ {ws : List W} {r : Env}, j ∉ slotsOf ws → gets (unlocks r0 r ws) j = gets r j
  | [], _, _ => rfl
  | .val d :: ws, r, h => unlocks_out (ws := ws) (r := r) h
  | .own xs :: ws, r, h => unlocks_out (ws := ws) (r := r) h
  | .slot i :: ws, r, h => by
    have h' : j ∉ i :: slotsOf ws := h
    rw [List.mem_cons, not_or] at h'
    show gets (unlock1 r0 (unlocks r0 r ws) (.slot i)) j = _
    rw [unlock1_at, if_neg h'.1, unlocks_out h'.2]
/-- what unlocking leaves -/
theorem unlocks_at {r0 : Env} : ∀ {ws : List W} {r : Env} (j : Nat), gets (unlocks r0 r ws) j = gets r j ∨ ∃ m ys xs, j ∈ slotsOf ws ∧ gets r0 j = .acc m ys ∧ gets r j = .acc .lck xs ∧ gets (unlocks r0 r ws) j = .acc m xs
  | [], _, _ => .inl rfl
  | .val d :: ws, r, j => unlocks_at (ws := ws) (r := r) j
  | .own xs :: ws, r, j => unlocks_at (ws := ws) (r := r) j
  | .slot i :: ws, r, j => by
    show gets (unlock1 r0 (unlocks r0 r ws) (.slot i)) j = _ ∨ ∃ m ys xs, j ∈ i :: slotsOf ws ∧ _ ∧ _ ∧ gets (unlock1 r0 (unlocks r0 r ws) (.slot i)) j = _
    rw [unlock1_at]
    rcases unlocks_at (r0 := r0) (ws := ws) (r := r) j with q | ⟨m, ys, xs, q1, q2, q3, q4⟩
    · by_cases h : j = i
      · rw [if_pos h, ← h]
        cases q0 : gets r0 j with
        | no => exact .inl q
        | val d => exact .inl q
        | acc m ys =>
          cases q5 : gets (unlocks r0 r ws) j with
          | no => rw [q5] at q; exact .inl q
          | val d => rw [q5] at q; exact .inl q
          | acc m' xs =>
            rw [q5] at q
            cases m' with
            | free => exact .inl q
            | fix => exact .inl q
            | lck => exact .inr ⟨m, ys, xs, List.mem_cons_self, rfl, q.symm, rfl⟩
      · rw [if_neg h]; exact .inl q
    · refine .inr ⟨m, ys, xs, List.mem_cons_of_mem _ q1, q2, q3, ?_⟩
      by_cases h : j = i
      · rw [if_pos h, ← h, q2, q4]
        cases m <;> rfl
      · rw [if_neg h]; exact q4
theorem unlocks_same {r0 : Env} {ws : List W} {r : Env} : SameM r (unlocks r0 r ws) := fun j => by
  rcases unlocks_at (r0 := r0) (ws := ws) (r := r) j with q | ⟨m, ys, xs, q1, q2, q3, q4⟩
  · exact .inl q
  · exact .inr ⟨.lck, m, xs, q3, q4⟩
theorem unlocks_in {r0 : Env} : ∀ {ws : List W} {r : Env} {ys : List D}, j ∈ slotsOf ws → gets r0 j = .acc m ys → gets r j = .acc .lck xs → gets (unlocks r0 r ws) j = .acc m xs
  | [], _, _, h, _, _ => by cases h
  | .val d :: ws, r, _, h, e0, e => unlocks_in (ws := ws) (r := r) h e0 e
  | .own zs :: ws, r, _, h, e0, e => unlocks_in (ws := ws) (r := r) h e0 e
  | .slot i :: ws, r, ys, h, e0, e => by
    show gets (unlock1 r0 (unlocks r0 r ws) (.slot i)) j = _
    rw [unlock1_at]
    rcases unlocks_at (r0 := r0) (ws := ws) (r := r) j with q | ⟨m', ys', xs', q1, q2, q3, q4⟩
    · by_cases h2 : j = i
      · rw [if_pos h2, ← h2, e0, q, e]
      · rw [if_neg h2]
        exact unlocks_in (ws := ws) ((List.mem_cons.mp h).resolve_left h2) e0 e
    · rw [e0] at q2; cases q2
      rw [e] at q3; cases q3
      by_cases h2 : j = i
      · rw [if_pos h2, ← h2, e0, q4]
        cases m <;> rfl
      · rw [if_neg h2]; exact q4
/-- what is walked is evaluated, locked, walked, unlocked -/
theorem Po.walk (p : Po K H T σ r σ1 r1 ws vs H1) (q : Po K H1 (Tw T ws vs) σ1 (locks r1 ws) σ2 r2 us zs H2) : Po K H T σ r σ2 (unlocks r1 r2 ws) us zs H2 := by
  have back : ∀ b, H1 b = none → H b = none := fun b e => Classical.byContradiction fun n => p.pers b n e
  have muL : ∀ b, Mu σ1 (locks r1 ws) b → Mu σ1 r1 b := fun b ⟨j, m, xs, e, nl, e2⟩ => by
    rcases locks_same ws r1 j with z | ⟨m1, m2, ys, z1, z2⟩
    · exact ⟨j, m, xs, z ▸ e, nl, e2⟩
    · rw [z2] at e; cases e
      obtain ⟨m', z3, z4⟩ := locks_acc (ws := ws) z1
      rw [z2] at z3; cases z3
      rcases z4 with z4 | z4
      · exact (nl z4.1).elim
      · exact ⟨j, m1, xs, z1, by rw [← z4.1]; exact nl, e2⟩
  have sm := unlocks_same (r0 := r1) (ws := ws) (r := r2)
  have hT : ∀ b, Tw T us zs b → Tw (Tw T ws vs) us zs b := fun b z => z.imp .inl id
  refine ⟨p.t0, fun b o e n => ?_, fun b h => q.pers b (p.pers b h), (sm.er unlocks_len q.env).sub hT, q.res.re (fun b z => z.imp (hT b) (sm.acc b).mp) (fun b hb => .inr hb), fun b hb => back b (q.fresh b hb), q.nd, fun b x => ?_, fun b x => ?_, fun i m xs e nf => ?_⟩
  · refine q.frame b o (p.frame b o e n) fun z => ?_
    rcases p.mun b (muL b z) with z | z
    · exact n z
    · rw [e] at z; cases z
  · rcases q.news b ((sm.acc b).mp x) with x | x
    · exact p.news b (((locks_same ws r1).acc b).mp x)
    · exact .inr (back b x)
  · obtain ⟨j, m, xs, e, nl, e2⟩ := x
    rcases unlocks_at (r0 := r1) (ws := ws) (r := r2) j with z | ⟨m', ys, xs', z1, z2, z3, z4⟩
    · rcases q.mun b ⟨j, m, xs, z ▸ e, nl, e2⟩ with x | x
      · exact p.mun b (muL b x)
      · exact .inr (back b x)
    · rw [z4] at e; cases e
      obtain ⟨m2, e3, e4⟩ := locks_acc (ws := ws) z2
      have hm : m2 = .lck := e4.elim (fun z => z.1) fun z => (z.2 z1).elim
      subst hm
      obtain ⟨_, e5⟩ := q.keep j .lck ys e3 Md.noConfusion
      rw [e2] at e5
      exact p.mun b ⟨j, m, ys, z2, nl, e5.symm⟩
  · obtain ⟨⟨ys, e1, l1⟩, s1⟩ := p.keep i m xs e nf
    obtain ⟨m2, e3, e4⟩ := locks_acc (ws := ws) e1
    rcases e4 with ⟨rfl, hi⟩ | ⟨rfl, hi⟩
    · obtain ⟨⟨zs', e5, l5⟩, s5⟩ := q.keep i .lck ys e3 Md.noConfusion
      have := l5 rfl
      subst this
      exact ⟨⟨zs', unlocks_in hi e1 e5, l1⟩, s5.trans s1⟩
    · obtain ⟨⟨zs', e5, l5⟩, s5⟩ := q.keep i m2 ys e3 nf
      exact ⟨⟨zs', by rw [unlocks_out hi]; exact e5, fun z => (l5 z).trans (l1 z)⟩, s5.trans s1⟩
theorem Po.locked (p : Po K H T σ r σ1 r1 ws vs H1) : ER K H1 (Tw T ws vs) σ1 (locks r1 ws) ∧ WRs K H1 (Tw T ws vs) σ1 (locks r1 ws) ws vs :=
  ⟨(locks_same ws r1).er locks_len p.env, p.res.re (fun b z => z.imp id ((locks_same ws r1).acc b).mp) fun b hb => .inr hb⟩

/-! ### calls -/
theorem argS_cases {s : Sl} (e : argS r w = some s) : (∃ d, w = .val d ∧ s = .val d) ∨ ∃ i m xs, w = .slot i ∧ gets r i = .acc m xs ∧ m ≠ .lck ∧ s = .acc .fix xs := by
  cases w with
  | val d => cases e; exact .inl ⟨d, rfl, rfl⟩
  | own xs => cases e
  | slot i =>
    unfold argS at e
    dsimp only at e
    cases q : gets r i with
    | no => rw [q] at e; cases e
    | val d => rw [q] at e; cases e
    | acc m xs =>
      rw [q] at e
      cases m with
      | free => cases e; exact .inr ⟨i, .free, xs, rfl, q, Md.noConfusion, rfl⟩
      | fix => cases e; exact .inr ⟨i, .fix, xs, rfl, q, Md.noConfusion, rfl⟩
      | lck => cases e
theorem argsS_len : ∀ {ws : List W} {ss : List Sl}, argsS r ws = some ss → ss.length = ws.length
  | [], _, e => by cases e; rfl
  | w :: ws, ss, e => by
    unfold argsS at e
    cases q1 : argS r w with
    | none => rw [q1] at e; cases e
    | some s =>
      cases q2 : argsS r ws with
      | none => rw [q1, q2] at e; cases e
      | some ss' =>
        rw [q1, q2] at e; cases e
        exact congrArg (· + 1) (argsS_len q2)
/-- each argument is a value, or a list that is lent -/
theorem argsS_at : ∀ {ws : List W} {vs : List V} {ss : List Sl} (k : Nat), argsS r ws = some ss → WRs K H T σ r ws vs → gets ss k ≠ .no → ∃ w v, ws[k]? = some w ∧ vs[k]? = some v ∧ WR K H T σ r w v ∧ argS r w = some (gets ss k)
  | [], _, _, _, e, _, n => by cases e; exact (n rfl).elim
  | w :: ws, _, ss, k, e, h, n => by
    unfold argsS at e
    cases q1 : argS r w with
    | none => rw [q1] at e; cases e
    | some s =>
      cases q2 : argsS r ws with
      | none => rw [q1, q2] at e; cases e
      | some ss' =>
        rw [q1, q2] at e; cases e
        cases h with
        | cons g t =>
          cases k with
          | zero => exact ⟨_, _, rfl, rfl, g, q1⟩
          | succ k => exact argsS_at (ws := ws) k q2 t n
theorem argsS_owns : ∀ {ws : List W} {vs : List V} {ss : List Sl}, argsS r ws = some ss → owns ws vs = []
  | [], _, _, _ => by cases ‹List V› <;> rfl
  | _ :: _, [], _, _ => rfl
  | w :: ws, v :: vs, ss, e => by
    unfold argsS at e
    cases q1 : argS r w with
    | none => rw [q1] at e; cases e
    | some s =>
      cases q2 : argsS r ws with
      | none => rw [q1, q2] at e; cases e
      | some ss' =>
        have ih := argsS_owns (vs := vs) q2
        show ownA w v ++ owns ws vs = []
        rw [ih]
        rcases argS_cases q1 with ⟨d, rfl, _⟩ | ⟨i, m, xs, rfl, _⟩
        · rfl
        · rfl
theorem nodupN_iff : ∀ {l : List Nat}, nodupN l = true → l.Nodup
  | [], _ => List.nodup_nil
  | x :: l, h => by
    unfold nodupN at h
    simp only [Bool.and_eq_true, Bool.not_eq_true', List.contains_eq_mem, decide_eq_false_iff_not] at h
    exact List.nodup_cons.mpr ⟨h.1, nodupN_iff h.2⟩
/-- one name, one place -/
theorem slot_place : ∀ {ws : List W} {k l : Nat}, (slotsOf ws).Nodup → ws[k]? = some (W.slot i) → ws[l]? = some (W.slot i) → k = l
  | [], _, _, _, e, _ => by simp at e
  | w :: ws, 0, 0, _, _, _ => rfl
  | w :: ws, 0, l + 1, nd, e1, e2 => by
    simp at e1; subst e1
    have nd' : (i :: slotsOf ws).Nodup := nd
    exact ((List.nodup_cons.mp nd').1 (mem_slots (List.mem_of_getElem? (by simpa using e2)))).elim
  | w :: ws, k + 1, 0, nd, e1, e2 => by
    simp at e2; subst e2
    have nd' : (i :: slotsOf ws).Nodup := nd
    exact ((List.nodup_cons.mp nd').1 (mem_slots (List.mem_of_getElem? (by simpa using e1)))).elim
  | w :: ws, k + 1, l + 1, nd, e1, e2 => by
    have nd' : (slotsOf ws).Nodup := by
      cases w with
      | val d => exact nd
      | own xs => exact nd
      | slot j => exact (List.nodup_cons.mp (show (j :: slotsOf ws).Nodup from nd)).2
    exact congrArg (· + 1) (slot_place nd' (by simpa using e1) (by simpa using e2))
theorem backArgs_len : ∀ {ws : List W} {ss : List Sl} {r : Env}, (backArgs ws ss r).length = r.length
  | [], _, _ => by cases ‹List Sl› <;> rfl
  | w :: ws, [], _ => by cases w <;> rfl
  | .val d :: ws, s :: ss, r => by
    show (backArgs ws ss r).length = _
    exact backArgs_len
  | .own d :: ws, s :: ss, r => by
    show (backArgs ws ss r).length = _
    exact backArgs_len
  | .slot i :: ws, .no :: ss, r => by
    show (backArgs ws ss r).length = _
    exact backArgs_len
  | .slot i :: ws, .val d :: ss, r => by
    show (backArgs ws ss r).length = _
    exact backArgs_len
  | .slot i :: ws, .acc m xs :: ss, r => by
    unfold backArgs
    split
    · rw [backArgs_len, sets_length]
    · exact backArgs_len
theorem backArgs_out : ∀ {ws : List W} {ss : List Sl} {r : Env}, j ∉ slotsOf ws → gets (backArgs ws ss r) j = gets r j
  | [], _, _, _ => by cases ‹List Sl› <;> rfl
  | w :: ws, [], _, _ => by cases w <;> rfl
  | .val d :: ws, s :: ss, r, h => backArgs_out (ws := ws) (ss := ss) h
  | .own d :: ws, s :: ss, r, h => backArgs_out (ws := ws) (ss := ss) h
  | .slot i :: ws, s :: ss, r, h => by
    have h' : j ∉ i :: slotsOf ws := h
    rw [List.mem_cons, not_or] at h'
    cases s with
    | no => exact backArgs_out (ws := ws) (ss := ss) h'.2
    | val d => exact backArgs_out (ws := ws) (ss := ss) h'.2
    | acc m xs =>
      unfold backArgs
      split
      · rw [backArgs_out h'.2, gets_sets_ne h'.1]
      · exact backArgs_out h'.2
theorem backArgs_in : ∀ {ws : List W} {ss : List Sl} {r : Env} {k : Nat} {m' : Md}, (slotsOf ws).Nodup → ws[k]? = some (W.slot j) → gets ss k = .acc m' ys → gets r j = .acc m xs → gets (backArgs ws ss r) j = .acc m ys
  | [], _, _, _, _, _, e, _, _ => by simp at e
  | w :: ws, [], _, _, _, _, _, e, _ => by cases e
  | .val d :: ws, s :: ss, r, 0, _, _, e, _, _ => by simp at e
  | .own d :: ws, s :: ss, r, 0, _, _, e, _, _ => by simp at e
  | .val d :: ws, s :: ss, r, k + 1, _, nd, e, e1, e2 => backArgs_in (ws := ws) (ss := ss) (k := k) nd (by simpa using e) e1 e2
  | .own d :: ws, s :: ss, r, k + 1, _, nd, e, e1, e2 => backArgs_in (ws := ws) (ss := ss) (k := k) nd (by simpa using e) e1 e2
  | .slot i :: ws, s :: ss, r, 0, m', nd, e, e1, e2 => by
    simp at e; subst e
    have e1' : s = .acc m' ys := e1
    subst e1'
    have nd' : (i :: slotsOf ws).Nodup := nd
    unfold backArgs
    rw [e2]
    dsimp only
    rw [backArgs_out (List.nodup_cons.mp nd').1, gets_sets_same (gets_lt (by rw [e2]; exact Sl.noConfusion))]
  | .slot i :: ws, s :: ss, r, k + 1, m', nd, e, e1, e2 => by
    have nd' : (i :: slotsOf ws).Nodup := nd
    have e' : ws[k]? = some (W.slot j) := by simpa using e
    have hji : j ≠ i := fun z => (List.nodup_cons.mp nd').1 (z ▸ mem_slots (List.mem_of_getElem? e'))
    cases s with
    | no => exact backArgs_in (ws := ws) (ss := ss) (k := k) (List.nodup_cons.mp nd').2 e' e1 e2
    | val d => exact backArgs_in (ws := ws) (ss := ss) (k := k) (List.nodup_cons.mp nd').2 e' e1 e2
    | acc m2 xs2 =>
      unfold backArgs
      split
      · exact backArgs_in (k := k) (List.nodup_cons.mp nd').2 e' e1 (by rw [gets_sets_ne hji]; exact e2)
      · exact backArgs_in (k := k) (List.nodup_cons.mp nd').2 e' e1 e2

/-- what the callee must leave alone -/
def Tc (T : Addr → Prop) (σ1 : L2.St) (r1 : Env) (vs : List V) (ss : List Sl) : Addr → Prop := fun b => T b ∨ (Acc σ1 r1 b ∧ ¬ Acc (vs.map some) ss b)
theorem map_at {vs : List V} {k : Nat} {x : V} : (vs.map some)[k]? = some (some x) ↔ vs[k]? = some x := by
  rw [List.getElem?_map]
  cases vs[k]? <;> simp
theorem arg_acc {ss : List Sl} (p : WRs K H T σ1 r1 ws vs) (e : argsS r1 ws = some ss) (x : Acc (vs.map some) ss a) : ∃ k i m xs, ws[k]? = some (W.slot i) ∧ gets r1 i = .acc m xs ∧ m ≠ .lck ∧ σ1[i]? = some (some (.ref a)) ∧ gets ss k = .acc .fix xs ∧ vs[k]? = some (.ref a) := by
  obtain ⟨k, m, xs, e1, e2⟩ := x
  obtain ⟨w, v, h1, h2, h3, h4⟩ := argsS_at k e p (by rw [e1]; exact Sl.noConfusion)
  rw [e1] at h4
  have e2 := map_at.mp e2
  rw [e2] at h2; cases h2
  rcases argS_cases h4 with ⟨d, _, z⟩ | ⟨i, m', xs', rfl, z1, z2, z3⟩
  · cases z
  · cases z3
    exact ⟨k, i, m', xs, h1, z1, z2, h3, e1, e2⟩
theorem Po.args {ss : List Sl} (p : Po K H T σ r σ1 r1 ws vs H1) (e : argsS r1 ws = some ss) (nd : (slotsOf ws).Nodup) : ER K H1 (Tc T σ1 r1 vs ss) (vs.map some) ss := by
  have hT : Tw T ws vs = T := funext fun b => propext ⟨fun z => z.elim id fun z => absurd (show b ∈ ([] : List Addr) from (argsS_owns e (vs := vs)) ▸ z) (by simp), .inl⟩
  have E : ER K H1 T σ1 r1 := hT ▸ p.env
  have P : WRs K H1 T σ1 r1 ws vs := hT ▸ p.res
  have hA : ∀ b, Acc (vs.map some) ss b → Acc σ1 r1 b := fun b x => by
    obtain ⟨k, i, m, xs, _, h1, _, h2, _⟩ := arg_acc P e x
    exact ⟨i, m, xs, h1, h2⟩
  have hN : ∀ b, (Tc T σ1 r1 vs ss b ∨ Acc (vs.map some) ss b) → (T b ∨ Acc σ1 r1 b) := fun b z => by
    rcases z with (z | z) | z
    · exact .inl z
    · exact .inr z.1
    · exact .inr (hA b z)
  refine ⟨?_, fun k d e1 => ?_, fun k m xs e1 => ?_, fun k l m1 m2 x1 x2 c e1 e2 e3 e4 => ?_, fun b z => ?_⟩
  · rw [List.length_map, argsS_len e, ← P.length]
  · obtain ⟨w, v, h1, h2, h3, h4⟩ := argsS_at k e P (by rw [e1]; exact Sl.noConfusion)
    rw [e1] at h4
    rcases argS_cases h4 with ⟨d', rfl, z⟩ | ⟨i, m', xs', _, _, _, z⟩
    · cases z
      exact ⟨v, map_at.mpr h2, Rep.anti h3 hN⟩
    · cases z
  · obtain ⟨w, v, h1, h2, h3, h4⟩ := argsS_at k e P (by rw [e1]; exact Sl.noConfusion)
    rw [e1] at h4
    rcases argS_cases h4 with ⟨d', rfl, z⟩ | ⟨i, m', xs', rfl, z1, z2, z3⟩
    · cases z
    · cases z3
      obtain ⟨a, us, e2, e3, e4, e5, e6⟩ := E.acc i m' xs z1
      have h3 : σ1[i]? = some (some v) := h3
      rw [h3] at e2; cases e2
      refine ⟨a, us, map_at.mpr h2, fun z => ?_, e4, e5.anti hN, e6⟩
      rcases z with z | z
      · exact e3 z
      · exact z.2 ⟨k, .fix, xs, e1, map_at.mpr h2⟩
  · obtain ⟨k', i1, m1', y1, h1, h2, _, h3, h4, h5⟩ := arg_acc P e ⟨k, m1, x1, e1, e3⟩
    obtain ⟨w, v, g1, g2, g3, g4⟩ := argsS_at k e P (by rw [e1]; exact Sl.noConfusion)
    obtain ⟨w', v', f1, f2, f3, f4⟩ := argsS_at l e P (by rw [e2]; exact Sl.noConfusion)
    rw [e1] at g4
    rw [e2] at f4
    have e3 := map_at.mp e3
    have e4 := map_at.mp e4
    rw [e3] at g2; cases g2
    rw [e4] at f2; cases f2
    rcases argS_cases g4 with ⟨d', _, z⟩ | ⟨i, mi, xi, rfl, z1, z2, z3⟩
    · cases z
    · rcases argS_cases f4 with ⟨d', _, z⟩ | ⟨i', mi', xi', rfl, y1, y2, y3⟩
      · cases z
      · have hi := E.inj i i' mi mi' xi xi' c z1 y1 g3 f3
        subst hi
        exact slot_place nd g1 f1
  · rcases z with z | z
    · exact E.tal b z
    · exact (E.accT z.1).2
theorem Po.call {ss out : List Sl} (p : Po K H T σ r σ1 r1 ws vs H1) (e : argsS r1 ws = some ss) (nd : (slotsOf ws).Nodup) (q : Po K H1 (Tc T σ1 r1 vs ss) (vs.map some) ss (vs.map some) out [w] [v] H2) (hw : ∀ k, w ≠ .slot k) :
    Po K H T σ r σ1 (backArgs ws out r1) [w] [v] H2 := by
  have hT : Tw T ws vs = T := funext fun b => propext ⟨fun z => z.elim id fun z => absurd (show b ∈ ([] : List Addr) from (argsS_owns e (vs := vs)) ▸ z) (by simp), .inl⟩
  have E : ER K H1 T σ1 r1 := hT ▸ p.env
  have P : WRs K H1 T σ1 r1 ws vs := hT ▸ p.res
  have EC := p.args e nd
  have back : ∀ b, H1 b = none → H b = none := fun b e => Classical.byContradiction fun n => p.pers b n e
  -- each slot behind the call
  have slot : ∀ j, (j ∉ slotsOf ws ∨ (∀ m xs, gets r1 j ≠ .acc m xs)) ∧ gets (backArgs ws out r1) j = gets r1 j ∨ ∃ k m xs ys a, ws[k]? = some (W.slot j) ∧ gets r1 j = .acc m xs ∧ m ≠ .lck ∧ gets out k = .acc .fix ys ∧ gets (backArgs ws out r1) j = .acc m ys ∧ vs[k]? = some (.ref a) ∧ σ1[j]? = some (some (.ref a)) ∧ Acc (vs.map some) ss a := fun j => by
    by_cases hj : j ∈ slotsOf ws
    · obtain ⟨k, hk⟩ : ∃ k, ws[k]? = some (W.slot j) := by
        have : W.slot j ∈ ws := by
          clear P EC q p e nd hT
          induction ws with
          | nil => cases hj
          | cons w ws ih =>
            cases w with
            | val d => exact List.mem_cons_of_mem _ (ih hj)
            | own d => exact List.mem_cons_of_mem _ (ih hj)
            | slot i =>
              have hj' : j ∈ i :: slotsOf ws := hj
              rcases List.mem_cons.mp hj' with z | z
              · rw [z]; exact List.mem_cons_self
              · exact List.mem_cons_of_mem _ (ih z)
        obtain ⟨k, hk⟩ := List.getElem?_of_mem this
        exact ⟨k, hk⟩
      have hs : ∃ s, argS r1 (.slot j) = some s ∧ gets ss k = s ∧ ∃ v, vs[k]? = some v ∧ σ1[j]? = some (some v) := by
        clear q EC hT p
        induction ws generalizing k vs ss with
        | nil => simp at hk
        | cons w ws ih =>
          unfold argsS at e
          cases q1 : argS r1 w with
          | none => rw [q1] at e; cases e
          | some s =>
            cases q2 : argsS r1 ws with
            | none => rw [q1, q2] at e; cases e
            | some ss' =>
              rw [q1, q2] at e; cases e
              cases P with
              | cons g t =>
                cases k with
                | zero =>
                  simp at hk; subst hk
                  exact ⟨s, q1, rfl, _, rfl, g⟩
                | succ k =>
                  have nd' : (slotsOf ws).Nodup := by
                    cases w with
                    | val d => exact nd
                    | own xs => exact nd
                    | slot i => exact (List.nodup_cons.mp (show (i :: slotsOf ws).Nodup from nd)).2
                  have hk' : ws[k]? = some (W.slot j) := by simpa using hk
                  obtain ⟨s', h1, h2, v', h3, h4⟩ := ih q2 nd' t (mem_slots (List.mem_of_getElem? hk')) k hk'
                  exact ⟨s', h1, h2, v', h3, h4⟩
      obtain ⟨s, h1, h2, v', h3, h4⟩ := hs
      rcases argS_cases h1 with ⟨d, z, _⟩ | ⟨i, m, xs, z, z1, z2, z3⟩
      · cases z
      · cases z
        subst z3
        obtain ⟨⟨ys, e5, _⟩, _⟩ := q.keep k .fix xs h2 Md.noConfusion
        obtain ⟨a, us, e6, _⟩ := E.acc j m xs z1
        rw [h4] at e6; cases e6
        exact .inr ⟨k, m, xs, ys, a, hk, z1, z2, e5, backArgs_in nd hk e5 z1, h3, h4, ⟨k, .fix, xs, h2, map_at.mpr h3⟩⟩
    · exact .inl ⟨.inl hj, backArgs_out hj⟩
  have accB : ∀ j m ys, gets (backArgs ws out r1) j = .acc m ys → ∃ xs, gets r1 j = .acc m xs := fun j m ys h => by
    rcases slot j with ⟨_, z⟩ | ⟨k, m', xs, ys', a, _, z1, _, _, z2, _⟩
    · exact ⟨ys, z ▸ h⟩
    · rw [z2] at h; cases h
      exact ⟨xs, z1⟩
  have ha : ∀ b, Acc σ1 (backArgs ws out r1) b → Acc σ1 r1 b := fun b ⟨j, m, ys, h1, h2⟩ => by
    obtain ⟨xs, h⟩ := accB j m ys h1
    exact ⟨j, m, xs, h, h2⟩
  have hm : ∀ b, Mu σ1 (backArgs ws out r1) b → Mu σ1 r1 b := fun b ⟨j, m, ys, h1, nl, h2⟩ => by
    obtain ⟨xs, h⟩ := accB j m ys h1
    exact ⟨j, m, xs, h, nl, h2⟩
  have muC : ∀ b, Mu (vs.map some) ss b → Mu σ1 r1 b := fun b x => by
    obtain ⟨k, i, m, xs, _, h1, h2, h3, _⟩ := arg_acc P e x.acc
    exact ⟨i, m, xs, h1, h2, h3⟩
  have accO : ∀ b, Acc (vs.map some) ss b → Acc (vs.map some) out b := fun b x => by
    obtain ⟨k, i, m, xs, _, h1, h2, h3, h4, h5⟩ := arg_acc P e x
    obtain ⟨⟨ys, e5, _⟩, _⟩ := q.keep k .fix xs h4 Md.noConfusion
    exact ⟨k, .fix, ys, e5, map_at.mpr h5⟩
  have hN : ∀ b, (Tw T [w] [v] b ∨ Acc σ1 (backArgs ws out r1) b) → (Tw (Tc T σ1 r1 vs ss) [w] [v] b ∨ Acc (vs.map some) out b) := fun b z => by
    rcases z with (z | z) | z
    · exact .inl (.inl (.inl z))
    · exact .inl (.inr z)
    · by_cases x : Acc (vs.map some) ss b
      · exact .inr (accO b x)
      · exact .inl (.inl (.inr ⟨ha b z, x⟩))
  have st : Stab H1 H2 (Mu (vs.map some) ss) (fun b => T b ∨ Acc σ1 r1 b) (fun b => Tw T [w] [v] b ∨ Acc σ1 (backArgs ws out r1) b) :=
    ⟨q.frame, EC.lists, fun b z => .inr (muC b z).acc, fun b z => by
      rcases z with (z | z) | z
      · exact .inl (.inl z)
      · exact .inr (q.fresh b z)
      · exact .inl (.inr (ha b z))⟩
  refine ⟨p.t0, fun b o h n => ?_, fun b h => q.pers b (p.pers b h), ⟨E.len.trans backArgs_len.symm, fun j d h => ?_, fun j m xs h => ?_, fun j l m1 m2 x1 x2 c e1 e2 e3 e4 => ?_, fun b z => ?_⟩, ?_, fun b hb => back b (q.fresh b hb), q.nd, fun b x => p.news b (ha b x), fun b x => p.mun b (hm b x), fun j m xs h nf => ?_⟩
  · refine q.frame b o (p.frame b o h n) fun z => ?_
    rcases p.mun b (muC b z) with z | z
    · exact n z
    · rw [h] at z; cases z
  · rcases slot j with ⟨_, z⟩ | ⟨k, m', xs, ys', a, _, z1, _, _, z2, _⟩
    · obtain ⟨u, e1, e2⟩ := E.val j d (z ▸ h)
      exact ⟨u, e1, e2.stab st⟩
    · rw [z2] at h; cases h
  · rcases slot j with ⟨z0, z⟩ | ⟨k, m', xs', ys', a, z1, z2, z3, z4, z5, z6, z7, z8⟩
    · rw [z] at h
      obtain ⟨a, us, e1, e2, e3, e4, e5⟩ := E.acc j m xs h
      have hnot : ¬ Acc (vs.map some) ss a := fun x => by
        obtain ⟨k, i, m', xs', h1, h2, _, h3, _⟩ := arg_acc P e x
        have := E.inj j i m m' xs xs' a h h2 e1 h3
        subst this
        rcases z0 with z0 | z0
        · exact z0 (mem_slots (List.mem_of_getElem? h1))
        · exact z0 _ _ h2
      refine ⟨a, us, e1, fun z => ?_, q.frame a _ e3 fun z => hnot z.acc, e4.stab st, e5⟩
      rcases z with z | z
      · exact e2 z
      · have := q.fresh a z
        rw [e3] at this; cases this
    · rw [z5] at h; cases h
      obtain ⟨a', us, e1, e2, e3, e4, e5⟩ := q.env.acc k .fix xs z4
      have e1 := map_at.mp e1
      rw [z6] at e1; cases e1
      refine ⟨a, us, z7, fun z => e2 (z.imp .inl id), e3, e4.anti hN, e5⟩
  · obtain ⟨y1, h1⟩ := accB j m1 x1 e1
    obtain ⟨y2, h2⟩ := accB l m2 x2 e2
    exact E.inj j l m1 m2 y1 y2 c h1 h2 e3 e4
  · exact q.env.tal b (z.imp .inl id)
  · cases q.res with
    | cons h t =>
      cases t
      refine .cons ?_ .nil
      cases w with
      | val d => exact Rep.anti h hN
      | own xs =>
        obtain ⟨a, us, e1, t, e3, e4, e5⟩ := h
        subst e1
        exact ⟨a, us, rfl, .inr (List.mem_singleton.mpr rfl), e3, e4.anti hN, e5⟩
      | slot k => exact (hw k rfl).elim
  · obtain ⟨⟨ys, e1, l1⟩, s1⟩ := p.keep j m xs h nf
    refine ⟨?_, s1⟩
    rcases slot j with ⟨_, z⟩ | ⟨k, m', xs', ys', a, _, z2, z3, _, z5, _⟩
    · exact ⟨ys, z.trans e1, l1⟩
    · rw [e1] at z2; cases z2
      exact ⟨ys', z5, fun z => (z3 z).elim⟩
end
end MP

set_option maxHeartbeats 1000000
/-! Operations on values. -/
namespace MP
open PySem PySem.Spec PyProof.Rows L2

theorem LIM_le : LIM ≤ sizeLine := by rw [sizeLine_eq]; decide
/-! ### data -/
mutual
def py : D → PyData
  | .non => .none
  | .bl b => .bool b
  | .int i => .int i
  | .str s => .str ⟨s.toArray⟩
  | .tup xs => .tuple (pys xs)
  | .lst xs => .list (pys xs)
  | .scr _ => .none
  | .dct _ => .none
def pys : List D → List PyData
  | [] => []
  | x :: xs => py x :: pys xs
end
mutual
theorem py_plain : ∀ d : D, pln d = true → (py d).plain = true
  | .non, _ => rfl
  | .bl _, _ => rfl
  | .int _, _ => rfl
  | .str _, _ => rfl
  | .tup xs, h => by rw [py, PyData.plain]; exact pys_plain xs (by rwa [pln] at h)
  | .lst xs, h => by rw [py, PyData.plain]; exact pys_plain xs (by rwa [pln] at h)
  | .scr _, h => by cases h
  | .dct _, h => by cases h
theorem pys_plain : ∀ xs : List D, plns xs = true → PyData.plainAll (pys xs) = true
  | [], _ => rfl
  | x :: xs, h => by
    rw [plns, Bool.and_eq_true] at h
    rw [pys, PyData.plainAll, py_plain x h.1, pys_plain xs h.2]; rfl
end
mutual
theorem py_dep : ∀ d : D, (py d).depth = dep d
  | .non => rfl
  | .bl _ => rfl
  | .int _ => rfl
  | .str _ => rfl
  | .tup xs => by rw [py, PyData.depth, pys_dep xs, dep]
  | .lst xs => by rw [py, PyData.depth, pys_dep xs, dep]
  | .scr _ => rfl
  | .dct _ => rfl
theorem pys_dep : ∀ xs : List D, PyData.depthAll (pys xs) = deps xs
  | [] => rfl
  | x :: xs => by rw [pys, PyData.depthAll, py_dep x, pys_dep xs, deps]
end
mutual
theorem eqD_py : ∀ d e : D, pln d = true → pln e = true → eqD d e = PyData.eqv (py d) (py e)
  | .non, e, _, he => by cases e <;> first | rfl | cases he
  | .bl a, e, _, he => by
    cases e with
    | bl b => simp [eqD, py, PyData.eqv]
    | int j => simp [eqD, py, PyData.eqv, b2i]
    | scr _ => cases he
    | dct _ => cases he
    | _ => rfl
  | .int i, e, _, he => by
    cases e with
    | bl b => simp [eqD, py, PyData.eqv, b2i]
    | int j => simp [eqD, py, PyData.eqv]
    | scr _ => cases he
    | dct _ => cases he
    | _ => rfl
  | .str x, e, _, he => by
    cases e with
    | str y =>
      rw [eqD, py, py, PyData.eqv, Bool.eq_iff_iff]
      simp
    | scr _ => cases he
    | dct _ => cases he
    | _ => rfl
  | .tup xs, e, hd, he => by
    cases e with
    | tup ys => rw [eqD, py, py, PyData.eqv]; exact eqDs_py xs ys (by rwa [pln] at hd) (by rwa [pln] at he)
    | scr _ => cases he
    | dct _ => cases he
    | _ => simp [eqD, py, PyData.eqv]
  | .lst xs, e, hd, he => by
    cases e with
    | lst ys => rw [eqD, py, py, PyData.eqv]; exact eqDs_py xs ys (by rwa [pln] at hd) (by rwa [pln] at he)
    | scr _ => cases he
    | dct _ => cases he
    | _ => simp [eqD, py, PyData.eqv]
  | .scr _, _, hd, _ => by cases hd
  | .dct _, _, hd, _ => by cases hd
theorem eqDs_py : ∀ xs ys : List D, plns xs = true → plns ys = true → eqDs xs ys = PyData.eqvAll (pys xs) (pys ys)
  | [], [], _, _ => rfl
  | [], _ :: _, _, _ => by simp [eqDs, pys, PyData.eqvAll]
  | _ :: _, [], _, _ => by simp [eqDs, pys, PyData.eqvAll]
  | x :: xs, y :: ys, h1, h2 => by
    rw [plns, Bool.and_eq_true] at h1 h2
    rw [eqDs, pys, pys, PyData.eqvAll, eqD_py x y h1.1 h2.1, eqDs_py xs ys h1.2 h2.2]
end
theorem any_py (x : D) (hx : pln x = true) : ∀ xs : List D, plns xs = true → (pys xs).any (fun y => PyData.eqv y (py x)) = memD x xs
  | [], _ => rfl
  | y :: ys, h => by
    rw [plns, Bool.and_eq_true] at h
    show ((py y).eqv (py x) || (pys ys).any _) = (eqD y x || memD x ys)
    rw [any_py x hx ys h.2, eqD_py y x h.1 hx]
section
variable {K : PySem.W.Frag} {H H' : Hp} {N : Addr → Prop} {v : V} {d : D}
mutual
theorem Rep.dp : ∀ {v : V} {d : D}, pln d = true → Rep K H N v d → Dp K H v (py d)
  | _, .non, _, h => by cases h; exact .non
  | _, .bl b, _, h => by cases h; exact .bl b
  | _, .int i, _, h => by cases h; exact .int i
  | _, .str s, _, h => by cases h; exact .str _
  | _, .tup ds, p, h => by
    cases h with
    | tup h1 h2 h3 => exact .tup h1 (Reps.dp (by rwa [pln] at p) h2)
  | _, .lst ds, p, h => by
    cases h with
    | lst h0 h1 h2 h3 => exact .lst (.of h1) (Reps.dp (by rwa [pln] at p) h2)
  | _, .scr _, p, _ => by cases p
  | _, .dct _, p, _ => by cases p
theorem Reps.dp : ∀ {vs : List V} {ds : List D}, plns ds = true → Reps K H N vs ds → DpAll K H vs (pys ds)
  | _, [], _, h => by cases h; exact .nil
  | _, d :: ds, p, h => by
    rw [plns, Bool.and_eq_true] at p
    cases h with
    | cons h1 h2 => exact .cons (Rep.dp p.1 h1) (Reps.dp p.2 h2)
end
theorem VR.dp (h : VR K H N v d) (p : pln d = true) : Dp K H v (py d) := by
  cases d with
  | lst ds =>
    obtain ⟨a, vs, e, e1, e2, _⟩ := h
    subst e
    exact .lst (.of e1) (Reps.dp (by rwa [pln] at p) e2)
  | _ => exact Rep.dp p h

/-! ### the result forms -/
theorem Op1.same {d : D} (h : Rep K H N v d) : Op1 K H N (.val d) v H := ⟨fun _ _ e => e, h⟩
theorem upd_grow {p : Addr} {o : HO} (hp : H p = none) : ∀ b u, H b = some u → upd H p o b = some u := fun b u e => by
  rw [upd_ne (ne_of_none e hp)]; exact e
theorem Op1.list {p : Addr} {vs : List V} {xs : List D} (hp : H p = none) (h : Reps K H N vs xs) (hl : xs.length ≤ sizeLine) : Op1 K H N (.own xs) (.ref p) (upd H p (.lst vs)) :=
  ⟨upd_grow hp, p, vs, rfl, hp, upd_same, h, hl⟩
theorem Op1.tup {p : Addr} {vs : List V} {xs : List D} (hp : H p = none) (h : Reps K H N vs xs) (hl : xs.length ≤ sizeLine) : Op1 K H N (.val (.tup xs)) (.ref p) (upd H p (.tup vs)) :=
  ⟨upd_grow hp, .tup (.of upd_same) (Reps.stab (.grow (upd_grow hp) fun b z => .inl z) h) hl⟩
end

/-! ### binary operators -/
def opS : Op → Operator
  | .add => .Add | .sub => .Sub | .mul => .Mult | .fdiv => .FloorDiv | .mod => .Mod | .pow => .Pow | .shl => .LShift | .shr => .RShift | .band => .BitAnd | .bor => .BitOr
def rBin (K : PySem.W.Frag) (op : Op) : R2 := fun x y H Q => ∃ N d e w, VR K H N x d ∧ VR K H N y e ∧ binOp op d e = some w ∧ ∀ v H', Op1 K H N w v H' → Q v H'
section
variable {X : Cx}
theorem vr_int {K : PySem.W.Frag} {H : Hp} {N : Addr → Prop} {v : V} {i : Int} (h : VR K H N v (.int i)) : v = .int i := by cases (show Rep K H N v (.int i) from h); rfl
theorem vr_bl {K : PySem.W.Frag} {H : Hp} {N : Addr → Prop} {v : V} {i : Bool} (h : VR K H N v (.bl i)) : v = .bl i := by cases (show Rep K H N v (.bl i) from h); rfl
theorem vr_non {K : PySem.W.Frag} {H : Hp} {N : Addr → Prop} {v : V} (h : VR K H N v .non) : v = .non := by cases (show Rep K H N v .non from h); rfl
theorem vr_str {K : PySem.W.Frag} {H : Hp} {N : Addr → Prop} {v : V} {s : List Nat} (h : VR K H N v (.str s)) : v = .str ⟨s.toArray⟩ ∧ s.length ≤ LIM := by
  cases (show Rep K H N v (.str s) from h) with
  | str _ l => exact ⟨rfl, l⟩
theorem vr_tup {K : PySem.W.Frag} {H : Hp} {N : Addr → Prop} {v : V} {xs : List D} (h : VR K H N v (.tup xs)) : ∃ a vs, v = .ref a ∧ SqT K H a vs ∧ Reps K H N vs xs ∧ xs.length ≤ sizeLine := by
  cases (show Rep K H N v (.tup xs) from h) with
  | tup h1 h2 h3 => exact ⟨_, _, rfl, h1, h2, h3⟩
theorem Reps.nil_iff {K : PySem.W.Frag} {H : Hp} {N : Addr → Prop} {vs : List V} {xs : List D} (h : Reps K H N vs xs) : vs = [] ↔ xs = [] := by
  cases h <;> simp
theorem str_app (x y : List Nat) : (⟨x.toArray⟩ : Str) ++ ⟨y.toArray⟩ = ⟨(x ++ y).toArray⟩ := by
  show (⟨x.toArray ++ y.toArray⟩ : Str) = _
  rw [List.append_toArray]
theorem or_bin (op : Op) : OpR X (binaryOp (opS op)) (rBin X.K op) := by
  intro pins s σ H x y v u Q I rx ry h
  obtain ⟨N, d, e, w, hd, he, ho, q⟩ := h
  unfold binOp at ho
  split at ho
  · -- ints
    have hx := vr_int hd; have hy := vr_int he
    subst hx hy
    cases ho
    exact op_add pins s σ H _ _ v u Q I rx ry ⟨_, _, rfl, rfl, q _ _ (.same (.int _))⟩
  · rename_i xs ys
    split at ho
    · rename_i hl
      cases ho
      obtain ⟨a, vs, rfl, h1, h2, h3⟩ := hd
      obtain ⟨b, us, rfl, g1, g2, g3⟩ := he
      have hz : vs.length + us.length ≤ sizeLine := by
        rw [h2.length, g2.length]; exact Nat.le_trans hl LIM_le
      exact op_cat pins s σ H _ _ v u Q I rx ry ⟨a, b, vs, us, rfl, rfl, h1, g1, hz, fun p hp => q _ _ (.list hp (h2.append g2) (by rw [List.length_append]; exact Nat.le_trans hl LIM_le))⟩
    · cases ho
  · rename_i xs ys
    split at ho
    · rename_i hl
      cases ho
      obtain ⟨a, vs, rfl, h1, h2, h3⟩ := vr_tup hd
      obtain ⟨b, us, rfl, g1, g2, g3⟩ := vr_tup he
      have hz : vs.length + us.length ≤ sizeLine := by
        rw [h2.length, g2.length]; exact Nat.le_trans hl LIM_le
      refine op_catA pins s σ H _ _ v u Q I rx ry ⟨a, b, vs, us, rfl, rfl, h1, g1, hz, fun e => ?_, fun n e => ?_, fun n n2 p hp => q _ _ (.tup hp (h2.append g2) (by rw [List.length_append]; exact Nat.le_trans hl LIM_le))⟩
      · have e' := h2.nil_iff.mp e
        subst e'
        exact q _ _ (.same he)
      · have e' := g2.nil_iff.mp e
        subst e'
        refine q _ _ (.same ?_)
        rw [List.append_nil]
        exact hd
    · cases ho
  · rename_i a b
    split at ho
    · rename_i hl
      cases ho
      obtain ⟨rfl, h2⟩ := vr_str hd
      obtain ⟨rfl, g2⟩ := vr_str he
      refine op_add_str pins s σ H _ _ v u Q I rx ry ⟨_, _, rfl, rfl, ?_, ?_⟩
      · show a.toArray.size + b.toArray.size ≤ _
        simp only [List.size_toArray]
        exact Nat.le_trans hl LIM_le
      · rw [str_app]
        exact q _ _ (.same (.str _ (by rw [List.length_append]; exact hl)))
    · cases ho
  · have hx := vr_int hd; have hy := vr_int he
    subst hx hy
    cases ho
    exact op_sub pins s σ H _ _ v u Q I rx ry ⟨_, _, rfl, rfl, q _ _ (.same (.int _))⟩
  · rename_i i j
    split at ho
    · rename_i hm
      have hx := vr_int hd; have hy := vr_int he
      subst hx hy
      cases ho
      refine op_mul pins s σ H _ _ v u Q I rx ry ⟨i, j, rfl, rfl, ?_, q _ _ (.same (.int _))⟩
      unfold mulOk at hm
      simp only [Bool.or_eq_true, Bool.and_eq_true, decide_eq_true_eq] at hm
      show (-(2 ^ 64) < i ∧ i < 2 ^ 64) ∨ (-(2 ^ 64) < j ∧ j < 2 ^ 64)
      omega
    · cases ho
  · rename_i i j
    split at ho
    · rename_i hm
      have hx := vr_int hd; have hy := vr_int he
      subst hx hy
      cases ho
      exact op_fdiv pins s σ H _ _ v u Q I rx ry ⟨i, j, rfl, rfl, hm, q _ _ (.same (.int _))⟩
    · cases ho
  · rename_i i j
    split at ho
    · rename_i hm
      have hx := vr_int hd; have hy := vr_int he
      subst hx hy
      cases ho
      exact op_mod pins s σ H _ _ v u Q I rx ry ⟨i, j, rfl, rfl, hm, q _ _ (.same (.int _))⟩
    · cases ho
  · rename_i i j
    split at ho
    · rename_i hm
      have hx := vr_int hd; have hy := vr_int he
      subst hx hy
      cases ho
      exact op_pow pins s σ H _ _ v u Q I rx ry ⟨i, j, rfl, rfl, ⟨hm.1, by omega, by have := hm.2.2; omega⟩, q _ _ (.same (.int _))⟩
    · cases ho
  · rename_i i j
    split at ho
    · rename_i hm
      have hx := vr_int hd; have hy := vr_int he
      subst hx hy
      cases ho
      exact op_shl pins s σ H _ _ v u Q I rx ry ⟨i, j, rfl, rfl, ⟨hm.1, by omega, by have := hm.2.2; omega⟩, q _ _ (.same (.int _))⟩
    · cases ho
  · rename_i i j
    split at ho
    · rename_i hm
      have hx := vr_int hd; have hy := vr_int he
      subst hx hy
      cases ho
      exact op_shr pins s σ H _ _ v u Q I rx ry ⟨i, j, rfl, rfl, hm, q _ _ (.same (.int _))⟩
    · cases ho
  · cases ho

/-! ### comparisons -/
def cmS : Cm → CmpOp
  | .eq => .Eq | .ne => .NotEq | .lt => .Lt | .le => .LtE | .gt => .Gt | .ge => .GtE | .is_ => .Is | .isnot => .IsNot | .mem => .In | .nomem => .NotIn
def rCmp (K : PySem.W.Frag) (op : Cm) : R2 := fun x y H Q => ∃ N d e b, VR K H N x d ∧ VR K H N y e ∧ cmpOp op d e = some b ∧ Q (.bl b) H
theorem eqOk_at {d e : D} (h : eqOk d e = true) : pln d = true ∧ pln e = true ∧ min (dep d) (dep e) ≤ 64 := by
  unfold eqOk at h
  simp only [Bool.and_eq_true, decide_eq_true_eq] at h
  exact ⟨h.1.1, h.1.2, h.2⟩
theorem eqOk_mem {x : D} {ds : List D} (h : eqOk (.lst ds) (.lst [x]) = true) : plns ds = true ∧ pln x = true ∧ min (deps ds) (dep x) ≤ 63 := by
  obtain ⟨h1, h2, h3⟩ := eqOk_at h
  rw [pln] at h1 h2
  rw [plns, plns, Bool.and_true] at h2
  refine ⟨h1, h2, ?_⟩
  rw [dep, dep, deps, deps] at h3
  omega
theorem eqOk_memT {x : D} {ds : List D} (h : eqOk (.tup ds) (.tup [x]) = true) : plns ds = true ∧ pln x = true ∧ min (deps ds) (dep x) ≤ 63 := by
  obtain ⟨h1, h2, h3⟩ := eqOk_at h
  rw [pln] at h1 h2
  rw [plns, plns, Bool.and_true] at h2
  refine ⟨h1, h2, ?_⟩
  rw [dep, dep, deps, deps] at h3
  omega
theorem vr_isN {K : PySem.W.Frag} {H : Hp} {N : Addr → Prop} {x : V} {d : D} (hd : VR K H N x d) : decide (x = V.non) = isNon d := by
  cases d with
  | non => cases vr_non hd; rfl
  | bl b => cases vr_bl hd; rfl
  | int i => cases vr_int hd; rfl
  | str z => cases (vr_str hd).1; rfl
  | tup xs => obtain ⟨a, vs, rfl, _⟩ := vr_tup hd; rfl
  | lst xs => obtain ⟨a, vs, rfl, _⟩ := hd; rfl
  | scr xs => cases (show Rep K H N x (.scr xs) from hd); rfl
  | dct xs => cases (show Rep K H N x (.dct xs) from hd)
theorem or_cmp (hu : X.A.units + 200 < cLine) (op : Cm) : OpR X (compareOp (cmS op)) (rCmp X.K op) := by
  intro pins s σ H x y v u Q I rx ry h
  obtain ⟨N, d, e, b, hd, he, ho, q⟩ := h
  have rd : ∀ {v : V} {d : D} {u : Value}, VR X.K H N v d → pln d = true → RelV v u → ∃ as, Reads s.heap u (py d) as := fun h p r => Dp.reads I _ _ _ (h.dp p) r
  unfold cmpOp at ho
  split at ho
  · split at ho
    · rename_i hk
      cases ho
      obtain ⟨p1, p2, p3⟩ := eqOk_at hk
      obtain ⟨as, r1⟩ := rd hd p1 rx
      obtain ⟨bs, r2⟩ := rd he p2 ry
      refine SeqAt.eq_plain r1 r2 (py_plain _ p1) (py_plain _ p2) (by rw [py_dep, py_dep]; omega) ?_
      rw [← eqD_py _ _ p1 p2]
      exact ⟨.bl _, H, I, rfl, q⟩
    · cases ho
  · split at ho
    · rename_i hk
      cases ho
      obtain ⟨p1, p2, p3⟩ := eqOk_at hk
      obtain ⟨as, r1⟩ := rd hd p1 rx
      obtain ⟨bs, r2⟩ := rd he p2 ry
      refine SeqAt.ne_plain r1 r2 (py_plain _ p1) (py_plain _ p2) (by rw [py_dep, py_dep]; omega) ?_
      rw [← eqD_py _ _ p1 p2]
      exact ⟨.bl _, H, I, rfl, q⟩
    · cases ho
  · have hx := vr_int hd; have hy := vr_int he
    subst hx hy
    cases ho
    exact op_lt pins s σ H _ _ v u Q I rx ry ⟨_, _, rfl, rfl, q⟩
  · have hx := vr_int hd; have hy := vr_int he
    subst hx hy
    cases ho
    exact op_le pins s σ H _ _ v u Q I rx ry ⟨_, _, rfl, rfl, q⟩
  · have hx := vr_int hd; have hy := vr_int he
    subst hx hy
    cases ho
    exact op_gt pins s σ H _ _ v u Q I rx ry ⟨_, _, rfl, rfl, q⟩
  · have hx := vr_int hd; have hy := vr_int he
    subst hx hy
    cases ho
    exact op_ge pins s σ H _ _ v u Q I rx ry ⟨_, _, rfl, rfl, q⟩
  · have hy := vr_non he
    subst hy
    cases ho
    have hb := vr_isN hd
    exact op_isN pins s σ H _ _ v u Q I rx ry ⟨rfl, by rw [hb]; exact q⟩
  · have hy := vr_non he
    subst hy
    cases ho
    have hb := vr_isN hd
    exact op_notN pins s σ H _ _ v u Q I rx ry ⟨rfl, by rw [hb]; exact q⟩
  · rename_i x' ds
    split at ho
    · rename_i hk
      cases ho
      obtain ⟨p1, p2, p3⟩ := eqOk_mem hk
      obtain ⟨as, r1⟩ := rd he (by rw [pln]; exact p1) ry
      obtain ⟨bs, r2⟩ := rd hd p2 rx
      rw [py] at r1
      refine SeqAt.in_list_data r1 r2 (pys_plain _ p1) (py_plain _ p2) (by rw [py_dep, pys_dep]; omega) ?_
      rw [any_py _ p2 _ p1]
      exact ⟨.bl _, H, I, rfl, q⟩
    · cases ho
  · rename_i x' ds
    split at ho
    · rename_i hk
      cases ho
      obtain ⟨p1, p2, p3⟩ := eqOk_memT hk
      obtain ⟨as, r1⟩ := rd he (by rw [pln]; exact p1) ry
      obtain ⟨bs, r2⟩ := rd hd p2 rx
      rw [py] at r1
      refine SeqAt.in_tuple_data r1 r2 (pys_plain _ p1) (py_plain _ p2) (by rw [py_dep, pys_dep]; omega) ?_
      rw [any_py _ p2 _ p1]
      exact ⟨.bl _, H, I, rfl, q⟩
    · cases ho
  · rename_i x' ds
    split at ho
    · rename_i hk
      cases ho
      obtain ⟨p1, p2, p3⟩ := eqOk_mem hk
      obtain ⟨as, r1⟩ := rd he (by rw [pln]; exact p1) ry
      obtain ⟨bs, r2⟩ := rd hd p2 rx
      rw [py] at r1
      refine SeqAt.notIn_list_data r1 r2 (pys_plain _ p1) (py_plain _ p2) (by rw [py_dep, pys_dep]; omega) ?_
      rw [any_py _ p2 _ p1]
      exact ⟨.bl _, H, I, rfl, q⟩
    · cases ho
  · rename_i x' ds
    split at ho
    · rename_i hk
      cases ho
      obtain ⟨p1, p2, p3⟩ := eqOk_memT hk
      obtain ⟨as, r1⟩ := rd he (by rw [pln]; exact p1) ry
      obtain ⟨bs, r2⟩ := rd hd p2 rx
      rw [py] at r1
      refine SeqAt.notIn_tuple_data r1 r2 (pys_plain _ p1) (py_plain _ p2) (by rw [py_dep, pys_dep]; omega) ?_
      rw [any_py _ p2 _ p1]
      exact ⟨.bl _, H, I, rfl, q⟩
    · cases ho
  · cases ho

/-! ### subscripts, slices -/
def rSub (K : PySem.W.Frag) : R2 := fun x y H Q => ∃ N d e g, VR K H N x d ∧ VR K H N y e ∧ subOp d e = some g ∧ ∀ v, Rep K H N v g → Q v H
theorem sub_at {K : PySem.W.Frag} {H : Hp} {N : Addr → Prop} {vs : List V} {xs : List D} {i : Int} {g : D} (h : Reps K H N vs xs) (e : ((MP.ixN xs.length i).bind fun k => xs[k]?) = some g) : ∃ v, L2.atI vs i = some v ∧ Rep K H N v g := by
  cases q : MP.ixN xs.length i with
  | none => rw [q] at e; cases e
  | some k =>
    rw [q] at e
    obtain ⟨v, e1, e2⟩ := h.get (k := k) e
    refine ⟨v, ?_, e2⟩
    have q' : L2.ixN vs.length i = some k := by rw [h.length]; exact q
    unfold L2.atI
    rw [q']
    exact e1
theorem ix_sub : IxR X (rSub X.K) := by
  intro va sl pins s σ H x y v u Q I rx ry h hsub
  obtain ⟨N, d, e, g, hd, he, ho, q⟩ := h
  unfold subOp at ho
  split at ho
  · have hy := vr_int he
    subst hy
    obtain ⟨a, vs, rfl, h1, h2, h3⟩ := hd
    obtain ⟨z, e1, e2⟩ := sub_at h2 ho
    exact ix_list va sl pins s σ H _ _ v u Q I rx ry ⟨a, vs, _, z, rfl, rfl, .of h1, e1, q _ e2⟩ hsub
  · have hy := vr_int he
    subst hy
    obtain ⟨a, vs, rfl, h1, h2, h3⟩ := vr_tup hd
    obtain ⟨z, e1, e2⟩ := sub_at h2 ho
    exact ix_tup va sl pins s σ H _ _ v u Q I rx ry ⟨a, vs, _, z, rfl, rfl, h1, e1, q _ e2⟩ hsub
  · cases ho
theorem cut_eq {vs : List V} (lo hi : Option Int) : cutV vs lo hi = MP.cut vs lo hi := by
  unfold cutV MP.cut
  have h : ∀ n d o, HT.sIx n d o = MP.sIx n d o := fun n d o => by cases o <;> rfl
  rw [h, h]
theorem Reps.cut {K : PySem.W.Frag} {H : Hp} {N : Addr → Prop} {vs : List V} {xs : List D} (h : Reps K H N vs xs) (lo hi : Option Int) : Reps K H N (MP.cut vs lo hi) (MP.cut xs lo hi) := by
  unfold MP.cut
  rw [h.length]
  exact (h.drop _).take _
theorem cut_len {α : Type} (xs : List α) (lo hi : Option Int) : (MP.cut xs lo hi).length ≤ xs.length := by
  unfold MP.cut
  rw [List.length_take, List.length_drop]
  omega
theorem cut_map {α β : Type} (f : α → β) (xs : List α) (lo hi : Option Int) : MP.cut (xs.map f) lo hi = (MP.cut xs lo hi).map f := by
  unfold MP.cut
  rw [List.length_map, List.map_take, List.map_drop]
theorem cut_whole {α : Type} {xs : List α} {lo hi : Option Int} (h : HT.sIx xs.length 0 lo = 0 ∧ HT.sIx xs.length xs.length hi = xs.length) : MP.cut xs lo hi = xs := by
  unfold MP.cut
  have e : ∀ n d o, HT.sIx n d o = MP.sIx n d o := fun n d o => by cases o <;> rfl
  rw [← e, ← e, h.1, h.2, List.drop_zero, Nat.sub_zero, List.take_length]
def rCut (K : PySem.W.Frag) : V → Option Int → Option Int → Hp → VK → Prop := fun x lo hi H Q => ∃ N d w, VR K H N x d ∧ cutOp lo hi d = some w ∧ ∀ v H', Op1 K H N w v H' → Q v H'
theorem sl_cut : SlR X (rCut X.K) := by
  intro pins s σ H x v vl vu lo hi sl Q I rx hs pl pu h
  obtain ⟨N, d, w, hd, ho, q⟩ := h
  unfold cutOp at ho
  split at ho
  · cases ho
    obtain ⟨a, vs, rfl, h1, h2, h3⟩ := hd
    refine sl_list pins s σ H _ v vl vu lo hi sl Q I rx hs pl pu ⟨a, vs, rfl, .of h1, fun p hp => ?_⟩
    rw [cut_eq]
    exact q _ _ (.list hp (h2.cut lo hi) (Nat.le_trans (cut_len _ _ _) h3))
  · cases ho
    obtain ⟨a, vs, rfl, h1, h2, h3⟩ := vr_tup hd
    refine sl_tupA pins s σ H _ v vl vu lo hi sl Q I rx hs pl pu ⟨a, vs, rfl, h1, fun e => ?_, fun _ p hp => ?_⟩
    · refine q _ _ (.same ?_)
      rw [h2.length] at e
      rw [cut_whole e]
      exact hd
    · rw [cut_eq]
      exact q _ _ (.tup hp (h2.cut lo hi) (Nat.le_trans (cut_len _ _ _) h3))
  · rename_i ns
    cases ho
    cases (show Rep X.K H N x (.scr ns) from hd) with
    | scr h1 h2 =>
      refine sl_list pins s σ H _ v vl vu lo hi sl Q I rx hs pl pu ⟨_, _, rfl, h1.sq, fun p hp => ?_⟩
      rw [cut_eq, cut_map]
      refine q _ _ (.list hp Reps.ints ?_)
      rw [List.length_map]
      exact Nat.le_trans (cut_len _ _ _) h2
  · cases ho
end
end MP

set_option maxHeartbeats 1000000
/-! Built-in functions on values. -/
namespace MP
open PySem PySem.Spec PyProof.Rows L2

/-! ### sorted ints -/
theorem insI_perm (x : Int) : ∀ l : List Int, (insI x l).Perm (x :: l)
  | [] => List.Perm.refl _
  | y :: r => by
    unfold insI
    split
    · exact List.Perm.refl _
    · exact ((insI_perm x r).cons y).trans (List.Perm.swap x y r)
theorem sortI_perm : ∀ l : List Int, (sortI l).Perm l
  | [] => List.Perm.refl _
  | x :: r => (insI_perm x _).trans ((sortI_perm r).cons x)
theorem insI_sorted (x : Int) : ∀ l : List Int, l.Pairwise (· ≤ ·) → (insI x l).Pairwise (· ≤ ·)
  | [], _ => List.pairwise_singleton _ _
  | y :: r, h => by
    unfold insI
    split
    · rename_i hxy
      refine List.pairwise_cons.mpr ⟨fun z hz => ?_, h⟩
      rcases List.mem_cons.mp hz with e | hz
      · rw [e]; exact hxy
      · exact Int.le_trans hxy ((List.pairwise_cons.mp h).1 z hz)
    · rename_i hxy
      refine List.pairwise_cons.mpr ⟨fun z hz => ?_, insI_sorted x r (List.pairwise_cons.mp h).2⟩
      rcases List.mem_cons.mp ((insI_perm x r).mem_iff.mp hz) with e | hz
      · rw [e]; omega
      · exact (List.pairwise_cons.mp h).1 z hz
theorem sortI_sorted : ∀ l : List Int, (sortI l).Pairwise (· ≤ ·)
  | [] => List.Pairwise.nil
  | x :: r => insI_sorted x _ (sortI_sorted r)
theorem sortI_is {l m : List Int} (hp : m.Perm l) (hs : m.Pairwise (· ≤ ·)) : m = sortI l :=
  (hp.trans (sortI_perm l).symm).eq_of_pairwise (fun x y _ _ h1 h2 => Int.le_antisymm h1 h2) hs (sortI_sorted l)
theorem minI_spec : ∀ (l : List Int) (n : Int), minI n l ∈ n :: l ∧ ∀ y ∈ n :: l, minI n l ≤ y
  | [], n => ⟨List.mem_cons_self, fun y hy => by
    rcases List.mem_cons.mp hy with e | hy
    · rw [e]; exact Int.le_refl _
    · cases hy⟩
  | x :: r, n => by
    obtain ⟨h1, h2⟩ := minI_spec r (if x < n then x else n)
    unfold minI
    refine ⟨?_, fun y hy => ?_⟩
    · rcases List.mem_cons.mp h1 with e | h1
      · rw [e]
        split
        · exact List.mem_cons_of_mem _ List.mem_cons_self
        · exact List.mem_cons_self
      · exact List.mem_cons_of_mem _ (List.mem_cons_of_mem _ h1)
    · have h0 := h2 _ List.mem_cons_self
      rcases List.mem_cons.mp hy with e | hy
      · rw [e]; split at h0 <;> rename_i h <;> (first | rw [if_pos h] | rw [if_neg h]) <;> omega
      · rcases List.mem_cons.mp hy with e | hy
        · rw [e]; split at h0 <;> rename_i h <;> (first | rw [if_pos h] | rw [if_neg h]) <;> omega
        · exact h2 y (List.mem_cons_of_mem _ hy)
theorem maxI_spec : ∀ (l : List Int) (n : Int), maxI n l ∈ n :: l ∧ ∀ y ∈ n :: l, y ≤ maxI n l
  | [], n => ⟨List.mem_cons_self, fun y hy => by
    rcases List.mem_cons.mp hy with e | hy
    · rw [e]; exact Int.le_refl _
    · cases hy⟩
  | x :: r, n => by
    obtain ⟨h1, h2⟩ := maxI_spec r (if x > n then x else n)
    unfold maxI
    refine ⟨?_, fun y hy => ?_⟩
    · rcases List.mem_cons.mp h1 with e | h1
      · rw [e]
        split
        · exact List.mem_cons_of_mem _ List.mem_cons_self
        · exact List.mem_cons_self
      · exact List.mem_cons_of_mem _ (List.mem_cons_of_mem _ h1)
    · have h0 := h2 _ List.mem_cons_self
      rcases List.mem_cons.mp hy with e | hy
      · rw [e]; split at h0 <;> rename_i h <;> (first | rw [if_pos h] | rw [if_neg h]) <;> omega
      · rcases List.mem_cons.mp hy with e | hy
        · rw [e]; split at h0 <;> rename_i h <;> (first | rw [if_pos h] | rw [if_neg h]) <;> omega
        · exact h2 y (List.mem_cons_of_mem _ hy)
theorem nodupI_iff : ∀ {l : List Int}, nodupI l = true → l.Nodup
  | [], _ => List.nodup_nil
  | x :: l, h => by
    unfold nodupI at h
    simp only [Bool.and_eq_true, Bool.not_eq_true', List.contains_eq_mem, decide_eq_false_iff_not] at h
    exact List.nodup_cons.mpr ⟨h.1, nodupI_iff h.2⟩

/-! ### lists of ints, of truth values -/
theorem getsI_is : ∀ {xs : List D} {ns : List Int}, getsI xs = some ns → xs = ns.map D.int
  | [], _, e => by cases e; rfl
  | .int i :: r, ns, e => by
    have e' : (getsI r).map (i :: ·) = some ns := e
    cases q : getsI r with
    | none => rw [q] at e'; cases e'
    | some ms => rw [q] at e'; cases e'; rw [getsI_is q]; rfl
  | .non :: _, _, e => by cases e
  | .bl _ :: _, _, e => by cases e
  | .str _ :: _, _, e => by cases e
  | .tup _ :: _, _, e => by cases e
  | .lst _ :: _, _, e => by cases e
  | .scr _ :: _, _, e => by cases e
  | .dct _ :: _, _, e => by cases e
theorem getsB_is : ∀ {xs : List D} {bs : List Bool}, getsB xs = some bs → xs = bs.map D.bl
  | [], _, e => by cases e; rfl
  | .bl i :: r, ns, e => by
    have e' : (getsB r).map (i :: ·) = some ns := e
    cases q : getsB r with
    | none => rw [q] at e'; cases e'
    | some ms => rw [q] at e'; cases e'; rw [getsB_is q]; rfl
  | .non :: _, _, e => by cases e
  | .int _ :: _, _, e => by cases e
  | .str _ :: _, _, e => by cases e
  | .tup _ :: _, _, e => by cases e
  | .lst _ :: _, _, e => by cases e
  | .scr _ :: _, _, e => by cases e
  | .dct _ :: _, _, e => by cases e
section
variable {K : PySem.W.Frag} {H : Hp} {N : Addr → Prop}
theorem reps_ints : ∀ {vs : List V} {ns : List Int}, Reps K H N vs (ns.map D.int) → vs = ns.map V.int
  | _, [], h => by cases h; rfl
  | _, n :: ns, h => by
    cases h with
    | cons h1 h2 => cases h1; rw [reps_ints h2]; rfl
theorem reps_bls : ∀ {vs : List V} {bs : List Bool}, Reps K H N vs (bs.map D.bl) → vs = bs.map V.bl
  | _, [], h => by cases h; rfl
  | _, n :: ns, h => by
    cases h with
    | cons h1 h2 => cases h1; rw [reps_bls h2]; rfl
theorem VRs.one {vs : List V} {d : D} (h : VRs K H N vs [d]) : ∃ v, vs = [v] ∧ VR K H N v d := by
  cases h with
  | cons h t => cases t; exact ⟨_, rfl, h⟩
theorem VRs.two {vs : List V} {d e : D} (h : VRs K H N vs [d, e]) : ∃ v u, vs = [v, u] ∧ VR K H N v d ∧ VR K H N u e := by
  cases h with
  | cons h t =>
    cases t with
    | cons h2 t => cases t; exact ⟨_, _, rfl, h, h2⟩
end

def rBi (K : PySem.W.Frag) (b : Bi) : List V → Hp → VK → Prop := fun xs H Q => ∃ N ds w, VRs K H N xs ds ∧ biOp b ds = some w ∧ ∀ v H', Op1 K H N w v H' → Q v H'
section
variable {X : Cx}
theorem str_len (z : List Nat) : (⟨z.toArray⟩ : Str).length = z.length := by
  show z.toArray.size = _
  rw [List.size_toArray]
theorem cr_len' : CallR X (.builtin "len") (rBi X.K .len) := by
  intro pins s σ H xs us Q I r h
  obtain ⟨N, ds, w, hd, ho, q⟩ := h
  replace ho : biLen ds = some w := ho
  unfold biLen at ho
  split at ho
  · cases ho
    obtain ⟨v, rfl, a, vs, rfl, h1, h2, h3⟩ := hd.one
    refine call_len_seq pins s σ H _ us Q I r ⟨a, vs, rfl, .inl (.of h1), ?_⟩
    rw [h2.length]
    exact q _ _ (.same (.int _))
  · cases ho
    obtain ⟨v, rfl, hv⟩ := hd.one
    obtain ⟨a, vs, rfl, h1, h2, h3⟩ := vr_tup hv
    refine call_len_seq pins s σ H _ us Q I r ⟨a, vs, rfl, .inr h1, ?_⟩
    rw [h2.length]
    exact q _ _ (.same (.int _))
  · rename_i z
    cases ho
    obtain ⟨v, rfl, hv⟩ := hd.one
    obtain ⟨rfl, h2⟩ := vr_str hv
    refine call_len_str pins s σ H _ us Q I r ⟨_, rfl, ?_, ?_⟩
    · rw [str_len]; exact Nat.le_trans h2 LIM_le
    · rw [str_len]
      exact q _ _ (.same (.int _))
  · cases ho
theorem cr_sum' (hc : X.calm = true) : CallR X (.builtin "sum") (rBi X.K .sum) := by
  intro pins s σ H xs us Q I r h
  obtain ⟨N, ds, w, hd, ho, q⟩ := h
  replace ho : biSum ds = some w := ho
  unfold biSum at ho
  split at ho
  · rename_i ys
    cases e : getsI ys with
    | none => rw [e] at ho; cases ho
    | some ns =>
      rw [e] at ho
      cases ho
      have := getsI_is e
      subst this
      obtain ⟨v, rfl, a, vs, rfl, h1, h2, h3⟩ := hd.one
      have := reps_ints h2
      subst this
      exact cr_sum hc pins s σ H _ us Q I r ⟨a, ns, rfl, .of h1, q _ _ (.same (.int _))⟩
  · cases ho
theorem cr_all' (hc : X.calm = true) : CallR X (.builtin "all") (rBi X.K .all) := by
  intro pins s σ H xs us Q I r h
  obtain ⟨N, ds, w, hd, ho, q⟩ := h
  replace ho : biAll ds = some w := ho
  unfold biAll at ho
  split at ho
  · rename_i ys
    cases e : getsB ys with
    | none => rw [e] at ho; cases ho
    | some ns =>
      rw [e] at ho
      cases ho
      have := getsB_is e
      subst this
      obtain ⟨v, rfl, a, vs, rfl, h1, h2, h3⟩ := hd.one
      have := reps_bls h2
      subst this
      exact cr_all hc pins s σ H _ us Q I r ⟨a, ns, rfl, .of h1, q _ _ (.same (.bl _))⟩
  · cases ho
theorem cr_any' (hc : X.calm = true) : CallR X (.builtin "any") (rBi X.K .any) := by
  intro pins s σ H xs us Q I r h
  obtain ⟨N, ds, w, hd, ho, q⟩ := h
  replace ho : biAny ds = some w := ho
  unfold biAny at ho
  split at ho
  · rename_i ys
    cases e : getsB ys with
    | none => rw [e] at ho; cases ho
    | some ns =>
      rw [e] at ho
      cases ho
      have := getsB_is e
      subst this
      obtain ⟨v, rfl, a, vs, rfl, h1, h2, h3⟩ := hd.one
      have := reps_bls h2
      subst this
      exact cr_any hc pins s σ H _ us Q I r ⟨a, ns, rfl, .of h1, q _ _ (.same (.bl _))⟩
  · cases ho
theorem cr_list' : CallR X (.type "list") (rBi X.K .list) := by
  intro pins s σ H xs us Q I r h
  obtain ⟨N, ds, w, hd, ho, q⟩ := h
  replace ho : biList ds = some w := ho
  unfold biList at ho
  split at ho
  · rename_i d
    obtain ⟨v, rfl, hv⟩ := hd.one
    unfold items at ho
    split at ho
    · cases ho
      obtain ⟨a, vs, rfl, h1, h2, h3⟩ := hv
      exact call_list_of pins s σ H _ us Q I r ⟨a, vs, rfl, .inl (.of h1), fun l hl => q _ _ (.list hl h2 h3)⟩
    · cases ho
      obtain ⟨a, vs, rfl, h1, h2, h3⟩ := vr_tup hv
      exact call_list_of pins s σ H _ us Q I r ⟨a, vs, rfl, .inr h1, fun l hl => q _ _ (.list hl h2 h3)⟩
    · cases ho
  · cases ho
theorem cr_tuple' : CallR X (.type "tuple") (rBi X.K .tuple) := by
  intro pins s σ H xs us Q I r h
  obtain ⟨N, ds, w, hd, ho, q⟩ := h
  replace ho : biTuple ds = some w := ho
  unfold biTuple at ho
  split at ho
  · cases ho
    obtain ⟨v, rfl, a, vs, rfl, h1, h2, h3⟩ := hd.one
    exact call_tuple_of pins s σ H _ us Q I r ⟨a, vs, rfl, .inl ⟨.of h1, fun l hl => q _ _ (.tup hl h2 h3)⟩⟩
  · cases ho
    obtain ⟨v, rfl, hv⟩ := hd.one
    obtain ⟨a, vs, rfl, h1, h2, h3⟩ := vr_tup hv
    exact call_tuple_of pins s σ H _ us Q I r ⟨a, vs, rfl, .inr ⟨h1, q _ _ (.same hv)⟩⟩
  · cases ho
theorem cr_sorted' : CallR X (.builtin "sorted") (rBi X.K .sorted) := by
  intro pins s σ H xs us Q I r h
  obtain ⟨N, ds, w, hd, ho, q⟩ := h
  replace ho : biSorted ds = some w := ho
  unfold biSorted at ho
  split at ho
  · rename_i ys
    cases e : getsI ys with
    | none => rw [e] at ho; cases ho
    | some ns =>
      rw [e] at ho
      cases ho
      have := getsI_is e
      subst this
      obtain ⟨v, rfl, a, vs, rfl, h1, h2, h3⟩ := hd.one
      have := reps_ints h2
      subst this
      refine cr_sortedI pins s σ H _ us Q I r ⟨a, ns, rfl, .of h1, fun ns' p hp hs hn => ?_⟩
      have := sortI_is hp hs
      subst this
      refine q _ _ (.list hn Reps.ints ?_)
      rw [List.length_map, hp.length_eq]
      rwa [List.length_map] at h3
  · cases ho
theorem cr_abs' : CallR X (.builtin "abs") (rBi X.K .abs) := by
  intro pins s σ H xs us Q I r h
  obtain ⟨N, ds, w, hd, ho, q⟩ := h
  replace ho : biAbs ds = some w := ho
  unfold biAbs at ho
  split at ho
  · cases ho
    obtain ⟨v, rfl, hv⟩ := hd.one
    cases vr_int hv
    exact call_abs pins s σ H _ us Q I r ⟨_, rfl, q _ _ (.same (.int _))⟩
  · cases ho
theorem cr_int' : CallR X (.type "int") (rBi X.K .int) := by
  intro pins s σ H xs us Q I r h
  obtain ⟨N, ds, w, hd, ho, q⟩ := h
  replace ho : biInt ds = some w := ho
  unfold biInt at ho
  split at ho
  · cases ho
    obtain ⟨v, rfl, hv⟩ := hd.one
    cases vr_int hv
    exact call_int1 pins s σ H _ us Q I r (.inl ⟨_, rfl, q _ _ (.same (.int _))⟩)
  · cases ho
    obtain ⟨v, rfl, hv⟩ := hd.one
    cases vr_bl hv
    exact call_int1 pins s σ H _ us Q I r (.inr ⟨_, rfl, q _ _ (.same (.int _))⟩)
  · cases ho
theorem cr_min1 (hc : X.calm = true) : CallR X (.builtin "min") (rBi X.K .min1) := by
  intro pins s σ H xs us Q I r h
  obtain ⟨N, ds, w, hd, ho, q⟩ := h
  replace ho : biMin1 ds = some w := ho
  unfold biMin1 at ho
  split at ho
  · rename_i ys
    cases e : getsI ys with
    | none => rw [e] at ho; cases ho
    | some ns =>
      rw [e] at ho
      cases ns with
      | nil => cases ho
      | cons n ns =>
        cases ho
        have := getsI_is e
        subst this
        obtain ⟨v, rfl, a, vs, rfl, h1, h2, h3⟩ := hd.one
        have := reps_ints h2
        subst this
        refine cr_min hc pins s σ H _ us Q I r ⟨a, n :: ns, rfl, .of h1, Nat.succ_pos _, fun m hm hle => ?_⟩
        obtain ⟨g1, g2⟩ := minI_spec ns n
        have : m = minI n ns := Int.le_antisymm (hle _ g1) (g2 _ hm)
        subst this
        exact q _ _ (.same (.int _))
  · cases ho
theorem cr_max1 (hc : X.calm = true) : CallR X (.builtin "max") (rBi X.K .max1) := by
  intro pins s σ H xs us Q I r h
  obtain ⟨N, ds, w, hd, ho, q⟩ := h
  replace ho : biMax1 ds = some w := ho
  unfold biMax1 at ho
  split at ho
  · rename_i ys
    cases e : getsI ys with
    | none => rw [e] at ho; cases ho
    | some ns =>
      rw [e] at ho
      cases ns with
      | nil => cases ho
      | cons n ns =>
        cases ho
        have := getsI_is e
        subst this
        obtain ⟨v, rfl, a, vs, rfl, h1, h2, h3⟩ := hd.one
        have := reps_ints h2
        subst this
        refine cr_max hc pins s σ H _ us Q I r ⟨a, n :: ns, rfl, .of h1, Nat.succ_pos _, fun m hm hle => ?_⟩
        obtain ⟨g1, g2⟩ := maxI_spec ns n
        have : m = maxI n ns := Int.le_antisymm (g2 _ hm) (hle _ g1)
        subst this
        exact q _ _ (.same (.int _))
  · cases ho
theorem cr_min2 (hc : X.calm = true) : CallR X (.builtin "min") (rBi X.K .min2) := by
  intro pins s σ H xs us Q I r h
  obtain ⟨N, ds, w, hd, ho, q⟩ := h
  replace ho : biMin2 ds = some w := ho
  unfold biMin2 at ho
  split at ho
  · cases ho
    obtain ⟨v, u, rfl, hv, hu⟩ := hd.two
    cases vr_int hv
    cases vr_int hu
    exact call_min2 hc pins s σ H _ us Q I r ⟨_, _, rfl, q _ _ (.same (.int _))⟩
  · cases ho
theorem cr_max2 (hc : X.calm = true) : CallR X (.builtin "max") (rBi X.K .max2) := by
  intro pins s σ H xs us Q I r h
  obtain ⟨N, ds, w, hd, ho, q⟩ := h
  replace ho : biMax2 ds = some w := ho
  unfold biMax2 at ho
  split at ho
  · cases ho
    obtain ⟨v, u, rfl, hv, hu⟩ := hd.two
    cases vr_int hv
    cases vr_int hu
    exact call_max2 hc pins s σ H _ us Q I r ⟨_, _, rfl, q _ _ (.same (.int _))⟩
  · cases ho
/-! ### isinstance -/
def tyS : Ty → String
  | .int => "int" | .bool => "bool" | .str => "str" | .tuple => "tuple" | .list => "list" | .dict => "dict"
def rIs (K : PySem.W.Frag) (t : Ty) : List V → Hp → VK → Prop := fun xs H Q => ∃ N d b x, xs = [x, .ty (tyS t)] ∧ VR K H N x d ∧ isTy t d = some b ∧ Q (.bl b) H
theorem tupX {K : PySem.W.Frag} {H : Hp} {a : Addr} {vs : List V} (h : SqT K H a vs) : TyX K H (.ref a) (.type "tuple") := by
  rcases h with (h | ⟨o, h⟩) | ⟨o, its, n, h1, h2, _⟩
  · exact .base (.tup h)
  · exact .fTuple h
  · exact .kTuple h1 h2
theorem cr_isi (t : Ty) : CallR X (.builtin "isinstance") (rIs X.K t) := by
  intro pins s σ H xs us Q I r h
  obtain ⟨N, d, b, x, rfl, hd, ho, q⟩ := h
  have go : ∀ {a : String} (hx : TyX X.K H x (.type a)) (hk : kitB a (tyS t) = some b), wpAny (model X.prog X.w) X.A (call (.builtin "isinstance") us) (EP X pins σ Q) X.xe s := fun {a} hx hk =>
    call_isi pins s σ H _ us Q I r ⟨x, .ty (tyS t), .type a, .type (tyS t), b, rfl, .ty _, hx, kit_ty hk, q⟩
  cases d with
  | non =>
    cases vr_non hd
    cases t <;> (cases ho; exact go (.base .non) (by decide +kernel))
  | bl i =>
    cases vr_bl hd
    cases t <;> (cases ho; exact go (.base (.bl _)) (by decide +kernel))
  | int i =>
    cases vr_int hd
    cases t <;> (cases ho; exact go (.base (.int _)) (by decide +kernel))
  | str z =>
    cases (vr_str hd).1
    cases t <;> (cases ho; exact go (.base (.str _)) (by decide +kernel))
  | tup ys =>
    obtain ⟨a, vs, rfl, h1, h2, h3⟩ := vr_tup hd
    cases t <;> (cases ho; exact go (tupX h1) (by decide +kernel))
  | lst ys =>
    obtain ⟨a, vs, rfl, h1, h2, h3⟩ := hd
    cases t <;> (cases ho; exact go (.base (.lst h1)) (by decide +kernel))
  | scr ns => cases t <;> cases ho
  | dct ys => cases (show Rep X.K H N x (.dct ys) from hd)
end
end MP

set_option maxHeartbeats 1000000
/-! sum(lists, start): lists one behind another. -/
namespace MP
open PySem PySem.Spec PyProof.Rows
section
variable {prog : Program} {w : World} {A : Around} {R : Result → Shared → Prop} {E : Value → Shared → Prop} {I l : Addr} {items : Array Value}
abbrev gEq : Array GenState → Array GenState → Prop := fun a b => b = a
theorem sum_lists_loop (hh : A.in1.handled = none) (hne : l ≠ I) (ad : Nat → Addr) (cs : Nat → List Value) (hP : ∀ (i : Nat) (v : Value), items[i]? = some v → v = .ref (ad i)) (S : Addr) (hSI : S ≠ I) (hSl' : S ≠ l) (pre : Nat → List Value) (hpre : ∀ i, pre (i + 1) = pre i ++ cs i) (hsz : ∀ i, i ≤ items.size → (pre i).length ≤ sizeLine) :
    ∀ (k i : Nat) (s : Shared) (t nt c : Nat), items.size - i = k → i ≤ items.size → (s.heap.IsListIter I l i ∧ s.heap.IsList l items) → s.heap.get? S = some { cls := .type "list", dict := none, data := .seq #[.ref t] c, slots := #[] } → IsL s.heap t (pre i).toArray nt → t ∉ [S, I] →
      (∀ j, i ≤ j → j < items.size → ∃ m, IsL s.heap (ad j) (cs j).toArray m ∧ ad j ∉ [S, I]) →
      (∀ s' t' nt', Moved [S, I] gEq s s' → IsL s'.heap t' (pre items.size).toArray nt' → (k = 0 ∧ t' = t ∨ 0 < k ∧ s.heap.objs.size ≤ t') → R (.ok (.ret (.ref t'))) s') → codeAny (model prog w) A (.builtin "sum.loop" ⟨[.ref I, .ref S, rawInt 2, rawInt 0], []⟩) R s := by
  have W := (Walks.list (prog := prog) (w := w) hh I l hne items).toS
  have hSw : S ∉ [I] := by simpa using hSI
  have hsub : ∀ b ∈ [I], b ∈ [S, I] := fun b hb => List.mem_cons_of_mem _ hb
  intro k
  induction k with
  | zero =>
    intro i s t nt c hk hi hst hS ht htw hL hR
    have hin : i = items.size := by omega
    subst hin
    refine codeAny_builtin PySem.F.entry_sum_loop ?_
    rw [Around.under_plainId PySem.F.plain_sum_loop _]
    show wpAny _ A.in1 (seqItems? (.ref S) >>= _) _ _ s
    refine wpAny_bind (wpAny_seqItems hS rfl ?_)
    show wpAny _ A.in1 (tryCatch (pyNext (.ref I)) _ >>= _) _ _ s
    refine wpAny_bind (wpAny_tryCatch (W.done s _ _ hst fun s' hm => ?_))
    exact wpAny_pure (hR s' t nt (hm.mono hsub) (hm.heap t _ (fun z => htw (List.mem_cons_of_mem _ z)) ht) (.inl ⟨rfl, rfl⟩))
  | succ k ih =>
    intro i s t nt c hk hi hst hS ht htw hL hR
    have hlt' : i < items.size := by omega
    refine codeAny_builtin PySem.F.entry_sum_loop ?_
    rw [Around.under_plainId PySem.F.plain_sum_loop _]
    show wpAny _ A.in1 (seqItems? (.ref S) >>= _) _ _ s
    refine wpAny_bind (wpAny_seqItems hS rfl ?_)
    show wpAny _ A.in1 (tryCatch (pyNext (.ref I)) _ >>= _) _ _ s
    refine wpAny_bind (wpAny_tryCatch (wpAny_pyNext_list_item hst.1 hst.2 (x := items[i]) (by simp [hlt']) fun h1 hit1 hs1 => ?_))
    have hv : items[i] = .ref (ad i) := hP i _ (by simp [hlt'])
    rw [hv]
    have hm : Moved [I] gEq s { s with heap := h1 } := ⟨fun b o hb e => hs1.extBut b o (fun z => hb (by simp [z])) e, rfl, rfl, rfl, Nat.le_refl _⟩
    have hst' : h1.IsListIter I l (i + 1) ∧ h1.IsList l items := ⟨hit1, hst.2.extBut hs1.extBut hne⟩
    have hsize : h1.objs.size = s.heap.objs.size := hs1.1
    generalize hs' : ({ s with heap := h1 } : Shared) = s' at *
    have hh1 : s'.heap = h1 := by rw [← hs']
    rw [← hh1] at hst' hsize
    have hS' := hm.heap S _ hSw hS
    have ht' : IsL s'.heap t (pre i).toArray nt := hm.heap t _ (fun z => htw (List.mem_cons_of_mem _ z)) ht
    obtain ⟨ma, ha, haw⟩ := hL i (Nat.le_refl _) hlt'
    have ha' : IsL s'.heap (ad i) (cs i).toArray ma := hm.heap _ _ (fun z => haw (List.mem_cons_of_mem _ z)) ha
    show wpAny _ A.in1 ((holding [Value.ref (ad i)] (binaryOp .Add (.ref t) (.ref (ad i)))).attempt >>= _) _ _ s'
    have hz : (pre i).toArray.size + (cs i).toArray.size ≤ sizeLine := by
      have := hsz (i + 1) (by omega)
      rw [hpre, List.length_append] at this
      simpa using this
    refine wpAny_bind (wpAny_attempt (wpAny_holding (PySem.P.add_list ht' ha' ?_ hz)))
    have hSl : S < s'.heap.objs.size := Heap.lt_size hS'
    have hp : (s'.heap.push { cls := .type "list", data := .seq ((pre i).toArray ++ (cs i).toArray) }).get? S = some { cls := .type "list", dict := none, data := .seq #[.ref t] c, slots := #[] } := Heap.get?_push_of_some _ hS'
    show wpAny _ A.in1 (updateSeq S (fun _ => #[.ref s'.heap.objs.size]) >>= _) _ _ _
    refine wpAny_bind (wpAny_updateSeq hp rfl ?_)
    have hS₂ := Heap.get?_update_self (Obj.mapSeq fun _ => #[Value.ref s'.heap.objs.size]) hp rfl
    refine wpAny_bind (wpAny_letGo ?_)
    have keep : ∀ b o, b ∉ [S, I] → s'.heap.get? b = some o → (((s'.heap.push { cls := .type "list", data := .seq ((pre i).toArray ++ (cs i).toArray) }).update S (Obj.mapSeq fun _ => #[Value.ref s'.heap.objs.size])).update S (Obj.mapSeq fun _ => #[Value.ref s'.heap.objs.size])).get? b = some o := fun b o hb e => by
      have hne : S ≠ b := fun h => hb (by rw [h]; exact List.mem_cons_self)
      exact (Heap.get?_update_other _ _ hne).trans ((Heap.get?_update_other _ _ hne).trans (Heap.get?_push_of_some _ e))
    have mv : Moved [S, I] gEq s { s' with heap := ((s'.heap.push { cls := .type "list", data := .seq ((pre i).toArray ++ (cs i).toArray) }).update S (Obj.mapSeq fun _ => #[Value.ref s'.heap.objs.size])).update S (Obj.mapSeq fun _ => #[Value.ref s'.heap.objs.size]) } :=
      (hm.mono hsub).then_heap (tk := s'.toks) (Nat.le_refl _) keep
    have none' : ∀ o, s'.heap.get? s'.heap.objs.size ≠ some o := fun o e => absurd (Heap.lt_size e) (Nat.lt_irrefl _)
    have hI' : ∃ o, s'.heap.get? I = some o := by obtain ⟨o, e, _⟩ := hst'.1; exact ⟨o, e⟩
    have tw' : s'.heap.objs.size ∉ [S, I] := fun z => by
      rcases List.mem_cons.mp z with z | z
      · exact none' _ (by rw [z]; exact hS')
      · rw [List.mem_singleton] at z
        obtain ⟨o, e⟩ := hI'
        exact none' o (by rw [z]; exact e)
    refine wpAny_bind (wpAny_updateSeq hS₂ rfl (wpAny_pure ⟨plainId_quiet PySem.F.plain_sum_loop _, ih (i + 1) _ s'.heap.objs.size 0 _ (by omega) hlt'
      (W.frame _ s' _ s'.toks hst' (Nat.le_refl _) fun b hb o e => ?_) (Heap.get?_update_self _ hS₂ rfl) ?_ tw' (fun j h1 h2 => ?_) fun s'' t'' nt'' hm'' hl'' ht'' => ?_⟩))
    · have hne : S ≠ b := fun h => by
        rw [← h] at hb
        rcases List.mem_cons.mp hb with z | z
        · exact hSI z
        · exact hSl' (List.mem_singleton.mp z)
      exact (Heap.get?_update_other _ _ hne).trans ((Heap.get?_update_other _ _ hne).trans (Heap.get?_push_of_some _ e))
    · have hne : S ≠ s'.heap.objs.size := Nat.ne_of_lt hSl
      have q := (Heap.get?_update_other ((s'.heap.push { cls := .type "list", data := .seq ((pre i).toArray ++ (cs i).toArray) }).update S (Obj.mapSeq fun _ => #[Value.ref s'.heap.objs.size])) (Obj.mapSeq fun _ => #[Value.ref s'.heap.objs.size]) hne).trans ((Heap.get?_update_other _ _ hne).trans (Heap.get?_push_size s'.heap (o := { cls := .type "list", data := .seq ((pre i).toArray ++ (cs i).toArray) }) rfl))
      rw [hpre]
      simpa using q
    · obtain ⟨m, h3, h4⟩ := hL j (by omega) h2
      exact ⟨m, mv.heap _ _ h4 h3, h4⟩
    · refine hR s'' t'' nt'' (Moved.trans (fun _ _ _ h1 h2 => h2.trans h1) mv hm'') hl'' (.inr ⟨Nat.succ_pos _, ?_⟩)
      rcases ht'' with ⟨_, z⟩ | ⟨_, z⟩
      · rw [z, hsize]; exact Nat.le_refl _
      · refine Nat.le_trans ?_ z
        show s.heap.objs.size ≤ ((_ : Heap).update S _).objs.size
        rw [Heap.size_update, Heap.size_update, Heap.size_push, hsize]
        exact Nat.le_succ _
theorem args_sum2 (a b : Value) : argsOk "sum" ⟨[a, b], []⟩ := by unfold argsOk; kernel_rfl
theorem call_sum_lists {s : Shared} {b nb : Nat} {acc : List Value} {Q : Value → Shared → Prop} (hh : A.handled = none) (hl : s.heap.IsList l items) (hb : IsL s.heap b acc.toArray nb) (hpos : 0 < items.size)
    (ad : Nat → Addr) (cs : Nat → List Value) (hP : ∀ (i : Nat) (v : Value), items[i]? = some v → v = .ref (ad i)) (pre : Nat → List Value) (hp0 : pre 0 = acc) (hpre : ∀ i, pre (i + 1) = pre i ++ cs i) (hsz : ∀ i, i ≤ items.size → (pre i).length ≤ sizeLine)
    (hL : ∀ j, j < items.size → ∃ m, IsL s.heap (ad j) (cs j).toArray m)
    (hQ : ∀ h' tk t' nt', (∀ b o, s.heap.get? b = some o → h'.get? b = some o) → IsL h' t' (pre items.size).toArray nt' → s.heap.objs.size ≤ t' → Q (.ref t') { s with heap := h', toks := tk }) :
    wpAny (model prog w) A (call (.builtin "sum") [.ref l, .ref b]) Q E s := by
  have ty : s.TypeIs (.ref b) "list" := ⟨_, hb, rfl⟩
  refine call_function_tree PySem.F.kind_sum PySem.F.plain_sum PySem.F.entry_sum (args_sum2 _ _) ?_
  unfold Builtin.«sum»
  simp only [List.length_cons, List.length_nil]
  rw [if_neg (by decide)]
  refine wpAny_bind (wpAny_of_eq (show Builtin.Builtins.bindParams "sum" ["start"] 0 { pos := [.ref b], kw := [] } = pure [some (.ref b)] from rfl) ?_)
  refine wpAny_bind (wpAny_pyIter_list hl ?_)
  have ty2 : ∀ h', h' = s.heap.push { cls := .type "list_iterator", data := .fields #[.ref l, .int 0 0] } → Shared.TypeIs { s with heap := h' } (.ref b) "list" := fun h' e => by
    subst e
    exact ⟨_, Heap.get?_push_of_some _ hb, rfl⟩
  refine wpAny_bind (wpAny_pure ?_)
  simp only [List.forIn_cons, List.forIn_nil]
  refine wpAny_bind (wpAny_bind (wpAny_bind (wpAny_isInstance (T := "list") (b := false) (ty2 _ rfl) PySem.F.sub_list_str ?_)))
  simp only [Bool.false_eq_true, if_false]
  refine wpAny_pure (wpAny_bind (wpAny_bind (wpAny_isInstance (T := "list") (b := false) (ty2 _ rfl) PySem.F.sub_list_bytes ?_)))
  simp only [Bool.false_eq_true, if_false]
  refine wpAny_pure (wpAny_bind (wpAny_bind (wpAny_isInstance (T := "list") (b := false) (ty2 _ rfl) PySem.F.sub_list_bytearray ?_)))
  simp only [Bool.false_eq_true, if_false]
  refine wpAny_pure (wpAny_pure ?_)
  refine wpAny_bind (wpAny_newObj_type ?_)
  have lt : ∀ {a : Addr} {o : Obj}, s.heap.get? a = some o → a < s.heap.objs.size := fun e => Heap.lt_size e
  obtain ⟨ol, hol, _⟩ := id hl
  have hsz1 : (s.heap.push { cls := .type "list_iterator", data := .fields #[.ref l, .int 0 0] }).objs.size = s.heap.objs.size + 1 := Heap.size_push _ _
  have up : ∀ {a : Addr} {o : Obj}, s.heap.get? a = some o → ((s.heap.push { cls := .type "list_iterator", data := .fields #[.ref l, .int 0 0] }).push { cls := .type "list", data := .seq #[.ref b] }).get? a = some o := fun e => Heap.get?_push_of_some _ (Heap.get?_push_of_some _ e)
  have old : ∀ {a : Addr} {o : Obj}, s.heap.get? a = some o → a ∉ [(s.heap.push { cls := .type "list_iterator", data := .fields #[.ref l, .int 0 0] }).objs.size, s.heap.objs.size] := fun {a o} e z => by
    have q := lt e
    rcases List.mem_cons.mp z with z | z
    · rw [z, hsz1] at q; exact absurd (Nat.lt_of_succ_lt q) (Nat.lt_irrefl _)
    · rw [List.mem_singleton] at z; rw [z] at q; exact Nat.lt_irrefl _ q
  refine wpAny_pure ⟨plainId_quiet PySem.F.plain_sum_loop _, sum_lists_loop (items := items) (I := s.heap.objs.size) (l := l) hh (Nat.ne_of_lt (lt hol)) ad cs hP _ (by rw [hsz1]; exact Nat.succ_ne_self _) (by rw [hsz1]; exact Nat.ne_of_gt (Nat.lt_succ_of_lt (lt hol))) pre hpre hsz
    items.size 0 _ b nb 0 (Nat.sub_zero _) (Nat.zero_le _) ⟨⟨_, Heap.get?_push_of_some _ (Heap.get?_push_size _ rfl), rfl, rfl⟩, hl.at fun o e => up e⟩ (Heap.get?_push_size _ rfl) (by rw [hp0]; exact up hb) (old hb)
    (fun j _ h2 => let ⟨m, e⟩ := hL j h2; ⟨m, up e, old e⟩) fun s' t' nt' hm hl' ht => ?_⟩
  obtain ⟨h', g', d', tk', os'⟩ := s'
  have e1 : g' = s.gens := hm.gens
  have e2 : d' = s.drawn := hm.drawn
  have e3 : os' = s.os := hm.os
  subst e1 e2 e3
  refine hQ h' tk' t' nt' (fun a o e => hm.heap a o (old e) (up e)) hl' ?_
  rcases ht with ⟨z, _⟩ | ⟨_, z⟩
  · omega
  · refine Nat.le_trans ?_ z
    show s.heap.objs.size ≤ ((_ : Heap).push _).objs.size
    rw [Heap.size_push, Heap.size_push]
    exact Nat.le_succ_of_le (Nat.le_succ _)
end
section
variable {K : PySem.W.Frag} {H : Hp} {N : Addr → Prop}
theorem LIM_leS : LIM ≤ sizeLine := by rw [sizeLine_eq]; decide
theorem sumL_get : ∀ {xs : List D} {acc out : List D}, sumL acc xs = some out → ∃ cs : Nat → List D, (∀ (i : Nat) (d : D), xs[i]? = some d → d = D.lst (cs i)) ∧ ∃ pre : Nat → List D, pre 0 = acc ∧ (∀ i, pre (i + 1) = pre i ++ cs i) ∧ pre xs.length = out ∧ ∀ i, i ≤ xs.length → (pre i).length ≤ max acc.length LIM
  | [], acc, out, h => by
    cases h
    refine ⟨fun _ => [], fun i d e => by simp at e, fun _ => acc, rfl, fun i => by simp, rfl, fun i _ => Nat.le_max_left _ _⟩
  | x :: xs, acc, out, h => by
    cases x <;> first | (cases h; done) | skip
    rename_i ys
    rw [sumL] at h
    split at h
    · rename_i hl
      obtain ⟨cs, h1, pre, h2, h3, h4, h5⟩ := sumL_get h
      refine ⟨fun i => match i with | 0 => ys | i + 1 => cs i, fun i d e => ?_, fun i => match i with | 0 => acc | i + 1 => pre i, rfl, fun i => ?_, h4, fun i hi => ?_⟩
      · cases i with
        | zero => simp at e; exact e.symm
        | succ i => exact h1 i d (by simpa using e)
      · cases i with
        | zero => exact h2
        | succ i => exact h3 i
      · cases i with
        | zero => exact Nat.le_max_left _ _
        | succ i =>
          have := h5 i (by simpa using hi)
          rw [List.length_append] at this
          show (pre i).length ≤ _
          omega
    · cases h
end
section
variable {X : L2.Cx}
open L2
theorem cr_sum2 (hc : X.calm = true) : CallR X (.builtin "sum") (rBi X.K .sum2) := by
  intro pins s σ H xs us Q I r h
  obtain ⟨N, ds, w, hd, ho, q⟩ := h
  replace ho : biSum2 ds = some w := ho
  unfold biSum2 at ho
  split at ho
  · rename_i x xs' ys
    cases hs : sumL ys (x :: xs') with
    | none => rw [hs] at ho; cases ho
    | some out =>
      rw [hs] at ho
      cases ho
      obtain ⟨v, u, rfl, hv, hu⟩ := hd.two
      obtain ⟨a, as, rfl, a1, a2, a3⟩ := hv
      obtain ⟨b, bs, rfl, b1, b2, b3⟩ := hu
      obtain ⟨cs, h1, pre, h2, h3, h4, h5⟩ := sumL_get hs
      cases r with
      | cons r1 r =>
        cases r with
        | cons r2 r =>
          cases r
          cases r1
          cases r2
          obtain ⟨itA, nA, vA, eA, zA⟩ := I.lst a1
          obtain ⟨itB, nB, vB, eB, zB⟩ := I.lst b1
          have hlen : as.length = (x :: xs').length := a2.length
          have lenA : itA.length = (x :: xs').length := by rw [← vA.length]; exact hlen
          -- the items: lists, with their values
          have each : ∀ i, i < (x :: xs').length → ∃ (c : Addr) (vs : List V) (its : List Value) (n : Nat), itA[i]? = some (.ref c) ∧ H c = some (.lst vs) ∧ Reps X.K H N vs (cs i) ∧ Vals vs its ∧ IsL s.heap c its.toArray n := fun i hi => by
            have e : (x :: xs')[i]? = some (x :: xs')[i] := List.getElem?_eq_getElem hi
            have e2 := h1 i _ e
            rw [e2] at e
            obtain ⟨v, g1, g2⟩ := a2.get e
            cases g2 with
            | lst k0 k1 k2 k3 =>
              obtain ⟨u, m1, m2⟩ := vA.get g1
              cases m2
              obtain ⟨its, n, p1, p2, p3⟩ := I.lst k1
              exact ⟨_, _, its, n, m1, k1, k2, p1, p2⟩
          -- chosen place by place
          have : ∃ (ad : Nat → Addr) (vv : Nat → List V) (ii : Nat → List Value) (nn : Nat → Nat), ∀ i, i < (x :: xs').length → itA[i]? = some (.ref (ad i)) ∧ H (ad i) = some (.lst (vv i)) ∧ Reps X.K H N (vv i) (cs i) ∧ Vals (vv i) (ii i) ∧ IsL s.heap (ad i) (ii i).toArray (nn i) := by
            refine ⟨fun i => if h : i < (x :: xs').length then Classical.choose (each i h) else 0, fun i => if h : i < (x :: xs').length then Classical.choose (Classical.choose_spec (each i h)) else [], fun i => if h : i < (x :: xs').length then Classical.choose (Classical.choose_spec (Classical.choose_spec (each i h))) else [],
              fun i => if h : i < (x :: xs').length then Classical.choose (Classical.choose_spec (Classical.choose_spec (Classical.choose_spec (each i h)))) else 0, fun i hi => ?_⟩
            simp only [dif_pos hi]
            exact Classical.choose_spec (Classical.choose_spec (Classical.choose_spec (Classical.choose_spec (each i hi))))
          obtain ⟨ad, vv, ii, nn, ea⟩ := this
          -- the sums
          let preU : Nat → List Value := fun i => Nat.rec itB (fun j acc => acc ++ ii j) i
          let preV : Nat → List V := fun i => Nat.rec bs (fun j acc => acc ++ vv j) i
          have hrel : ∀ i, i ≤ (x :: xs').length → Vals (preV i) (preU i) ∧ Reps X.K H N (preV i) (pre i) := fun i => by
            induction i with
            | zero => exact fun _ => ⟨vB, by rw [h2]; exact b2⟩
            | succ i ih =>
              intro hi
              obtain ⟨g1, g2⟩ := ih (by omega)
              obtain ⟨_, _, k1, k2, _⟩ := ea i (by omega)
              exact ⟨g1.append k2, by rw [h3]; exact g2.append k1⟩
          have hsize : ∀ i, i ≤ (x :: xs').length → (preU i).length ≤ sizeLine := fun i hi => by
            obtain ⟨g1, g2⟩ := hrel i hi
            rw [← g1.length, g2.length]
            have := h5 i hi
            have h6 := LIM_leS
            have h7 : ys.length ≤ sizeLine := b3
            omega
          have sz : itA.toArray.size = (x :: xs').length := by rw [List.size_toArray]; exact lenA
          refine call_sum_lists (items := itA.toArray) (acc := itB) (I.ok.hd hc) ⟨_, eA, rfl, nA, rfl⟩ eB (by rw [sz]; exact Nat.succ_pos _) ad ii (fun i v e => ?_) preU rfl (fun i => rfl) (fun i hi => hsize i (by rw [← sz]; exact hi)) (fun j hj => ?_) fun h' tk t' nt' hk hl' hf => ?_
          · have hi : i < (x :: xs').length := by
              rw [← sz]
              exact (Array.getElem?_eq_some_iff.mp e).1
            have e' : itA[i]? = some v := by rw [← List.getElem?_toArray]; exact e
            rw [(ea i hi).1] at e'
            exact (Option.some.inj e').symm
          · exact ⟨nn j, (ea j (by rw [← sz]; exact hj)).2.2.2.2⟩
          · rw [sz] at hl'
            obtain ⟨g1, g2⟩ := hrel _ (Nat.le_refl _)
            have hn : H t' = none := I.hok.fresh hf
            have hz : (preV (x :: xs').length).length ≤ sizeLine := by rw [g1.length]; exact hsize _ (Nat.le_refl _)
            refine ⟨.ref t', upd H t' (.lst (preV (x :: xs').length)), I.laid hk hf ⟨hz, _, nt', g1, hl'⟩, rfl, q _ _ (.list hn (by rw [← h4]; exact g2) ?_)⟩
            rw [← h4, ← g2.length]; exact hz
  · cases ho
end
end MP

set_option maxHeartbeats 1000000
/-! Expressions: the given text does what MP says. -/
namespace MP
open PySem PySem.Spec PyProof.Rows L2

def rdE (K : PySem.W.Frag) (C : CallF) (x : E) : TE := fun σ H Q => ∃ T r w r', ER K H T σ r ∧ ev C x r = .ok w r' ∧ ∀ v H', Po K H T σ r σ r' [w] [v] H' → Q v H'
def rdA (K : PySem.W.Frag) (C : CallF) (x : E) : TA := fun σ H Q => ∃ T r ws r', ER K H T σ r ∧ evs C x r = .ok ws r' ∧ ∀ vs H', Po K H T σ r σ r' ws vs H' → Q vs H'
def rdT (K : PySem.W.Frag) (C : CallF) (x : E) : TT := fun σ H Q => ∃ T r b r', ER K H T σ r ∧ test C x r = .ok b r' ∧ ∀ H', Po K H T σ r σ r' [] [] H' → Q b H'
abbrev SE (X : Cx) (C : CallF) (e : Expr) (x : E) : Prop := PE X e (rdE X.K C x)
abbrev SA (X : Cx) (C : CallF) (es : List Expr) (x : E) : Prop := PA X es (rdA X.K C x)
abbrev ST (X : Cx) (C : CallF) (e : Expr) (x : E) : Prop := PT X e (rdT X.K C x)

theorem pe_imp {X : Cx} {e : Expr} {t t' : TE} (h : PE X e t) (i : ∀ σ H Q, t' σ H Q → t σ H Q) : PE X e t' := ⟨fun pins s σ H Q I hw => h.run pins s σ H Q I (i _ _ _ hw)⟩
theorem pt_imp {X : Cx} {e : Expr} {t t' : TT} (h : PT X e t) (i : ∀ σ H Q, t' σ H Q → t σ H Q) : PT X e t' := ⟨fun pins s σ H Q I hw => h.run pins s σ H Q I (i _ _ _ hw)⟩
theorem pw_imp {X : Cx} {e : Expr} {t t' : TT} (h : PW X e t) (i : ∀ σ H Q, t' σ H Q → t σ H Q) : PW X e t' := ⟨fun wh pins s σ H Q I hw => h.run wh pins s σ H Q I (i _ _ _ hw)⟩
theorem pa_imp {X : Cx} {es : List Expr} {t t' : TA} (h : PA X es t) (i : ∀ σ H Q, t' σ H Q → t σ H Q) : PA X es t' := ⟨fun pos pins s σ H Q I hw => h.run pos pins s σ H Q I (i _ _ _ hw)⟩
theorem ps_imp {X : Cx} {st : Stmt} {t t' : TS} (h : PS X st t) (i : ∀ D σ H, t' D σ H → t D σ H) : PS X st t' := ⟨fun pins s σ H D I hw => h.run pins s σ H D I (i _ _ _ hw)⟩
theorem pss_imp {X : Cx} {st : List Stmt} {t t' : TS} (h : PSs X st t) (i : ∀ D σ H, t' D σ H → t D σ H) : PSs X st t' := ⟨fun pins s σ H D I hw => h.run pins s σ H D I (i _ _ _ hw)⟩

section
variable {K : PySem.W.Frag} {H H' H1 H2 : Hp} {T T' : Addr → Prop} {σ σ' σ1 σ2 : L2.St} {r r' r1 r2 : Env} {ws us : List W} {vs zs : List V} {w x y : W} {v : V} {i j : Nat} {d : D}
theorem Po.mk0 (E : ER K H T σ r) (h : WR K H T σ r w v) (ho : ownA w v = []) : Po K H T σ r σ r [w] [v] H := by
  have e : owns [w] [v] = [] := by show ownA w v ++ [] = []; rw [ho]; rfl
  have eT : Tw T [w] [v] = T := funext fun b => propext ⟨fun z => z.elim id fun z => absurd (show b ∈ ([] : List Addr) from e ▸ z) (by simp), .inl⟩
  have p := Po.refl E
  exact ⟨p.t0, p.frame, p.pers, by rw [eT]; exact E, by rw [eT]; exact .cons h .nil, fun b hb => absurd (show b ∈ ([] : List Addr) from e ▸ hb) (by simp), by rw [e]; exact List.nodup_nil, p.news, p.mun, p.keep⟩
theorem Po.val0 (E : ER K H T σ r) (h : Rep K H (fun b => T b ∨ Acc σ r b) v d) : Po K H T σ r σ r [.val d] [v] H := Po.mk0 E h rfl
theorem Po.slot0 (E : ER K H T σ r) (h : σ[i]? = some (some v)) : Po K H T σ r σ r [.slot i] [v] H := Po.mk0 E h rfl
theorem vw_inv {β : Type} {f : D → R β} {b : β} (e : vw r w f = .ok b r') : ∃ d, view r w = some d ∧ f d = .ok b r' := by
  unfold vw at e
  cases q : view r w with
  | none => rw [q] at e; cases e
  | some d => rw [q] at e; exact ⟨d, rfl, e⟩
theorem asB_inv {b : Bool} (e : asB w r = .ok b r') : w = .val (.bl b) ∧ r' = r := by
  unfold asB at e
  split at e
  · cases e; exact ⟨rfl, rfl⟩
  · cases e
/-- the value of a flag -/
theorem Po.flag {b : Bool} (p : Po K H T σ r σ1 r1 [.val (.bl b)] [v] H1) : v = .bl b ∧ Po K H T σ r σ1 r1 [] [] H1 := by
  refine ⟨?_, p.drop⟩
  cases p.res with
  | cons h t => cases (show Rep _ _ _ v (.bl b) from h); rfl
theorem Po.intv {b : Int} (p : Po K H T σ r σ1 r1 [.val (.int b)] [v] H1) : v = .int b := by
  cases p.res with
  | cons h t => cases (show Rep _ _ _ v (.int b) from h); rfl
theorem Po.at0 (p : Po K H T σ r σ1 r1 (w :: ws) (v :: vs) H1) : WR K H1 (Tw T (w :: ws) (v :: vs)) σ1 r1 w v := by
  cases p.res with
  | cons h t => exact h
theorem Po.at1 {w2 : W} {v2 : V} (p : Po K H T σ r σ1 r1 (w :: w2 :: ws) (v :: v2 :: vs) H1) : WR K H1 (Tw T (w :: w2 :: ws) (v :: v2 :: vs)) σ1 r1 w2 v2 := by
  cases p.res with
  | cons h t =>
    cases t with
    | cons h t => exact h
theorem Po.at2 {w2 w3 : W} {v2 v3 : V} (p : Po K H T σ r σ1 r1 (w :: w2 :: w3 :: ws) (v :: v2 :: v3 :: vs) H1) : WR K H1 (Tw T (w :: w2 :: w3 :: ws) (v :: v2 :: v3 :: vs)) σ1 r1 w3 v3 := by
  cases p.res with
  | cons h t =>
    cases t with
    | cons h t =>
      cases t with
      | cons h t => exact h
/-- behind a part whose result is no longer wanted -/
theorem Po.next (p : Po K H T σ r σ1 r1 [] [] H1) (q : Po K H1 T σ1 r1 σ2 r2 us zs H2) : Po K H T σ r σ2 r2 us zs H2 := by
  have := p.trans (us := us) (vs := []) (ws := []) (zs := zs) (by rw [Tw_nil]; exact q) (fun i z => by cases z)
  exact this
theorem Po.env0 (p : Po K H T σ r σ1 r1 [] [] H1) : ER K H1 T σ1 r1 := by
  have := p.env
  rwa [Tw_nil] at this
end

section
variable {X : Cx} {C : CallF} {e a b c : Expr} {x y z : E} {pos : Pos} {es rest : List Expr}

/-! ### names and constants -/
theorem se_var {i : Nat} {n : Str} (hN : X.N[i]? = some n) (hv : Vis X.env.scope n) (hd : (n == ("__debug__" : Str)) = false) (hcd : (n == ("__classdict__" : Str)) = false) : SE X C (.Name n pos) (.var i) := by
  refine pe_imp (pe_var hN hv hd hcd) fun σ H Q ⟨T, r, w, r', E, h, q⟩ => ?_
  rw [ev] at h
  cases g : gets r i with
  | no => rw [g] at h; cases h
  | val d =>
    rw [g] at h; cases h
    obtain ⟨v, e1, e2⟩ := E.val i d g
    exact ⟨v, e1, q v H (.val0 E e2)⟩
  | acc m xs =>
    rw [g] at h; cases h
    obtain ⟨a, vs, e1, _⟩ := E.acc i m xs g
    exact ⟨.ref a, e1, q _ H (.slot0 E e1)⟩
theorem se_const {d : D} {v : V} (h : PE X e (tC v)) (hd : ∀ H N, Rep X.K H N v d) : SE X C e (.lit d) := by
  refine pe_imp h fun σ H Q ⟨T, r, w, r', E, hr, q⟩ => ?_
  rw [ev] at hr
  cases hr
  exact q v H (.val0 E (hd H _))
theorem se_int {i : Int} {j : Nat} : SE X C (.Constant (.int i) j pos) (.lit (.int i)) := se_const pe_int fun _ _ => .int i
theorem se_bl {b : Bool} {j : Nat} : SE X C (.Constant (.bool b) j pos) (.lit (.bl b)) := se_const pe_bl fun _ _ => .bl b
theorem se_non {j : Nat} : SE X C (.Constant .none j pos) (.lit .non) := se_const pe_non fun _ _ => .non
theorem se_str {s : Str} {j : Nat} {cs : List Nat} (h : s.cps.toList = cs) (hl : cs.length ≤ LIM) : SE X C (.Constant (.str s) j pos) (.lit (.str cs)) := by
  refine se_const pe_str fun _ _ => ?_
  have e : s = ⟨cs.toArray⟩ := by
    cases s with
    | mk a => subst h; simp
  rw [e]
  exact .str cs hl
theorem se_tk (h : SE X C e x) : SE X C e (.tk x) := by
  refine pe_imp h fun σ H Q ⟨T, r, w, r', E, hr, q⟩ => ?_
  rw [ev] at hr
  obtain ⟨w1, r1, h1, h2⟩ := R.bind_inv hr
  obtain ⟨d, r2, h3, h4⟩ := R.bind_inv h2
  cases h4
  exact ⟨T, r, w1, r1, E, h1, fun v H' p => q v H' (p.take h3)⟩

/-! ### operators -/
theorem se_bin {op : Op} (ha : SE X C a x) (hb : SE X C b y) : SE X C (.BinOp a (opS op) b pos) (.bin op x y) := by
  refine pe_imp (pe_op (or_bin op) ha hb) fun σ H Q ⟨T, r, w, r', E, hr, q⟩ => ?_
  rw [ev] at hr
  obtain ⟨w1, r1, h1, h2⟩ := R.bind_inv hr
  obtain ⟨w2, r2, h3, h4⟩ := R.bind_inv h2
  obtain ⟨d, h5, h6⟩ := vw_inv h4
  obtain ⟨g, h7, h8⟩ := vw_inv h6
  obtain ⟨h9, rfl⟩ := R.ofO_inv h8
  refine ⟨T, r, w1, r1, E, h1, fun v1 H1 p1 => ⟨_, r1, w2, _, p1.env, h3, fun v2 H2 p2 => ?_⟩⟩
  have p := p1.trans p2 fun _ _ => rfl
  exact ⟨_, d, g, w, p.at0.view p.env h5, p.at1.view p.env h7, h9, fun v H' o => q v H' (p.op o)⟩
theorem se_neg (ha : SE X C a x) : SE X C (.UnaryOp .USub a pos) (.neg x) := by
  refine pe_imp (pe_un un_neg ha) fun σ H Q ⟨T, r, w, r', E, hr, q⟩ => ?_
  rw [ev] at hr
  obtain ⟨w1, r1, h1, h2⟩ := R.bind_inv hr
  split at h2
  · rename_i i
    cases h2
    refine ⟨T, r, _, _, E, h1, fun v1 H1 p1 => ?_⟩
    cases p1.intv
    exact ⟨i, rfl, q _ _ (p1.op (.same (.int _)))⟩
  · cases h2
theorem se_not (ha : SE X C a x) : SE X C (.UnaryOp .Not a pos) (.not x) := by
  refine pe_imp (pe_not ha) fun σ H Q ⟨T, r, w, r', E, hr, q⟩ => ?_
  rw [ev] at hr
  obtain ⟨w1, r1, h1, h2⟩ := R.bind_inv hr
  obtain ⟨t, r2, h3, h4⟩ := R.bind_inv h2
  obtain ⟨rfl, rfl⟩ := asB_inv h3
  cases h4
  refine ⟨T, r, _, _, E, h1, fun v1 H1 p1 => ?_⟩
  obtain ⟨rfl, p⟩ := p1.flag
  exact ⟨t, rfl, q _ _ (p.op (.same (.bl _)))⟩
theorem se_and (ha : SE X C a x) (hb : SE X C (.BoolOp .And (b :: rest) pos) y) : SE X C (.BoolOp .And (a :: b :: rest) pos) (.and x y) := by
  refine pe_imp (pe_and ha hb) fun σ H Q ⟨T, r, w, r', E, hr, q⟩ => ?_
  rw [ev] at hr
  obtain ⟨w1, r1, h1, h2⟩ := R.bind_inv hr
  obtain ⟨t, r2, h3, h4⟩ := R.bind_inv h2
  obtain ⟨rfl, rfl⟩ := asB_inv h3
  refine ⟨T, r, _, r2, E, h1, fun v1 H1 p1 => ?_⟩
  obtain ⟨rfl, p⟩ := p1.flag
  refine ⟨t, rfl, ?_⟩
  cases t with
  | true =>
    rw [if_pos rfl]
    exact ⟨T, r2, w, r', p.env0, h4, fun v H' p2 => q v H' (p.next p2)⟩
  | false =>
    rw [if_neg Bool.false_ne_true]
    cases h4
    exact q _ _ (p.op (.same (.bl _)))
theorem se_or (ha : SE X C a x) (hb : SE X C (.BoolOp .Or (b :: rest) pos) y) : SE X C (.BoolOp .Or (a :: b :: rest) pos) (.or x y) := by
  refine pe_imp (pe_or ha hb) fun σ H Q ⟨T, r, w, r', E, hr, q⟩ => ?_
  rw [ev] at hr
  obtain ⟨w1, r1, h1, h2⟩ := R.bind_inv hr
  obtain ⟨t, r2, h3, h4⟩ := R.bind_inv h2
  obtain ⟨rfl, rfl⟩ := asB_inv h3
  refine ⟨T, r, _, r2, E, h1, fun v1 H1 p1 => ?_⟩
  obtain ⟨rfl, p⟩ := p1.flag
  refine ⟨t, rfl, ?_⟩
  cases t with
  | false =>
    rw [if_neg Bool.false_ne_true]
    exact ⟨T, r2, w, r', p.env0, h4, fun v H' p2 => q v H' (p.next p2)⟩
  | true =>
    rw [if_pos rfl]
    cases h4
    exact q _ _ (p.op (.same (.bl _)))
theorem se_one {op : PySem.BoolOp} (ha : SE X C a x) : SE X C (.BoolOp op [a] pos) x := pe_one ha
theorem se_ite (hc : ST X C c z) (ha : SE X C a x) (hb : SE X C b y) : SE X C (.IfExp c a b pos) (.ite z x y) := by
  refine pe_imp (pe_ifExp hc ha hb) fun σ H Q ⟨T, r, w, r', E, hr, q⟩ => ?_
  rw [ev] at hr
  obtain ⟨w1, r1, h1, h2⟩ := R.bind_inv hr
  obtain ⟨t, r2, h3, h4⟩ := R.bind_inv h2
  refine ⟨T, r, t, r2, E, ?_, fun H1 p => ?_⟩
  · unfold test; rw [h1]; exact h3
  · cases t with
    | true => exact ⟨T, r2, w, r', p.env0, h4, fun v H' p2 => q v H' (p.next p2)⟩
    | false => exact ⟨T, r2, w, r', p.env0, h4, fun v H' p2 => q v H' (p.next p2)⟩
theorem cmp_core {op : Cm} {σ : L2.St} {H : Hp} {Q : VK} (h : rdE X.K C (.cmp op x y) σ H Q) : tOp (rCmp X.K op) (rdE X.K C x) (rdE X.K C y) σ H Q := by
  obtain ⟨T, r, w, r', E, hr, q⟩ := h
  rw [ev] at hr
  obtain ⟨w1, r1, h1, h2⟩ := R.bind_inv hr
  obtain ⟨w2, r2, h3, h4⟩ := R.bind_inv h2
  obtain ⟨d, h5, h6⟩ := vw_inv h4
  obtain ⟨g, h7, h8⟩ := vw_inv h6
  obtain ⟨t, r3, h9, h10⟩ := R.bind_inv h8
  obtain ⟨h11, rfl⟩ := R.ofO_inv h9
  cases h10
  refine ⟨T, r, w1, r1, E, h1, fun v1 H1 p1 => ⟨_, r1, w2, _, p1.env, h3, fun v2 H2 p2 => ?_⟩⟩
  have p := p1.trans p2 fun _ _ => rfl
  exact ⟨_, d, g, t, p.at0.view p.env h5, p.at1.view p.env h7, h11, q _ _ (p.op (.same (.bl _)))⟩
theorem se_cmp {op : Cm} (hu : X.A.units + 200 < cLine) (ha : SE X C a x) (hb : SE X C b y) (hm : behindInMarks (cmS op) b = false) : SE X C (.Compare a [cmS op] [b] pos) (.cmp op x y) :=
  pe_imp (pe_cmpR (or_cmp hu op) ha hb hm) fun σ H Q h => cmp_core h
theorem chain_core {o1 o2 : Cm} {σ : L2.St} {H : Hp} {Q : VK} (h : rdE X.K C (.chain o1 o2 x y z) σ H Q) : tChain (rCmp X.K o1) (rCmp X.K o2) (rdE X.K C x) (rdE X.K C y) (rdE X.K C z) σ H Q := by
  obtain ⟨T, r, w, r', E, hr, q⟩ := h
  rw [ev] at hr
  obtain ⟨w1, r1, h1, h2⟩ := R.bind_inv hr
  obtain ⟨w2, r2, h3, h4⟩ := R.bind_inv h2
  obtain ⟨d, h5, h6⟩ := vw_inv h4
  obtain ⟨g, h7, h8⟩ := vw_inv h6
  obtain ⟨t, r3, h9, h10⟩ := R.bind_inv h8
  obtain ⟨h11, rfl⟩ := R.ofO_inv h9
  refine ⟨T, r, w1, r1, E, h1, fun v1 H1 p1 => ⟨_, r1, w2, _, p1.env, h3, fun v2 H2 p2 => ?_⟩⟩
  have p := p1.trans p2 fun _ _ => rfl
  refine ⟨_, d, g, t, p.at0.view p.env h5, p.at1.view p.env h7, h11, t, rfl, ?_⟩
  cases t with
  | true =>
    rw [if_pos rfl]
    obtain ⟨w3, r4, k1, k2⟩ := R.bind_inv h10
    obtain ⟨d', k3, k4⟩ := vw_inv k2
    obtain ⟨g', k5, k6⟩ := vw_inv k4
    obtain ⟨t', r5, k7, k8⟩ := R.bind_inv k6
    obtain ⟨k9, rfl⟩ := R.ofO_inv k7
    cases k8
    refine ⟨_, _, w3, _, p.env, k1, fun v3 H3 p3 => ?_⟩
    have pp := p.trans p3 fun _ _ => rfl
    exact ⟨_, d', g', t', pp.at1.view pp.env k3, pp.at2.view pp.env k5, k9, q _ _ (pp.op (.same (.bl _)))⟩
  | false =>
    rw [if_neg Bool.false_ne_true]
    cases h10
    exact q _ _ (p.op (.same (.bl _)))
theorem se_chain {o1 o2 : Cm} (hu : X.A.units + 200 < cLine) (ha : SE X C a x) (hb : SE X C b y) (hc : SE X C c z) (hm : behindInMarks (cmS o2) c = false) : SE X C (.Compare a [cmS o1, cmS o2] [b, c] pos) (.chain o1 o2 x y z) :=
  pe_imp (pe_chain (or_cmp hu o1) (or_cmp hu o2) ha hb hc hm) fun σ H Q h => chain_core h

/-! ### tests -/
theorem test_of {σ : L2.St} {H : Hp} {Q : Bool → Hp → Prop} (h : rdT X.K C x σ H Q) : rdE X.K C x σ H fun v H' => ∃ k, v = .bl k ∧ Q k H' := by
  obtain ⟨T, r, t, r', E, hr, q⟩ := h
  obtain ⟨w1, r1, h1, h2⟩ := R.bind_inv (show (ev C x r).bind asB = .ok t r' from hr)
  obtain ⟨rfl, rfl⟩ := asB_inv h2
  refine ⟨T, r, _, _, E, h1, fun v H' p => ?_⟩
  obtain ⟨rfl, p'⟩ := p.flag
  exact ⟨t, rfl, q _ p'⟩
theorem st_val (h : SE X C e x) (he : ∀ whole, isTrue e X.env whole = (do let v ← whole; standAt e.pos; holding [v] (truthy v))) : ST X C e x :=
  pt_imp (pt_val h he) fun σ H Q hq => test_of hq
theorem st_cmp {op : Cm} (hu : X.A.units + 200 < cLine) (ha : SE X C a x) (hb : SE X C b y) (hm : behindInMarks (cmS op) b = false) : ST X C (.Compare a [cmS op] [b] pos) (.cmp op x y) :=
  pt_imp (pt_cmpR (or_cmp hu op) ha hb hm) fun σ H Q h => cmp_core (test_of h)
theorem st_chain {o1 o2 : Cm} (hu : X.A.units + 200 < cLine) (ha : SE X C a x) (hb : SE X C b y) (hc : SE X C c z) (hm : behindInMarks (cmS o2) c = false) : ST X C (.Compare a [cmS o1, cmS o2] [b, c] pos) (.chain o1 o2 x y z) :=
  pt_imp (pt_chain (or_cmp hu o1) (or_cmp hu o2) ha hb hc hm) fun σ H Q h => chain_core (test_of h)
theorem st_not (ha : ST X C a x) : ST X C (.UnaryOp .Not a pos) (.not x) := by
  refine pt_imp (pt_not ha) fun σ H Q ⟨T, r, t, r', E, hr, q⟩ => ?_
  obtain ⟨w1, r1, h1, h2⟩ := R.bind_inv (show (ev C (.not x) r).bind asB = .ok t r' from hr)
  rw [ev] at h1
  obtain ⟨w2, r2, h3, h4⟩ := R.bind_inv h1
  obtain ⟨u, r3, h5, h6⟩ := R.bind_inv h4
  cases h6
  obtain ⟨h7, rfl⟩ := asB_inv h2
  cases h7
  refine ⟨T, r, u, _, E, ?_, fun H' p => q H' p⟩
  unfold test; rw [h3]; exact h5
/-- a chain of and, or: the whole of it (nested to the right) -/
abbrev SW (X : Cx) (C : CallF) (e : Expr) (x : E) : Prop := PW X e (rdT X.K C x)
theorem sw_and1 (ha : ST X C a x) : SW X C (.BoolOp .And [a] pos) x := pw_and1 ha
theorem sw_or1 (ha : ST X C a x) : SW X C (.BoolOp .Or [a] pos) x := pw_or1 ha
theorem sw_and (ha : ST X C a x) (hb : SW X C (.BoolOp .And (b :: rest) pos) y) : SW X C (.BoolOp .And (a :: b :: rest) pos) (.and x y) := by
  refine pw_imp (pw_and ha hb) fun σ H Q ⟨T, r, t, r', E, hr, q⟩ => ?_
  obtain ⟨w1, r1, h1, h2⟩ := R.bind_inv (show (ev C (.and x y) r).bind asB = .ok t r' from hr)
  rw [ev] at h1
  obtain ⟨w2, r2, h3, h4⟩ := R.bind_inv h1
  obtain ⟨u, r3, h5, h6⟩ := R.bind_inv h4
  refine ⟨T, r, u, r3, E, by unfold test; rw [h3]; exact h5, fun H1 p => ?_⟩
  cases u with
  | true => exact ⟨T, r3, t, r', p.env0, by unfold test; rw [show ev C y r3 = .ok w1 r1 from h6]; exact h2, fun H' p2 => q H' (p.next p2)⟩
  | false =>
    cases h6
    obtain ⟨h7, rfl⟩ := asB_inv h2
    cases h7
    exact q H1 p
theorem sw_or (ha : ST X C a x) (hb : SW X C (.BoolOp .Or (b :: rest) pos) y) : SW X C (.BoolOp .Or (a :: b :: rest) pos) (.or x y) := by
  refine pw_imp (pw_or ha hb) fun σ H Q ⟨T, r, t, r', E, hr, q⟩ => ?_
  obtain ⟨w1, r1, h1, h2⟩ := R.bind_inv (show (ev C (.or x y) r).bind asB = .ok t r' from hr)
  rw [ev] at h1
  obtain ⟨w2, r2, h3, h4⟩ := R.bind_inv h1
  obtain ⟨u, r3, h5, h6⟩ := R.bind_inv h4
  refine ⟨T, r, u, r3, E, by unfold test; rw [h3]; exact h5, fun H1 p => ?_⟩
  cases u with
  | false => exact ⟨T, r3, t, r', p.env0, by unfold test; rw [show ev C y r3 = .ok w1 r1 from h6]; exact h2, fun H' p2 => q H' (p.next p2)⟩
  | true =>
    cases h6
    obtain ⟨h7, rfl⟩ := asB_inv h2
    cases h7
    exact q H1 p

/-! ### argument lists, displays -/
/-- no star -/
def NS (e : Expr) : Prop := ∀ es env, starEach (e :: es) env = (false, eval e env) :: starEach es env
theorem backTo_any {env : PySem.Env} : ∀ {es : List Expr}, (∀ e ∈ es, NS e) → (backTo pos (starEach es env)).any (·.1) = false
  | [], _ => rfl
  | e :: es, h => by
    rw [h e List.mem_cons_self]
    show (false || (backTo pos (starEach es env)).any (·.1)) = false
    rw [backTo_any fun e' he => h e' (List.mem_cons_of_mem _ he)]
    rfl
theorem sa_nil : SA X C [] .nil := by
  refine pa_imp pa_nil fun σ H Q ⟨T, r, ws, r', E, hr, q⟩ => ?_
  rw [evs] at hr
  cases hr
  exact q [] H (.refl E)
theorem sa_cons (ha : SE X C e x) (hn : NS e) (hr : SA X C es y) : SA X C (e :: es) (.cons x y) := by
  refine pa_imp (pa_cons ha hr (hn es X.env)) fun σ H Q ⟨T, r, ws, r', E, hr, q⟩ => ?_
  rw [evs] at hr
  obtain ⟨w1, r1, h1, h2⟩ := R.bind_inv hr
  obtain ⟨ws2, r2, h3, h4⟩ := R.bind_inv h2
  cases h4
  refine ⟨T, r, w1, r1, E, h1, fun v1 H1 p1 => ⟨_, r1, ws2, _, p1.env, h3, fun vs2 H2 p2 => ?_⟩⟩
  exact q _ _ (p1.trans p2 fun _ _ => rfl)
theorem vals_inv {K : PySem.W.Frag} {H : Hp} {T : Addr → Prop} {σ : L2.St} {r : Env} : ∀ {ws : List W} {vs : List V} {ds : List D}, vals ws = some ds → WRs K H T σ r ws vs → Reps K H (fun b => T b ∨ Acc σ r b) vs ds ∧ owns ws vs = []
  | [], _, _, e, h => by cases e; cases h; exact ⟨.nil, rfl⟩
  | .val d :: ws, _, ds, e, h => by
    have e : (vals ws).map (d :: ·) = some ds := e
    cases q : vals ws with
    | none => rw [q] at e; cases e
    | some es =>
      rw [q] at e; cases e
      cases h with
      | cons h t =>
        obtain ⟨h1, h2⟩ := vals_inv q t
        exact ⟨.cons h h1, by show [] ++ owns ws _ = []; rw [h2]; rfl⟩
  | .own _ :: _, _, _, e, _ => by cases e
  | .slot _ :: _, _, _, e, _ => by cases e
theorem vals_len : ∀ {ws : List W} {ds : List D}, vals ws = some ds → ds.length = ws.length
  | [], _, e => by cases e; rfl
  | .val d :: ws, ds, e => by
    have e : (vals ws).map (d :: ·) = some ds := e
    cases q : vals ws with
    | none => rw [q] at e; cases e
    | some es => rw [q] at e; cases e; exact congrArg (· + 1) (vals_len q)
  | .own _ :: _, _, e => by cases e
  | .slot _ :: _, _, e => by cases e
theorem evs_len : ∀ {x : E} {r r' : Env} {ws : List W}, evs C x r = .ok ws r' → SA X C es x → True := fun _ _ => trivial
theorem se_tup {k : Nat} (h : SA X C es x) (hl : ∀ ws r r', evs C x r = .ok ws r' → ws.length ≤ 1000) : SE X C (.Tuple es k pos) (.tup x) := by
  refine pe_imp (pe_tup h) fun σ H Q ⟨T, r, w, r', E, hr, q⟩ => ?_
  rw [ev] at hr
  obtain ⟨ws, r1, h1, h2⟩ := R.bind_inv hr
  obtain ⟨h3, rfl⟩ := R.ofO_inv h2
  cases hv : vals ws with
  | none => rw [hv] at h3; cases h3
  | some ds =>
    rw [hv] at h3; cases h3
    refine ⟨T, r, ws, _, E, h1, fun vs H1 p => ?_⟩
    obtain ⟨g1, g2⟩ := vals_inv hv p.res
    have hz : ds.length ≤ sizeLine := by rw [vals_len hv]; exact Nat.le_trans (hl _ _ _ h1) (by rw [sizeLine_eq]; decide)
    exact ⟨by rw [g1.length]; exact hz, fun a ha => q _ _ (p.op (.tup ha g1 hz))⟩
theorem se_list (h : SA X C es x) (hl : ∀ ws r r', evs C x r = .ok ws r' → ws.length ≤ 1000) : SE X C (.List es pos) (.list x) := by
  refine pe_imp (pe_lst h) fun σ H Q ⟨T, r, w, r', E, hr, q⟩ => ?_
  rw [ev] at hr
  obtain ⟨ws, r1, h1, h2⟩ := R.bind_inv hr
  obtain ⟨h3, rfl⟩ := R.ofO_inv h2
  cases hv : vals ws with
  | none => rw [hv] at h3; cases h3
  | some ds =>
    rw [hv] at h3; cases h3
    refine ⟨T, r, ws, _, E, h1, fun vs H1 p => ?_⟩
    obtain ⟨g1, g2⟩ := vals_inv hv p.res
    have hz : ds.length ≤ sizeLine := by rw [vals_len hv]; exact Nat.le_trans (hl _ _ _ h1) (by rw [sizeLine_eq]; decide)
    exact ⟨by rw [g1.length]; exact hz, fun a ha => q _ _ (p.op (.list ha g1 hz))⟩

/-! ### subscripts -/
theorem se_sub (ha : SE X C a x) (hb : SE X C b y) (hs : PlainIx b) : SE X C (.Subscript a b pos) (.sub x y) := by
  refine pe_imp (pe_ix ix_sub ha hb hs) fun σ H Q ⟨T, r, w, r', E, hr, q⟩ => ?_
  rw [ev] at hr
  obtain ⟨w1, r1, h1, h2⟩ := R.bind_inv hr
  obtain ⟨w2, r2, h3, h4⟩ := R.bind_inv h2
  obtain ⟨d, h5, h6⟩ := vw_inv h4
  obtain ⟨g, h7, h8⟩ := vw_inv h6
  obtain ⟨h9, rfl⟩ := R.ofO_inv h8
  cases hz : subOp d g with
  | none => rw [hz] at h9; cases h9
  | some u =>
    rw [hz] at h9; cases h9
    refine ⟨T, r, w1, r1, E, h1, fun v1 H1 p1 => ⟨_, r1, w2, _, p1.env, h3, fun v2 H2 p2 => ?_⟩⟩
    have p := p1.trans p2 fun _ _ => rfl
    exact ⟨_, d, g, u, p.at0.view p.env h5, p.at1.view p.env h7, hz, fun v hv => q v _ (p.op (.same hv))⟩
/-- a part of a slice -/
def rdO (K : PySem.W.Frag) (C : CallF) (x : E) : TO := fun σ H Q => ∃ T r o r', ER K H T σ r ∧ R.part x (fun _ => ev C x r) r = .ok o r' ∧ ∀ H', Po K H T σ r σ r' [] [] H' → Q o H'
abbrev SO (X : Cx) (C : CallF) (o : Option Expr) (x : E) : Prop := PO X o (rdO X.K C x)
theorem po_imp {o : Option Expr} {t t' : TO} (h : PO X o t) (i : ∀ σ H Q, t' σ H Q → t σ H Q) : PO X o t' := by
  constructor
  intro pins s σ H Q I hw
  exact h.run pins s σ H Q I (i _ _ _ hw)
theorem so_none : SO X C none .nil := by
  refine po_imp po_none fun σ H Q ⟨T, r, o, r', E, h, q⟩ => ?_
  cases h
  exact q H (.refl E)
theorem so_some (h : SE X C e x) (hx : x ≠ .nil) : SO X C (some e) x := by
  refine po_imp (po_some h) fun σ H Q ⟨T, r, o, r', E, hp, q⟩ => ?_
  have hp' : ((ev C x r).bind fun w r => match w with
    | .val (.int i) => .ok (some i) r
    | _ => .no) = R.ok o r' := by
    cases x <;> first | exact hp | exact (hx rfl).elim
  obtain ⟨w, r1, h1, h2⟩ := R.bind_inv hp'
  split at h2
  · rename_i i
    cases h2
    refine ⟨T, r, _, _, E, h1, fun v H' p => ?_⟩
    cases p.intv
    exact ⟨i, rfl, q _ p.drop⟩
  · cases h2
theorem se_cut {lo hi : Option Expr} {l h' : E} {p2 : Pos} (ha : SE X C a x) (hl : SO X C lo l) (hh : SO X C hi h') : SE X C (.Subscript a (.Slice lo hi none p2) pos) (.cut x l h') := by
  refine pe_imp (pe_slice sl_cut ha hl hh) fun σ H Q ⟨T, r, w, r', E, hr, q⟩ => ?_
  rw [ev] at hr
  obtain ⟨w1, r1, h1, h2⟩ := R.bind_inv hr
  obtain ⟨o1, r2, h3, h4⟩ := R.bind_inv h2
  obtain ⟨o2, r3, h5, h6⟩ := R.bind_inv h4
  obtain ⟨d, h7, h8⟩ := vw_inv h6
  obtain ⟨h9, rfl⟩ := R.ofO_inv h8
  refine ⟨T, r, w1, r1, E, h1, fun v1 H1 p1 => ⟨_, r1, o1, r2, p1.env, h3, fun H2 p2 => ⟨_, r2, o2, _, p2.env0, h5, fun H3 p3 => ?_⟩⟩⟩
  have p := p1.trans (p2.next p3) fun _ _ => rfl
  exact ⟨_, d, w, p.at0.view p.env h7, h9, fun v H' o => q v H' (p.op o)⟩
end
end MP

set_option maxHeartbeats 1000000
/-! What is walked; the names of a comprehension; targets. -/
namespace MP
open PySem PySem.Spec PyProof.Rows L2

section
variable {K : PySem.W.Frag} {H H' H1 H2 : Hp} {T T' : Addr → Prop} {σ σ' σ1 σ2 : L2.St} {r r' r1 r2 : Env} {ws us : List W} {vs zs : List V} {w x y : W} {v u : V} {i j : Nat} {d : D} {xs ys : List D} {a b : Addr} {own : List Nat}
theorem Po.opOf (E : ER K H T σ r) (o : Op1 K H (fun b => T b ∨ Acc σ r b) w v H') : Po K H T σ r σ r [w] [v] H' :=
  (Po.refl E).op (by rw [Tw_nil]; exact o)
/-- an item more in a new list -/
theorem Po.push (p : Po K H T σ r σ1 r1 [.own xs, .val d] [.ref a, u] H1) (hl : xs.length < sizeLine) : ∃ vs, H1 a = some (.lst vs) ∧ vs.length = xs.length ∧ Po K H T σ r σ1 r1 [.own (xs ++ [d])] [.ref a] (upd H1 a (.lst (vs ++ [u]))) := by
  obtain ⟨a', us, e, t, e1, e2, e3⟩ : WR K H1 _ σ1 r1 (.own xs) (.ref a) := p.at0
  cases e
  have hd : Rep K H1 _ u d := p.at1
  have hT : Tw T [.own xs, .val d] [.ref a, u] = Tw T [.own (xs ++ [d])] [.ref a] := rfl
  have nA : ¬ Acc σ1 r1 a := fun z => (p.env.accT z).1 t
  have st : Stab H1 (upd H1 a (.lst (us ++ [u]))) (fun b => b = a) (fun b => Tw T [.own xs, .val d] [.ref a, u] b ∨ Acc σ1 r1 b) (fun b => Tw T [.own (xs ++ [d])] [.ref a] b ∨ Acc σ1 r1 b) :=
    ⟨fun b o e n => by rw [upd_ne n]; exact e, fun b z => ⟨us, by rw [z]; exact e1⟩, fun b z => by rw [z]; exact .inl t, fun b z => .inl z⟩
  have pers : ∀ b, H1 b ≠ none → upd H1 a (.lst (us ++ [u])) b ≠ none := fun b n => by
    by_cases z : b = a
    · rw [z, upd_same]; simp
    · rw [upd_ne z]; exact n
  have fr : H a = none := p.fresh a (List.mem_append_left _ (List.mem_singleton.mpr rfl))
  refine ⟨us, e1, e2.length, p.t0, fun b o e n => ?_, fun b n => pers b (p.pers b n), ⟨p.env.len, fun j d' e => ?_, fun j m zs e => ?_, p.env.inj, fun b z => pers b (p.env.tal b z)⟩, .cons ⟨a, us ++ [u], rfl, t, upd_same, (e2.append (.cons hd .nil)).stab st, ?_⟩ .nil, p.fresh, p.nd, p.news, p.mun, p.keep⟩
  · have hb : b ≠ a := fun z => by rw [z, fr] at e; cases e
    rw [upd_ne hb]
    exact p.frame b o e n
  · obtain ⟨v, g1, g2⟩ := p.env.val j d' e
    exact ⟨v, g1, g2.stab st⟩
  · obtain ⟨a', vs', g1, g2, g3, g4, g5⟩ := p.env.acc j m zs e
    refine ⟨a', vs', g1, g2, ?_, g4.stab st, g5⟩
    rw [upd_ne fun z => nA (by rw [← z]; exact ⟨j, m, zs, e, g1⟩)]
    exact g3
  · rw [List.length_append]
    exact hl

/-! ### the names of a comprehension -/
theorem gets_wipes : ∀ {own : List Nat} {r : Env}, gets (wipes r own) j = if j ∈ own then .no else gets r j
  | [], r => by rw [if_neg (by simp)]; rfl
  | i :: is, r => by
    show gets (sets (wipes r is) i .no) j = _
    rw [gets_sets]
    by_cases h : j = i
    · rw [if_pos (by rw [h]; exact List.mem_cons_self : j ∈ i :: is)]
      by_cases hl : i < (wipes r is).length
      · rw [if_pos ⟨h, hl⟩]
      · rw [if_neg fun z => hl z.2]
        exact Classical.byContradiction fun n => hl (by rw [← h]; exact gets_lt n)
    · rw [if_neg fun z => h z.1, gets_wipes]
      by_cases h2 : j ∈ is
      · rw [if_pos h2, if_pos (List.mem_cons_of_mem _ h2)]
      · rw [if_neg h2, if_neg fun z => (List.mem_cons.mp z).elim h h2]
theorem wipes_len : ∀ {own : List Nat} {r : Env}, (wipes r own).length = r.length
  | [], _ => rfl
  | i :: is, r => by
    show (sets (wipes r is) i .no).length = _
    rw [sets_length, wipes_len]
theorem gets_backs {r0 : Env} : ∀ {own : List Nat} {r : Env}, j < r.length → gets (backs r0 r own) j = if j ∈ own then gets r0 j else gets r j
  | [], r, _ => by rw [if_neg (by simp)]; rfl
  | i :: is, r, hl => by
    have hlen : ∀ is : List Nat, (backs r0 r is).length = r.length := fun is => by
      induction is with
      | nil => rfl
      | cons i is ih => show (sets (backs r0 r is) i _).length = _; rw [sets_length, ih]
    show gets (sets (backs r0 r is) i (gets r0 i)) j = _
    rw [gets_sets, hlen]
    by_cases h : j = i
    · rw [if_pos ⟨h, h ▸ hl⟩, if_pos (by rw [h]; exact List.mem_cons_self), h]
    · rw [if_neg fun z => h z.1, gets_backs hl]
      by_cases h2 : j ∈ is
      · rw [if_pos h2, if_pos (List.mem_cons_of_mem _ h2)]
      · rw [if_neg h2, if_neg fun z => (List.mem_cons.mp z).elim h h2]
theorem backs_len {r0 : Env} : ∀ {own : List Nat} {r : Env}, (backs r0 r own).length = r.length
  | [], _ => rfl
  | i :: is, r => by
    show (sets (backs r0 r is) i _).length = _
    rw [sets_length, backs_len]
theorem wipe_at {σ : L2.St} {v : V} : (L2.wipe σ own)[j]? = some (some v) ↔ σ[j]? = some (some v) ∧ j ∉ own := by
  constructor
  · exact fun h => wipe_some h
  · rintro ⟨h, n⟩
    rw [wipe_out n]; exact h
theorem acc_wipe : Acc (L2.wipe σ own) (wipes r own) b ↔ ∃ i m xs, i ∉ own ∧ gets r i = .acc m xs ∧ σ[i]? = some (some (.ref b)) := by
  constructor
  · rintro ⟨i, m, xs, e, e2⟩
    obtain ⟨h1, h2⟩ := wipe_at.mp e2
    rw [gets_wipes, if_neg h2] at e
    exact ⟨i, m, xs, h2, e, h1⟩
  · rintro ⟨i, m, xs, n, e, e2⟩
    exact ⟨i, m, xs, by rw [gets_wipes, if_neg n]; exact e, wipe_at.mpr ⟨e2, n⟩⟩
/-- what the block must leave alone -/
def Tn (T : Addr → Prop) (σ : L2.St) (r : Env) (own : List Nat) : Addr → Prop := fun b => T b ∨ (Acc σ r b ∧ ¬ Acc (L2.wipe σ own) (wipes r own) b)
theorem Tn_acc {N : Addr} : (Tn T σ r own N ∨ Acc (L2.wipe σ own) (wipes r own) N) ↔ (T N ∨ Acc σ r N) := by
  have h : Acc (L2.wipe σ own) (wipes r own) N → Acc σ r N := fun x => by
    obtain ⟨i, m, xs, _, e, e2⟩ := acc_wipe.mp x
    exact ⟨i, m, xs, e, e2⟩
  constructor
  · rintro ((z | z) | z)
    · exact .inl z
    · exact .inr z.1
    · exact .inr (h z)
  · rintro (z | z)
    · exact .inl (.inl z)
    · by_cases x : Acc (L2.wipe σ own) (wipes r own) N
      · exact .inr x
      · exact .inl (.inr ⟨z, x⟩)
theorem ER.names (E : ER K H T σ r) (own : List Nat) : ER K H (Tn T σ r own) (L2.wipe σ own) (wipes r own) := by
  refine ⟨by rw [wipe_length, wipes_len]; exact E.len, fun j d e => ?_, fun j m xs e => ?_, fun j k m1 m2 x1 x2 c e1 e2 e3 e4 => ?_, fun b z => ?_⟩
  · rw [gets_wipes] at e
    split at e
    · cases e
    · rename_i n
      obtain ⟨v, e1, e2⟩ := E.val j d e
      exact ⟨v, wipe_at.mpr ⟨e1, n⟩, e2.anti fun b z => Tn_acc.mp z⟩
  · rw [gets_wipes] at e
    split at e
    · cases e
    · rename_i n
      obtain ⟨a, vs, e1, e2, e3, e4, e5⟩ := E.acc j m xs e
      refine ⟨a, vs, wipe_at.mpr ⟨e1, n⟩, fun z => ?_, e3, e4.anti fun b z => Tn_acc.mp z, e5⟩
      rcases z with z | z
      · exact e2 z
      · exact z.2 (acc_wipe.mpr ⟨j, m, xs, n, e, e1⟩)
  · rw [gets_wipes] at e1 e2
    split at e1
    · cases e1
    · split at e2
      · cases e2
      · exact E.inj j k m1 m2 x1 x2 c e1 e2 (wipe_at.mp e3).1 (wipe_at.mp e4).1
  · rcases z with z | z
    · exact E.tal b z
    · exact (E.accT z.1).2
theorem mu_wipe (h : Mu (L2.wipe σ own) (wipes r own) b) : Mu σ r b := by
  obtain ⟨i, m, xs, e, nl, e2⟩ := h
  obtain ⟨h1, h2⟩ := wipe_at.mp e2
  rw [gets_wipes, if_neg h2] at e
  exact ⟨i, m, xs, e, nl, h1⟩
/-- back from the block -/
theorem Po.names (E : ER K H T σ r) (q : Po K H (Tn T σ r own) (L2.wipe σ own) (wipes r own) (L2.wipe σ own) r1 ws vs H1) (hs : ∀ i, W.slot i ∉ ws) : Po K H T σ r σ (backs r r1 own) ws vs H1 := by
  have hlen : r1.length = r.length := by
    rw [← q.env.len, wipe_length]; exact E.len
  have gb : ∀ {j : Nat} {s : Sl}, gets (backs r r1 own) j = s → s ≠ .no → (j ∈ own ∧ gets r j = s) ∨ (j ∉ own ∧ gets r1 j = s) := fun {j s} e n => by
    have hj : j < r1.length := by
      have := gets_lt (show gets (backs r r1 own) j ≠ .no by rw [e]; exact n)
      rwa [backs_len] at this
    rw [gets_backs hj] at e
    split at e
    · rename_i h; exact .inl ⟨h, e⟩
    · rename_i h; exact .inr ⟨h, e⟩
  -- the lists that are owned behind it
  have ha : ∀ b, Acc σ (backs r r1 own) b → (Acc σ r b ∧ ¬ Acc (L2.wipe σ own) (wipes r own) b) ∨ Acc (L2.wipe σ own) r1 b := fun b ⟨j, m, xs, e, e2⟩ => by
    rcases gb e Sl.noConfusion with ⟨h, e⟩ | ⟨h, e⟩
    · refine .inl ⟨⟨j, m, xs, e, e2⟩, fun x => ?_⟩
      obtain ⟨i, m', xs', n, g1, g2⟩ := acc_wipe.mp x
      have := E.inj i j m' m xs' xs b g1 e g2 e2
      subst this
      exact n h
    · exact .inr ⟨j, m, xs, e, wipe_at.mpr ⟨e2, h⟩⟩
  have hN : ∀ b, (Tw T ws vs b ∨ Acc σ (backs r r1 own) b) → (Tw (Tn T σ r own) ws vs b ∨ Acc (L2.wipe σ own) r1 b) := fun b z => by
    rcases z with (z | z) | z
    · exact .inl (.inl (.inl z))
    · exact .inl (.inr z)
    · rcases ha b z with z | z
      · exact .inl (.inl (.inr z))
      · exact .inr z
  have accO : ∀ b, Acc σ (backs r r1 own) b → Acc σ r b ∨ H b = none := fun b z => by
    rcases ha b z with z | z
    · exact .inl z.1
    · rcases q.news b z with z | z
      · obtain ⟨i, m, xs, _, g1, g2⟩ := acc_wipe.mp z
        exact .inl ⟨i, m, xs, g1, g2⟩
      · exact .inr z
  have st : Stab H H1 (Mu (L2.wipe σ own) (wipes r own)) (fun b => T b ∨ Acc σ r b) (fun b => Tw T ws vs b ∨ Acc σ (backs r r1 own) b) :=
    ⟨q.frame, (E.names own).lists, fun b z => .inr (mu_wipe z).acc, fun b z => by
      rcases z with (z | z) | z
      · exact .inl (.inl z)
      · exact .inr (q.fresh b z)
      · rcases accO b z with z | z
        · exact .inl (.inr z)
        · exact .inr z⟩
  refine ⟨E.tal, fun b o e n => q.frame b o e fun z => n (mu_wipe z), q.pers, ⟨by rw [backs_len, hlen]; exact E.len, fun j d e => ?_, fun j m xs e => ?_, fun j k m1 m2 x1 x2 c e1 e2 e3 e4 => ?_, fun b z => q.env.tal b (z.imp .inl id)⟩, ?_, q.fresh, q.nd, accO, fun b z => ?_, fun j m xs e nf => ?_⟩
  · rcases gb e Sl.noConfusion with ⟨h, e⟩ | ⟨h, e⟩
    · obtain ⟨v, e1, e2⟩ := E.val j d e
      exact ⟨v, e1, e2.stab st⟩
    · obtain ⟨v, e1, e2⟩ := q.env.val j d e
      exact ⟨v, (wipe_at.mp e1).1, e2.anti hN⟩
  · rcases gb e Sl.noConfusion with ⟨h, e⟩ | ⟨h, e⟩
    · obtain ⟨a, us, e1, e2, e3, e4, e5⟩ := E.acc j m xs e
      have nb : ¬ Acc (L2.wipe σ own) (wipes r own) a := fun x => by
        obtain ⟨i, m', xs', n, g1, g2⟩ := acc_wipe.mp x
        have := E.inj i j m' m xs' xs a g1 e g2 e1
        subst this
        exact n h
      refine ⟨a, us, e1, fun z => ?_, q.frame a _ e3 fun z => nb z.acc, e4.stab st, e5⟩
      rcases z with z | z
      · exact e2 z
      · have := q.fresh a z
        rw [e3] at this; cases this
    · obtain ⟨a, us, e1, e2, e3, e4, e5⟩ := q.env.acc j m xs e
      exact ⟨a, us, (wipe_at.mp e1).1, fun z => e2 (z.imp .inl id), e3, e4.anti hN, e5⟩
  · -- one name a list
    have cross : ∀ {j k : Nat} {m1 m2 : Md} {x1 x2 : List D}, j ∈ own → gets r j = .acc m1 x1 → k ∉ own → gets r1 k = .acc m2 x2 → σ[j]? = some (some (.ref c)) → σ[k]? = some (some (.ref c)) → False := fun {j k m1 m2 x1 x2} h1 g1 h2 g2 e3 e4 => by
      have x : Acc (L2.wipe σ own) r1 c := ⟨k, m2, x2, g2, wipe_at.mpr ⟨e4, h2⟩⟩
      refine (q.env.accT x).1 (.inl (.inr ⟨⟨j, m1, x1, g1, e3⟩, fun z => ?_⟩))
      obtain ⟨i, m', xs', n, f1, f2⟩ := acc_wipe.mp z
      have := E.inj i j m' m1 xs' x1 c f1 g1 f2 e3
      subst this
      exact n h1
    rcases gb e1 Sl.noConfusion with ⟨h1, e1⟩ | ⟨h1, e1⟩ <;> rcases gb e2 Sl.noConfusion with ⟨h2, e2⟩ | ⟨h2, e2⟩
    · exact E.inj j k m1 m2 x1 x2 c e1 e2 e3 e4
    · exact (cross h1 e1 h2 e2 e3 e4).elim
    · exact (cross h2 e2 h1 e1 e4 e3).elim
    · exact q.env.inj j k m1 m2 x1 x2 c e1 e2 (wipe_at.mpr ⟨e3, h1⟩) (wipe_at.mpr ⟨e4, h2⟩)
  · have go : ∀ {us : List W} {zs : List V}, WRs K H1 (Tw (Tn T σ r own) ws vs) (L2.wipe σ own) r1 us zs → (∀ b ∈ owns us zs, b ∈ owns ws vs) → (∀ i, W.slot i ∉ us) → WRs K H1 (Tw T ws vs) σ (backs r r1 own) us zs := fun {us zs} h => by
      induction h with
      | nil => exact fun _ _ => .nil
      | cons g t ih =>
        rename_i w' v' us' zs'
        intro hsub hsl
        refine .cons ?_ (ih (fun b hb => hsub b (List.mem_append_right _ hb)) fun i z => hsl i (List.mem_cons_of_mem _ z))
        cases w' with
        | val d' => exact Rep.anti g hN
        | own xs =>
          obtain ⟨a, us, e, t, e1, e2, e3⟩ := g
          subst e
          exact ⟨a, us, rfl, .inr (hsub a (List.mem_append_left _ (List.mem_singleton.mpr rfl))), e1, e2.anti hN, e3⟩
        | slot k => exact (hsl k List.mem_cons_self).elim
    exact go q.res (fun b hb => hb) hs
  · obtain ⟨j, m, xs, e, nl, e2⟩ := z
    rcases gb e Sl.noConfusion with ⟨h, e⟩ | ⟨h, e⟩
    · exact .inl ⟨j, m, xs, e, nl, e2⟩
    · rcases q.mun b ⟨j, m, xs, e, nl, wipe_at.mpr ⟨e2, h⟩⟩ with z | z
      · exact .inl (mu_wipe z)
      · exact .inr z
  · refine ⟨?_, rfl⟩
    have hj : j < r1.length := by rw [hlen]; exact gets_lt (by rw [e]; exact Sl.noConfusion)
    rw [gets_backs hj]
    split
    · exact ⟨xs, e, fun _ => rfl⟩
    · rename_i h
      exact (q.keep j m xs (by rw [gets_wipes, if_neg h]; exact e) nf).1
/-- some names are forgotten -/
theorem Po.wipe (p : Po K H T σ r σ1 r1 ws vs H1) (hk : ∀ i ∈ own, ∀ m xs, gets r i = .acc m xs → m = .free) (hs : ∀ i, W.slot i ∉ ws) : Po K H T σ r (L2.wipe σ1 own) (wipes r1 own) ws vs H1 := by
  have ha : ∀ b, Acc (L2.wipe σ1 own) (wipes r1 own) b → Acc σ1 r1 b := fun b x => by
    obtain ⟨i, m, xs, _, g1, g2⟩ := acc_wipe.mp x
    exact ⟨i, m, xs, g1, g2⟩
  have hN : ∀ b, (Tw T ws vs b ∨ Acc (L2.wipe σ1 own) (wipes r1 own) b) → (Tw T ws vs b ∨ Acc σ1 r1 b) := fun b z => z.imp id (ha b)
  refine ⟨p.t0, p.frame, p.pers, ⟨by rw [wipe_length, wipes_len]; exact p.env.len, fun j d e => ?_, fun j m xs e => ?_, fun j k m1 m2 x1 x2 c e1 e2 e3 e4 => ?_, p.env.tal⟩, ?_, p.fresh, p.nd, fun b x => p.news b (ha b x), fun b x => p.mun b (mu_wipe x), fun j m xs e nf => ?_⟩
  · rw [gets_wipes] at e
    split at e
    · cases e
    · rename_i n
      obtain ⟨v, e1, e2⟩ := p.env.val j d e
      exact ⟨v, wipe_at.mpr ⟨e1, n⟩, e2.anti hN⟩
  · rw [gets_wipes] at e
    split at e
    · cases e
    · rename_i n
      obtain ⟨a, us, e1, e2, e3, e4, e5⟩ := p.env.acc j m xs e
      exact ⟨a, us, wipe_at.mpr ⟨e1, n⟩, e2, e3, e4.anti hN, e5⟩
  · rw [gets_wipes] at e1 e2
    split at e1
    · cases e1
    · split at e2
      · cases e2
      · exact p.env.inj j k m1 m2 x1 x2 c e1 e2 (wipe_at.mp e3).1 (wipe_at.mp e4).1
  · have go : ∀ {us : List W} {zs : List V}, WRs K H1 (Tw T ws vs) σ1 r1 us zs → (∀ b ∈ owns us zs, b ∈ owns ws vs) → (∀ i, W.slot i ∉ us) → WRs K H1 (Tw T ws vs) (L2.wipe σ1 own) (wipes r1 own) us zs := fun {us zs} h => by
      induction h with
      | nil => exact fun _ _ => .nil
      | cons g t ih =>
        rename_i w' v' us' zs'
        intro hsub hsl
        refine .cons ?_ (ih (fun b hb => hsub b (List.mem_append_right _ hb)) fun i z => hsl i (List.mem_cons_of_mem _ z))
        cases w' with
        | val d' => exact Rep.anti g hN
        | own xs =>
          obtain ⟨a, us, e, t, e1, e2, e3⟩ := g
          exact ⟨a, us, e, t, e1, e2.anti hN, e3⟩
        | slot k => exact (hsl k List.mem_cons_self).elim
    exact go p.res (fun b hb => hb) hs
  · have hj : j ∉ own := fun z => nf (hk j z m xs e)
    obtain ⟨⟨ys, e1, e2⟩, e3⟩ := p.keep j m xs e nf
    exact ⟨⟨ys, by rw [gets_wipes, if_neg hj]; exact e1, e2⟩, by rw [wipe_out hj]; exact e3⟩

/-! ### what is walked stays -/
theorem view_same (h : SameM r r') : view r' w = view r w := by
  cases w with
  | val d => rfl
  | own xs => rfl
  | slot i =>
    unfold view
    dsimp only
    rcases h i with e | ⟨m, m', xs, e1, e2⟩
    · rw [e]
    · rw [e1, e2]
theorem views_same (h : SameM r r') : ∀ {ws : List W}, views r' ws = views r ws
  | [] => rfl
  | w :: ws => by unfold views; rw [view_same h, views_same h]
/-- seen now, seen later: what is locked is not changed -/
theorem WR.kept (h : WR K H T σ r w v) (E : ER K H T σ r) (e : MP.view r w = some d) (hl : ∀ i, w = .slot i → ∀ m xs, gets r i = .acc m xs → m = .lck) {N' : Addr → Prop} (frame : ∀ b o, H b = some o → ¬ Mu σ r b → H' b = some o)
    (new : ∀ b, N' b → (T b ∨ Acc σ r b) ∨ H b = none) : VR K H' N' v d := by
  have st : Stab H H' (Mu σ r) (fun b => T b ∨ Acc σ r b) N' := ⟨frame, E.lists, fun b z => .inr z.acc, new⟩
  cases w with
  | val d' => cases e; exact .of (Rep.stab st h)
  | own xs =>
    cases e
    obtain ⟨a, us, e, t, e1, e2, e3⟩ := h
    exact ⟨a, us, e, frame a _ e1 fun z => (E.accT z.acc).1 t, e2.stab st, e3⟩
  | slot i =>
    have h : σ[i]? = some (some v) := h
    unfold MP.view at e
    dsimp only at e
    cases q : gets r i with
    | no => rw [q] at e; cases e
    | val d' =>
      rw [q] at e; cases e
      obtain ⟨v', e1, e2⟩ := E.val i _ q
      rw [h] at e1; cases e1
      exact .of (e2.stab st)
    | acc m xs =>
      rw [q] at e; cases e
      obtain ⟨a, us, e1, e2, e3, e4, e5⟩ := E.acc i m xs q
      rw [h] at e1; cases e1
      refine ⟨a, us, rfl, frame a _ e3 fun z => ?_, e4.stab st, e5⟩
      obtain ⟨j, m', ys, g1, nl, g2⟩ := z
      have := E.inj i j m m' xs ys a q g1 h g2
      subst this
      rw [q] at g1; cases g1
      exact nl (hl i rfl m xs q)
theorem WRs.kept (E : ER K H T σ r) {N' : Addr → Prop} (frame : ∀ b o, H b = some o → ¬ Mu σ r b → H' b = some o) (new : ∀ b, N' b → (T b ∨ Acc σ r b) ∨ H b = none) :
    ∀ {ws : List W} {vs : List V} {ds : List D}, WRs K H T σ r ws vs → MP.views r ws = some ds → (∀ i, W.slot i ∈ ws → ∀ m xs, gets r i = .acc m xs → m = .lck) → VRs K H' N' vs ds
  | _, _, _, .nil, e, _ => by cases e; exact .nil
  | _, _, _, .cons (w := w) (ws := ws) h t, e, hl => by
    unfold MP.views at e
    cases q1 : MP.view r w with
    | none => rw [q1] at e; cases e
    | some d =>
      cases q2 : MP.views r ws with
      | none => rw [q1, q2] at e; cases e
      | some ds =>
        rw [q1, q2] at e
        cases e
        exact .cons (h.kept E q1 (fun i z => hl i (by rw [z]; exact List.mem_cons_self)) frame new) (WRs.kept E frame new t q2 fun i z => hl i (List.mem_cons_of_mem _ z))
theorem locked_all {ws : List W} {r1 : Env} (i : Nat) (hi : W.slot i ∈ ws) (m : Md) (xs : List D) (e : gets (locks r1 ws) i = .acc m xs) : m = .lck := by
  rcases locks_same ws r1 i with q | ⟨m1, m2, ys, q1, q2⟩
  · rw [q] at e
    obtain ⟨m', e1, e2⟩ := locks_acc (ws := ws) e
    rw [q, e] at e1
    cases e1
    rcases e2 with e2 | e2
    · exact e2.1
    · exact (e2.2 (mem_slots hi)).elim
  · obtain ⟨m', e1, e2⟩ := locks_acc (ws := ws) q1
    rw [e] at e1
    cases e1
    rcases e2 with e2 | e2
    · exact e2.1
    · exact (e2.2 (mem_slots hi)).elim

/-! ### iterators -/
/-- J walks the items while the things seen at vs are ds -/
def Walk (K : PySem.W.Frag) (J : It) (vs : List V) (ds its : List D) : Prop := ∀ (H : Hp) (N : Addr → Prop), VRs K H N vs ds →
  (∀ i, i < its.length → J.go i H) ∧ J.stop its.length H ∧ ∀ i x H', J.yld i H x H' → ∀ d, its[i]? = some d → Op1 K H N (.val d) x H'
end
def PIor {X : Cx} {tg iter : Expr} {w1 w2 : TI} (h1 : PI X tg iter w1) (h2 : PI X tg iter w2) : PI X tg iter (fun σ H R => w1 σ H R ∨ w2 σ H R) :=
  ⟨fun pins s σ H R I h => h.elim (h1.run pins s σ H R I) (h2.run pins s σ H R I)⟩
theorem pi_imp {X : Cx} {tg iter : Expr} {t t' : TI} (h : PI X tg iter t) (i : ∀ σ H R, t' σ H R → t σ H R) : PI X tg iter t' := ⟨fun pins s σ H R I hw => h.run pins s σ H R I (i _ _ _ hw)⟩
def rdI (K : PySem.W.Frag) (C : CallF) (k : Ik) (x : E) : TI := fun σ H R => ∃ T r ws r' ds its, ER K H T σ r ∧ evs C x r = .ok ws r' ∧ views r' ws = some ds ∧ itOp k ds = some its ∧ ∀ vs H' J, Po K H T σ r σ r' ws vs H' → Walk K J vs ds its → R J H'
abbrev SI (X : Cx) (C : CallF) (tg : Expr) (k : Ik) (iter : Expr) (x : E) : Prop := PI X tg iter (rdI X.K C k x)
theorem walk_list {K : PySem.W.Frag} {a : Addr} {xs : List D} : Walk K (Itl K a) [.ref a] [.lst xs] xs := fun H N h => by
  cases h with
  | cons h t =>
    cases t
    obtain ⟨a', vs, e, e1, e2, e3⟩ := h
    cases e
    refine ⟨fun i hi => ?_, ⟨vs, .of e1, by rw [e2.length]; exact Nat.le_refl _⟩, fun i x H' hy d hd => ?_⟩
    · obtain ⟨v, g1, g2⟩ := e2.get (List.getElem?_eq_getElem hi)
      exact ⟨vs, v, .of e1, g1⟩
    · obtain ⟨rfl, hy⟩ := hy
      obtain ⟨v, g1, g2⟩ := e2.get hd
      have := hy vs (.of e1)
      rw [g1] at this
      cases this
      exact .same g2
theorem walk_tup {K : PySem.W.Frag} {a : Addr} {xs : List D} : Walk K (Itt K a) [.ref a] [.tup xs] xs := fun H N h => by
  cases h with
  | cons h t =>
    cases t
    obtain ⟨a', vs, e, e1, e2, e3⟩ := vr_tup h
    cases e
    refine ⟨fun i hi => ?_, ⟨vs, e1, by rw [e2.length]; exact Nat.le_refl _⟩, fun i x H' hy d hd => ?_⟩
    · obtain ⟨v, g1, g2⟩ := e2.get (List.getElem?_eq_getElem hi)
      exact ⟨vs, v, e1, g1⟩
    · obtain ⟨rfl, hy⟩ := hy
      obtain ⟨v, g1, g2⟩ := e2.get hd
      have := hy vs e1
      rw [g1] at this
      cases this
      exact .same g2
theorem Po.views {K : PySem.W.Frag} {H H1 : Hp} {T : Addr → Prop} {σ σ1 : L2.St} {r r1 : Env} {ws : List W} {vs : List V} {ds : List D} (p : Po K H T σ r σ1 r1 ws vs H1) (e : MP.views r1 ws = some ds) : VRs K H1 (fun b => Tw T ws vs b ∨ Acc σ1 r1 b) vs ds := p.res.views p.env e
section
variable {X : Cx} {C : CallF} {tg e a b : Expr} {x y : E} {p0 pos : Pos} {es : List Expr}
theorem evs_one {r r' : Env} {ws : List W} (h : evs C (.cons x .nil) r = .ok ws r') : ∃ w, ws = [w] ∧ ev C x r = .ok w r' := by
  rw [evs] at h
  obtain ⟨w, r1, h1, h2⟩ := R.bind_inv h
  obtain ⟨us, r2, h3, h4⟩ := R.bind_inv h2
  rw [evs] at h3
  cases h3
  cases h4
  exact ⟨w, rfl, h1⟩
theorem views_one {r : Env} {w : W} {ds : List D} (h : views r [w] = some ds) : ∃ d, ds = [d] ∧ view r w = some d := by
  unfold views at h
  cases q : view r w with
  | none => rw [q] at h; cases h
  | some d => rw [q] at h; cases h; exact ⟨d, rfl, rfl⟩
theorem si_seq (h : SE X C e x) : SI X C tg .seq e (.cons x .nil) := by
  refine pi_imp (PIor (pi_list h) (pi_tup h)) fun σ H R ⟨T, r, ws, r', ds, its, E, h1, h2, h3, q⟩ => ?_
  obtain ⟨w, rfl, h4⟩ := evs_one h1
  obtain ⟨d, rfl, h5⟩ := views_one h2
  replace h3 : items d = some its := h3
  unfold items at h3
  split at h3
  · rename_i xs
    cases h3
    refine .inl ⟨T, r, w, r', E, h4, fun v H' p => ?_⟩
    obtain ⟨a, vs, rfl, e1, e2, e3⟩ := p.at0.view p.env h5
    exact ⟨a, rfl, ⟨vs, .of e1⟩, q _ _ _ p walk_list⟩
  · rename_i xs
    cases h3
    refine .inr ⟨T, r, w, r', E, h4, fun v H' p => ?_⟩
    obtain ⟨a, vs, rfl, e1, e2, e3⟩ := vr_tup (p.at0.view p.env h5)
    exact ⟨a, rfl, ⟨vs, e1⟩, q _ _ _ p walk_tup⟩
  · cases h3
theorem walk_rng {K : PySem.W.Frag} {lo : Int} {n : Nat} {vs : List V} {ds : List D} : Walk K (Itr lo n) vs ds ((List.range n).map fun (k : Nat) => D.int (lo + (k : Int))) := fun H N h => by
  refine ⟨fun i hi => ?_, ?_, fun i x H' hy d hd => ?_⟩
  · rw [List.length_map, List.length_range] at hi; exact hi
  · rw [List.length_map, List.length_range]; exact Nat.le_refl _
  · obtain ⟨rfl, rfl⟩ := hy
    rw [List.getElem?_map] at hd
    cases hr : (List.range n)[i]? with
    | none => rw [hr] at hd; cases hd
    | some k =>
      rw [hr] at hd
      cases hd
      have : i = k := by
        obtain ⟨h1, h2⟩ := List.getElem?_eq_some_iff.mp hr
        rw [List.getElem_range] at h2
        exact h2
      subst this
      exact .same (.int _)
theorem si_rng1 {p pos : Pos} (hg : Gl X "range") (hm : X.mg "range" = none) (h : SA X C [a] y) (hn : NS a) : SI X C tg .rng1 (.Call (.Name "range" p) [a] [] pos) y := by
  refine pi_imp (pi_range1 hg hm h (hn [] X.env)) fun σ H R ⟨T, r, ws, r', ds, its, E, h1, h2, h3, q⟩ => ⟨T, r, ws, r', E, h1, fun vs H' p => ?_⟩
  replace h3 : itR1 ds = some its := h3
  unfold itR1 at h3
  split at h3
  · rename_i n
    split at h3
    · rename_i hn
      cases h3
      obtain ⟨v, rfl, hv⟩ := (p.views h2).one
      cases vr_int hv
      exact ⟨n, rfl, by omega, by omega, q _ _ _ p walk_rng⟩
    · cases h3
  · cases h3
theorem si_rng2 {p pos : Pos} (hg : Gl X "range") (hm : X.mg "range" = none) (h : SA X C [a, b] y) (hn : NS a) (hn2 : NS b) : SI X C tg .rng2 (.Call (.Name "range" p) [a, b] [] pos) y := by
  refine pi_imp (pi_range2 hg hm h (by rw [hn, hn2]; rfl) (hn2 [] X.env)) fun σ H R ⟨T, r, ws, r', ds, its, E, h1, h2, h3, q⟩ => ⟨T, r, ws, r', E, h1, fun vs H' p => ?_⟩
  replace h3 : itR2 ds = some its := h3
  unfold itR2 at h3
  split at h3
  · rename_i n m
    split at h3
    · rename_i hn
      cases h3
      obtain ⟨v, u, rfl, hv, hu⟩ := (p.views h2).two
      cases vr_int hv
      cases vr_int hu
      exact ⟨n, m, rfl, ⟨by omega, by omega, by omega, by omega⟩, q _ _ _ p walk_rng⟩
    · cases h3
  · cases h3
end
end MP

set_option maxHeartbeats 1000000
/-! enumerate, zip; targets; comprehensions; calls; lists changed. -/
namespace MP
open PySem PySem.Spec PyProof.Rows L2

theorem enumD_len : ∀ (xs : List D) (k : Nat), (enumD k xs).length = xs.length
  | [], _ => rfl
  | x :: r, k => congrArg (· + 1) (enumD_len r (k + 1))
theorem enumD_get : ∀ (xs : List D) (k i : Nat), (enumD k xs)[i]? = xs[i]?.map fun x => .tup [.int ((k + i : Nat) : Int), x]
  | [], _, _ => by simp [enumD]
  | x :: r, k, 0 => by simp [enumD]
  | x :: r, k, i + 1 => by
    show (enumD (k + 1) r)[i]? = _
    rw [enumD_get r (k + 1) i]
    have e : k + 1 + i = k + (i + 1) := by omega
    rw [e]
    simp
theorem two_le : (2 : Nat) ≤ sizeLine := by rw [sizeLine_eq]; decide
section
variable {K : PySem.W.Frag} {a b : Addr} {xs ys : List D}
theorem walk_enum : Walk K (Ite K a) [.ref a] [.lst xs] (enumD 0 xs) := fun H N h => by
  cases h with
  | cons h t =>
    cases t
    obtain ⟨a', vs, e, e1, e2, e3⟩ := h
    cases e
    refine ⟨fun i hi => ?_, ⟨vs, .of e1, by rw [e2.length, enumD_len]; exact Nat.le_refl _⟩, fun i x H' hy d hd => ?_⟩
    · rw [enumD_len] at hi
      obtain ⟨v, g1, g2⟩ := e2.get (List.getElem?_eq_getElem hi)
      exact ⟨vs, v, .of e1, g1⟩
    · obtain ⟨T, v, rfl, hT, rfl, hy⟩ := hy
      rw [enumD_get] at hd
      cases hx : xs[i]? with
      | none => rw [hx] at hd; cases hd
      | some z =>
        rw [hx] at hd
        cases hd
        obtain ⟨v', g1, g2⟩ := e2.get hx
        have := hy vs (.of e1)
        rw [g1] at this
        cases this
        rw [Nat.zero_add]
        exact .tup hT (.cons (.int _) (.cons g2 .nil)) two_le
theorem zip_get {α β γ : Type} {f : α → β → γ} {l : List α} {m : List β} {i : Nat} {d : γ} (h : (List.zipWith f l m)[i]? = some d) : ∃ x y, l[i]? = some x ∧ m[i]? = some y ∧ d = f x y := by
  rw [List.getElem?_zipWith] at h
  cases h1 : l[i]? with
  | none => rw [h1] at h; cases h
  | some x =>
    cases h2 : m[i]? with
    | none => rw [h1, h2] at h; cases h
    | some y => rw [h1, h2] at h; cases h; exact ⟨x, y, rfl, rfl, rfl⟩
theorem walk_zip : Walk K (Itz K a b) [.ref a, .ref b] [.lst xs, .lst ys] (List.zipWith (fun x y => D.tup [x, y]) xs ys) := fun H N h => by
  obtain ⟨v, u, e, ⟨a', vs, e0, e1, e2, e3⟩, ⟨b', us, f0, f1, f2, f3⟩⟩ := h.two
  cases e
  cases e0
  cases f0
  refine ⟨fun i hi => ?_, ⟨vs, us, .of e1, .of f1, ?_⟩, fun i x H' hy d hd => ?_⟩
  · rw [List.length_zipWith] at hi
    obtain ⟨v, g1, g2⟩ := e2.get (List.getElem?_eq_getElem (show i < xs.length by omega))
    obtain ⟨u, k1, k2⟩ := f2.get (List.getElem?_eq_getElem (show i < ys.length by omega))
    exact ⟨vs, us, v, u, .of e1, .of f1, g1, k1⟩
  · rw [List.length_zipWith, e2.length, f2.length]; omega
  · obtain ⟨T, v, u, rfl, hT, rfl, hy, hz⟩ := hy
    obtain ⟨x, y, h1, h2, rfl⟩ := zip_get hd
    obtain ⟨v', g1, g2⟩ := e2.get h1
    obtain ⟨u', k1, k2⟩ := f2.get h2
    have q1 := hy vs (.of e1)
    have q2 := hz us (.of f1)
    rw [g1] at q1
    rw [k1] at q2
    cases q1
    cases q2
    exact .tup hT (.cons g2 (.cons k2 .nil)) two_le
theorem walk_zipT : Walk K (RZ.ItzT K a b) [.ref a, .ref b] [.tup xs, .tup ys] (List.zipWith (fun x y => D.tup [x, y]) xs ys) := fun H N h => by
  obtain ⟨v, u, e, h1, h2⟩ := h.two
  obtain ⟨a', vs, e0, e1, e2, e3⟩ := vr_tup h1
  obtain ⟨b', us, f0, f1, f2, f3⟩ := vr_tup h2
  cases e
  cases e0
  cases f0
  refine ⟨fun i hi => ?_, ⟨vs, us, e1, f1, ?_⟩, fun i x H' hy d hd => ?_⟩
  · rw [List.length_zipWith] at hi
    obtain ⟨v, g1, g2⟩ := e2.get (List.getElem?_eq_getElem (show i < xs.length by omega))
    obtain ⟨u, k1, k2⟩ := f2.get (List.getElem?_eq_getElem (show i < ys.length by omega))
    exact ⟨vs, us, v, u, e1, f1, g1, k1⟩
  · rw [List.length_zipWith, e2.length, f2.length]; omega
  · obtain ⟨T, v, u, rfl, hT, rfl, hy, hz⟩ := hy
    obtain ⟨x, y, h1, h2, rfl⟩ := zip_get hd
    obtain ⟨v', g1, g2⟩ := e2.get h1
    obtain ⟨u', k1, k2⟩ := f2.get h2
    have q1 := hy vs e1
    have q2 := hz us f1
    rw [g1] at q1
    rw [k1] at q2
    cases q1
    cases q2
    exact .tup hT (.cons g2 (.cons k2 .nil)) two_le
end
section
variable {X : Cx} {C : CallF} {tg e a b : Expr} {x y : E} {p pos tpos : Pos} {es elts : List Expr} {kk : Nat}
theorem si_zip (hg : Gl X "zip") (hm : X.mg "zip" = none) (h : SA X C [a, b] y) (hn : NS a) (hn2 : NS b) : SI X C (.Tuple elts kk tpos) .zip (.Call (.Name "zip" p) [a, b] [] pos) y := by
  refine pi_imp (RZ.pi_zipA hg hm h (hn [b] X.env) (by rw [hn2]; rfl)) fun σ H R ⟨T, r, ws, r', ds, its, E, h1, h2, h3, q⟩ => ⟨T, r, ws, r', E, h1, fun vs H' p => ?_⟩
  replace h3 : itZip ds = some its := h3
  unfold itZip at h3
  split at h3
  · cases h3
    obtain ⟨v, u, rfl, ⟨a', vs, rfl, e1, e2, e3⟩, ⟨b', us, rfl, f1, f2, f3⟩⟩ := (p.views h2).two
    exact ⟨a', b', vs, us, rfl, .inl ⟨.of e1, .of f1, q _ _ _ p walk_zip⟩⟩
  · cases h3
    obtain ⟨v, u, rfl, g1, g2⟩ := (p.views h2).two
    obtain ⟨a', vs, rfl, e1, e2, e3⟩ := vr_tup g1
    obtain ⟨b', us, rfl, f1, f2, f3⟩ := vr_tup g2
    exact ⟨a', b', vs, us, rfl, .inr ⟨e1, f1, q _ _ _ p walk_zipT⟩⟩
  · cases h3
end

/-! ### targets -/
/-- the slots of a target -/
def tgS : Tg → List Nat
  | .nm i => [i]
  | .tp t => tgS t
  | .nil => []
  | .cons t ts => tgS t ++ tgS ts
def rdG (K : PySem.W.Frag) (t : Tg) : TG := fun v σ H Q => ∃ H0 T σ0 r0 ws vs r1 d r2, Po K H0 T σ0 r0 σ r1 (.val d :: ws) (v :: vs) H ∧ slotsOf ws = [] ∧ asg t d r1 = some r2 ∧
  ∀ σ2, Po K H0 T σ0 r0 σ2 r2 ws vs H → (∀ j, j ∉ tgS t → σ2[j]? = σ[j]?) → σ2.length = σ.length → Q σ2 H
def rdGs (K : PySem.W.Frag) (t : Tg) : TGs := fun us σ H Q => ∃ H0 T σ0 r0 ws vs r1 ds r2, Po K H0 T σ0 r0 σ r1 (ds.map .val ++ ws) (us ++ vs) H ∧ us.length = ds.length ∧ slotsOf ws = [] ∧ asgs t ds r1 = some r2 ∧
  ∀ σ2, Po K H0 T σ0 r0 σ2 r2 ws vs H → (∀ j, j ∉ tgS t → σ2[j]? = σ[j]?) → σ2.length = σ.length → Q σ2 H
abbrev SG (X : Cx) (e : Expr) (t : Tg) : Prop := PG X e (rdG X.K t)
abbrev SGs (X : Cx) (es : List Expr) (t : Tg) : Prop := PGs X es (rdGs X.K t)
theorem pg_imp {X : Cx} {e : Expr} {t t' : TG} (h : PG X e t) (i : ∀ v σ H Q, t' v σ H Q → t v σ H Q) : PG X e t' := ⟨fun pins s σ H v u Q I r hw => h.run pins s σ H v u Q I r (i _ _ _ _ hw)⟩
theorem pgs_imp {X : Cx} {e : List Expr} {t t' : TGs} (h : PGs X e t) (i : ∀ v σ H Q, t' v σ H Q → t v σ H Q) : PGs X e t' := ⟨fun pins s σ H v u Q I r hw => h.run pins s σ H v u Q I r (i _ _ _ _ hw)⟩
section
variable {K : PySem.W.Frag} {H H' H1 H2 : Hp} {T T' : Addr → Prop} {σ σ' σ1 σ2 : L2.St} {r r' r1 r2 : Env} {ws us : List W} {vs zs : List V} {w x y : W} {v u : V} {i j : Nat} {d : D} {xs ys ds : List D} {a b : Addr} {own : List Nat}
mutual
theorem asg_len : ∀ {t : Tg} {d : D} {r r' : Env}, asg t d r = some r' → r'.length = r.length
  | .nm i, d, r, r', e => by
    rw [asg] at e
    exact put_len e
  | .tp ts, d, r, r', e => by
    cases d with
    | tup ds => rw [asg] at e; exact asgs_len e
    | _ => rw [asg] at e <;> first | cases e | (intros; simp_all)
  | .nil, d, r, r', e => by
    rw [asg] at e <;> first | cases e | (intros; simp_all)
  | .cons t ts, d, r, r', e => by
    rw [asg] at e <;> first | cases e | (intros; simp_all)
theorem asgs_len : ∀ {t : Tg} {ds : List D} {r r' : Env}, asgs t ds r = some r' → r'.length = r.length
  | .nil, [], r, r', e => by
    rw [asgs] at e
    cases e; rfl
  | .cons t ts, d :: ds, r, r', e => by
    rw [asgs] at e
    cases h : asg t d r with
    | none => rw [h] at e; cases e
    | some r1 => rw [h] at e; exact (asgs_len e).trans (asg_len h)
  | .nil, _ :: _, r, r', e => by
    rw [asgs] at e <;> first | cases e | (intros; simp_all)
  | .cons _ _, [], r, r', e => by
    rw [asgs] at e <;> first | cases e | (intros; simp_all)
  | .nm _, ds, r, r', e => by
    rw [asgs] at e <;> first | cases e | (intros; simp_all)
  | .tp _, ds, r, r', e => by
    rw [asgs] at e <;> first | cases e | (intros; simp_all)
end
theorem slots_vals : ∀ (ds : List D) (ws : List W), slotsOf (ds.map .val ++ ws) = slotsOf ws
  | [], _ => rfl
  | d :: ds, ws => slots_vals ds ws
theorem owns_vals : ∀ {ds : List D} {us vs : List V} {ws : List W}, us.length = ds.length → owns (ds.map .val ++ ws) (us ++ vs) = owns ws vs
  | [], [], _, _, _ => rfl
  | d :: ds, u :: us, vs, ws, h => by
    show [] ++ owns (ds.map .val ++ ws) (us ++ vs) = _
    rw [owns_vals (by simpa using h)]; rfl
  | [], _ :: _, _, _, h => by simp at h
  | _ :: _, [], _, _, h => by simp at h
theorem WRs.openT : ∀ {us : List V} {ds : List D}, Reps K H (fun b => T b ∨ Acc σ r b) us ds → WRs K H T σ r ws vs → WRs K H T σ r (ds.map .val ++ ws) (us ++ vs)
  | _, [], h, t => by cases h; exact t
  | _, d :: ds, h, t => by
    cases h with
    | cons h1 h2 => exact .cons h1 (WRs.openT h2 t)
/-- a tuple's items as results of their own -/
theorem Po.opn (p : Po K H T σ r σ1 r1 (.val (.tup ds) :: ws) (v :: vs) H1) : ∃ a us, v = .ref a ∧ SqT K H1 a us ∧ us.length = ds.length ∧ Po K H T σ r σ1 r1 (ds.map .val ++ ws) (us ++ vs) H1 := by
  have h0 : Rep K H1 _ v (.tup ds) := p.at0
  cases h0 with
  | tup h1 h2 h3 =>
    rename_i a us
    have ho : owns (ds.map .val ++ ws) (us ++ vs) = owns (.val (.tup ds) :: ws) (.ref a :: vs) := by
      rw [owns_vals h2.length]; rfl
    have hT : Tw T (ds.map .val ++ ws) (us ++ vs) = Tw T (.val (.tup ds) :: ws) (.ref a :: vs) := by
      unfold Tw; rw [ho]
    refine ⟨a, us, rfl, h1, h2.length, p.t0, p.frame, p.pers, by rw [hT]; exact p.env, ?_, by rw [ho]; exact p.fresh, by rw [ho]; exact p.nd, p.news, p.mun, p.keep⟩
    rw [hT]
    cases p.res with
    | cons g t => exact .openT h2 t
end
section
variable {X : Cx} {e : Expr} {es : List Expr} {t ts : Tg} {pos : Pos} {k : Nat}
/-- a name that may be stored -/
def Sto (X : Cx) (n : Str) : Prop := Loc X.env.scope n ∧ (X.fn n = true ∨ X.env.scope.names.lookup n = some .local)
theorem sg_nm {i : Nat} {n : Str} (hN : X.N.Nodup) (hi : X.N[i]? = some n) (hs : Sto X n) : SG X (.Name n pos) (.nm i) := by
  refine pg_imp (pg_name hN hi hs.1 hs.2) fun v σ H Q ⟨H0, T, σ0, r0, ws, vs, r1, d, r2, p, hw, ha, q⟩ => ?_
  rw [asg] at ha
  refine q _ (p.put (.inl ⟨d, rfl, rfl⟩) ha (by rw [hw]; simp)) (fun j n => ?_) (by simp)
  rw [set_at, if_neg]
  rintro ⟨rfl, _⟩
  exact n List.mem_cons_self
theorem sgs_nil : SGs X [] .nil := by
  refine pgs_imp pgs_nil fun us σ H Q ⟨H0, T, σ0, r0, ws, vs, r1, ds, r2, p, hl, hw, ha, q⟩ => ?_
  cases ds with
  | nil =>
    cases us with
    | nil =>
      rw [asgs] at ha
      cases ha
      exact ⟨rfl, q σ p (fun _ _ => rfl) rfl⟩
    | cons _ _ => simp at hl
  | cons _ _ => rw [asgs] at ha <;> first | cases ha | (intros; simp_all)
theorem sgs_cons (h1 : SG X e t) (h2 : SGs X es ts) (hs : (assignEach (e :: es) X.env).map (·.2) = assign e X.env :: (assignEach es X.env).map (·.2)) (hd : ∀ i ∈ tgS t, i ∉ tgS ts) : SGs X (e :: es) (.cons t ts) := by
  refine pgs_imp (pgs_cons h1 h2 hs) fun us σ H Q ⟨H0, T, σ0, r0, ws, vs, r1, ds, r2, p, hl, hw, ha, q⟩ => ?_
  cases ds with
  | nil => rw [asgs] at ha <;> first | cases ha | (intros; simp_all)
  | cons d ds =>
    cases us with
    | nil => simp at hl
    | cons u us =>
      rw [asgs] at ha
      cases h : asg t d r1 with
      | none => rw [h] at ha; cases ha
      | some r3 =>
        rw [h] at ha
        refine ⟨u, us, rfl, H0, T, σ0, r0, _, _, r1, d, r3, p, (slots_vals ds ws).trans hw, h, fun σ2 p2 hk hl2 => ?_⟩
        refine ⟨H0, T, σ0, r0, ws, vs, r3, ds, r2, p2, by simpa using hl, hw, ha, fun σ3 p3 hk3 hl3 => ?_⟩
        refine q σ3 p3 (fun j n => ?_) (hl3.trans hl2)
        have n' : j ∉ tgS t ++ tgS ts := n
        rw [List.mem_append, not_or] at n'
        exact (hk3 j n'.2).trans (hk j n'.1)
theorem sg_tp (hc : X.calm = true) (h : SGs X es ts) (hst : (assignEach es X.env).findIdx? (·.1) = none) (hlen : ∀ ds r r', asgs ts ds r = some r' → ds.length = (assignEach es X.env).length) : SG X (.Tuple es k pos) (.tp ts) := by
  refine pg_imp (pg_tup hc h rfl hst) fun v σ H Q ⟨H0, T, σ0, r0, ws, vs, r1, d, r2, p, hw, ha, q⟩ => ?_
  cases d with
  | tup ds =>
    rw [asg] at ha
    obtain ⟨a, us, rfl, h1, h2, p2⟩ := p.opn
    exact ⟨a, us, rfl, h1, h2.trans (hlen ds r1 r2 ha), H0, T, σ0, r0, ws, vs, r1, ds, r2, p2, h2, hw, ha, q⟩
  | _ => rw [asg] at ha <;> first | cases ha | (intros; simp_all)
end
end MP

set_option maxHeartbeats 1000000
/-! enumerate(a tuple). -/
namespace MP
open PySem PySem.Spec PyProof.Rows
section
variable {prog : Program} {w : World} {A : Around} {E : Value → Shared → Prop} {s : Shared}
theorem meets_enum_tup (t : Addr) (items : Array Value) :
    Meets (Builtin.«enumerate.__new__» ⟨[.type "enumerate", .ref t], []⟩) (fun _ R s => s.heap.IsTuple t items ∧
      R (.ok (.ret (.ref (s.heap.push { cls := .type "tuple_iterator", data := .fields #[.ref t, .int 0 0] }).objs.size)))
        { s with heap := (s.heap.push { cls := .type "tuple_iterator", data := .fields #[.ref t, .int 0 0] }).push { cls := .type "enumerate", data := .fields #[.none, .bool false, .ref s.heap.objs.size, rawInt 0, .none, .none] } }) :=
  .of_wp fun prog w A R s h => by
    obtain ⟨hp, g, d, tk, os⟩ := s; obtain ⟨hl, h⟩ := h
    have hsub := sub_enumerate
    have hL : Heap.IsTuple (Shared.heap ⟨hp, g, d, tk, os⟩) t items := hl
    obtain ⟨ol, ho, _⟩ := id hl
    have q1 : ∀ {A' : Around} {E : Value → Shared → Prop} {Q : Value → Shared → Prop}, Q (.ref hp.objs.size) ⟨hp.push { cls := .type "tuple_iterator", data := .fields #[.ref t, .int 0 0] }, g, d, tk, os⟩ → wpAny (model prog w) A' (pyIter (.ref t)) Q E ⟨hp, g, d, tk, os⟩ :=
      fun q => wpAny_pyIter_tuple hL q
    wp_walk using q1
    refine wpAny_stack_any fun st => wpAny_pure ?_
    split
    · rename_i c _ _ _ _ _
      cases (c == Value.type "enumerate")
      · wp_walk using q1
        exact ⟨_, rfl, h⟩
      · wp_walk using q1
        exact ⟨_, rfl, h⟩
    · wp_walk using q1
      exact ⟨_, rfl, h⟩
theorem call_enum_tup {l : Addr} {items : Array Value} {Q : Value → Shared → Prop} (hL : s.heap.IsTuple l items)
    (h : ∀ h', IsEnum h' (s.heap.objs.size + 1) s.heap.objs.size 0 .none → h'.IsTupleIter s.heap.objs.size l 0 → h'.objs.size = s.heap.objs.size + 2 →
      (∀ b o, s.heap.get? b = some o → h'.get? b = some o) → Q (.ref (s.heap.objs.size + 1)) { s with heap := h' }) :
    wpAny (model prog w) A (call (.type "enumerate") [.ref l]) Q E s := by
  refine callType_new PySem.F.called_enumerate (by decide) (PySem.F.typeCall_enumerate_1 _) (PySem.F.newCall_enumerate_1 _) (fun obj => PySem.F.args_object_init_2 obj _) PySem.F.entry_enumerate_new
    (meets_enum_tup l items) ⟨hL, ?_⟩
  have hz : (s.heap.push { cls := .type "tuple_iterator", data := .fields #[.ref l, .int 0 0] }).objs.size = s.heap.objs.size + 1 := Heap.size_push ..
  show _ ∧ _
  rw [hz]
  have he : IsEnum ((s.heap.push { cls := .type "tuple_iterator", data := .fields #[.ref l, .int 0 0] }).push
      { cls := .type "enumerate", data := .fields #[.none, .bool false, .ref s.heap.objs.size, rawInt 0, .none, .none] }) (s.heap.objs.size + 1) s.heap.objs.size 0 .none := by
    have := Heap.get?_push_size (s.heap.push { cls := .type "tuple_iterator", data := .fields #[.ref l, .int 0 0] })
      (o := { cls := .type "enumerate", data := .fields #[.none, .bool false, .ref s.heap.objs.size, rawInt 0, .none, .none] }) rfl
    rw [hz] at this; exact this
  refine ⟨⟨_, he, rfl⟩, h _ he ⟨_, Heap.get?_push_of_some _ (Heap.get?_push_size _ rfl), rfl, rfl⟩ (by rw [Heap.size_push, hz]) fun b o x => Heap.get?_push_of_some _ (Heap.get?_push_of_some _ x)⟩
end
open L2
/-- the tuple at a, each item in a new pair -/
def ItT (K : PySem.W.Frag) (a : Addr) : It :=
  ⟨fun i H => ∃ (xs : List V) (x : V), SqT K H a xs ∧ xs[i]? = some x, fun i H v H' => ∃ T x, v = .ref T ∧ H T = none ∧ H' = upd H T (.tup [.int (i : Nat), x]) ∧ ∀ xs, SqT K H a xs → xs[i]? = some x, fun i H => ∃ xs : List V, SqT K H a xs ∧ xs.length = i⟩
theorem turn_enumT {P : Program} {w : World} {K : PySem.W.Frag} {elts : List Expr} {kk : Nat} {tpos : Pos} (a e it : Addr) :
    Turn P w K (.Tuple elts kk tpos) (ItT K a) [e, it] e (fun i h => (∃ old, IsEnum h e it ((i : Nat) : Int) old) ∧ h.IsTupleIter it a i ∧ e ≠ it ∧ a ≠ it ∧ a ≠ e) where
  mem := by simp
  obj := fun i h st b hb => by
    obtain ⟨⟨old, he⟩, ⟨o, ho, hc, hd⟩, _⟩ := st
    have e' : b = e ∨ b = it := by simpa using hb
    rcases e' with z | z
    · rw [z]; exact ⟨_, he, fun v q => nomatch q⟩
    · rw [z]; exact ⟨o, ho, fun v q => by rw [hd] at q; cases q⟩
  keep := fun i h h' st k => let ⟨⟨old, he⟩, hi, hne⟩ := st; ⟨⟨old, k e (by simp) _ he⟩, hi.at fun o q => k it (by simp) o q, hne⟩
  item := by
    intro X hP hw hK hc i pins s σ H E I hf st hg
    subst hP hw hK
    obtain ⟨⟨old, he⟩, hit, hne, hat, hae⟩ := st
    obtain ⟨xs, x, hq, hx⟩ := hg
    obtain ⟨its, rv, p, hz⟩ := I.tuple hq
    obtain ⟨u, hu, ru⟩ := rv.get hx
    have hel : e < s.heap.objs.size := Heap.lt_size he
    have hil : it < s.heap.objs.size := by obtain ⟨_, q, _⟩ := hit; exact Heap.lt_size q
    have hi : i < its.toArray.size := by
      rw [List.size_toArray]
      exact (List.getElem?_eq_some_iff.mp hu).1
    have Dr := Draws.tuple (prog := X.prog) (w := X.w) (A := X.A.in1) (I.ok.hd hc) it a hat its.toArray
    refine wpAny_pyNext_enum_itemD Dr he ⟨hit, p⟩ hi hne (by simp; exact ⟨hne, Ne.symm hae⟩) fun u' h' tk hu' ho hst' hT hsz hk => ?_
    have eu : u' = u := by
      have hu'' : its.toArray[i]? = some u' := hu'
      rw [List.getElem?_toArray, hu] at hu''
      exact (Option.some.inj hu'').symm
    subst eu
    refine ⟨_, rfl, wpAny_letOwnedTupleGo_enum (s := { s with heap := h', toks := tk + 1 }) ho fun h'' he' sb => ?_⟩
    have hT2 : h''.get? s.heap.objs.size = some { cls := .type "tuple", data := .seq #[.int i tk, u'] } := (sb.2 _ (Nat.ne_of_gt hel)).trans hT
    have new : ObjOk X.prog X.w (upd H s.heap.objs.size (.tup [.int (i : Nat), x])) h'' s.heap.objs.size (.tup [.int (i : Nat), x]) :=
      ⟨by show 2 ≤ sizeLine; decide, [.int i tk, u'], .cons ⟨_, rfl⟩ (.cons ru .nil), ⟨_, hT2, rfl, _, rfl⟩⟩
    have I1 : Inv X pins σ (upd H s.heap.objs.size (.tup [.int (i : Nat), x])) { s with heap := h'', toks := tk + 1 } :=
      I.turnedNew (ch := [e, it]) (fun b ob hb q => (sb.2 b (fun z => hb (by simp [z]))).trans (hk b ob (fun z => hb (by simp [z])) (fun z => hb (by simp [z])) q)) hf (Nat.le_refl _) new
    refine ⟨.ref s.heap.objs.size, _, I1, rfl, ⟨_, x, rfl, I.hok.fresh (Nat.le_refl _), rfl, fun ys hy => by rw [I.tuple_inj hy hq]; exact hx⟩, ⟨⟨u', ?_⟩, hst'.1.at fun o q => (sb.2 it (Ne.symm hne)).trans q, hne, hat, hae⟩, fun b hb => ?_⟩
    · have e1 : ((i + 1 : Nat) : Int) = (i : Int) + 1 := by omega
      rw [e1]; exact he'
    · have hb' : b < s.heap.objs.size := by
        have e' : b = e ∨ b = it := by simpa using hb
        rcases e' with z | z
        · rw [z]; exact hel
        · rw [z]; exact hil
      rw [upd_ne (Nat.ne_of_lt hb')]
      exact (hf b hb).1
  done := by
    intro X hP hw hK hc i pins s σ H E I hf st hg
    subst hP hw hK
    obtain ⟨⟨old, he⟩, hit, hne, hat, hae⟩ := st
    obtain ⟨xs, hq, hx⟩ := hg
    obtain ⟨its, rv, p, hz⟩ := I.tuple hq
    obtain ⟨f0, f1, f2, f3, f4, f5⟩ := hf it (by simp)
    have hl := rv.length
    have Dr := Draws.tuple (prog := X.prog) (w := X.w) (A := X.A.in1) (I.ok.hd hc) it a hat its.toArray
    have en : i = its.toArray.size := by rw [List.size_toArray, ← hl]; exact hx.symm
    subst en
    exact wpAny_pyNext_enum_endD Dr he ⟨hit, p⟩ fun h' eb => ⟨rfl, I.turned (t' := s.toks) (fun b o hb q => eb b o hb q) f0 f1 f3 f4 f5⟩
  self := fun A i s Q E st h => let ⟨⟨_, he⟩, _⟩ := st; wpAny_pyIter_enum he h
def iEnumT (K : PySem.W.Frag) (ta : TA) : TI := fun σ H R => ta σ H fun vs H1 => ∃ a xs, vs = [.ref a] ∧ SqT K H1 a xs ∧ R (ItT K a) H1
theorem pi_enumT {X : Cx} {e : Expr} {ta : TA} {p pos tpos : Pos} {elts : List Expr} {kk : Nat} (hg : Gl X "enumerate") (hm : X.mg "enumerate" = none) (ha : PA X [e] ta) (hs : starEach [e] X.env = [(false, eval e X.env)]) :
    PI X (.Tuple elts kk tpos) (.Call (.Name "enumerate" p) [e] [] pos) (iEnumT X.K ta) := by
  refine ⟨fun pins s σ H R I h => ?_⟩
  refine Call_ (ld_blt I hg hm boot_enumerate (PyProof.Rows.callWith_type1 (thn (ha.run pos pins s σ H _ I h) fun us s1 ⟨vs, H1, I1, r1, q1⟩ => ?_) hs rfl))
  obtain ⟨a, xs, ex, hq, q⟩ := q1
  subst ex
  cases r1 with
  | cons r rr =>
    cases rr
    cases r
    obtain ⟨its, rv, p', hz⟩ := I1.tuple hq
    have hal : a < s1.heap.objs.size := p'.lt
    refine call_enum_tup p' fun h' he hit hsz hk => wpAny_pyIter_enum he ?_
    have I2 : Inv X pins σ H1 { s1 with heap := h' } := I1.kept (t' := s1.toks) hk
    refine ⟨s1.heap.objs.size + 1, [s1.heap.objs.size + 1, s1.heap.objs.size], _, _, H1, rfl, I2, turn_enumT a (s1.heap.objs.size + 1) s1.heap.objs.size, ⟨⟨.none, he⟩, hit, Nat.succ_ne_self _, Nat.ne_of_lt hal, Nat.ne_of_lt (Nat.lt_succ_of_lt hal)⟩, fun b hb => ?_, q⟩
    have e' : b = s1.heap.objs.size + 1 ∨ b = s1.heap.objs.size := by simpa using hb
    have hle : s1.heap.objs.size ≤ b := by
      rcases e' with z | z
      · rw [z]; exact Nat.le_add_right _ _
      · rw [z]; exact Nat.le_refl _
    exact I1.fpOk hle (I1.hok.fresh hle)
theorem walk_enumT {K : PySem.W.Frag} {a : Addr} {xs : List D} : Walk K (ItT K a) [.ref a] [.tup xs] (enumD 0 xs) := fun H N h => by
  cases h with
  | cons h t =>
    cases t
    obtain ⟨a', vs, e, e1, e2, e3⟩ := vr_tup h
    cases e
    refine ⟨fun i hi => ?_, ⟨vs, e1, by rw [e2.length, enumD_len]⟩, fun i x H' hy d hd => ?_⟩
    · rw [enumD_len] at hi
      obtain ⟨v, g1, g2⟩ := e2.get (List.getElem?_eq_getElem hi)
      exact ⟨vs, v, e1, g1⟩
    · obtain ⟨T, v, rfl, hT, rfl, hy⟩ := hy
      rw [enumD_get] at hd
      cases hx : xs[i]? with
      | none => rw [hx] at hd; cases hd
      | some z =>
        rw [hx] at hd
        cases hd
        obtain ⟨v', g1, g2⟩ := e2.get hx
        have := hy vs e1
        rw [g1] at this
        cases this
        rw [Nat.zero_add]
        exact .tup hT (.cons (.int _) (.cons g2 .nil)) two_le
section
variable {X : Cx} {C : CallF}
theorem si_enum {p pos tpos : Pos} {elts : List Expr} {kk : Nat} {a : Expr} {y : E} (hg : Gl X "enumerate") (hm : X.mg "enumerate" = none) (h : SA X C [a] y) (hn : NS a) : SI X C (.Tuple elts kk tpos) .enum (.Call (.Name "enumerate" p) [a] [] pos) y := by
  refine pi_imp (PIor (pi_enum hg hm h (hn [] X.env)) (pi_enumT hg hm h (hn [] X.env))) fun σ H R ⟨T, r, ws, r', ds, its, E, h1, h2, h3, q⟩ => ?_
  replace h3 : itEnum ds = some its := h3
  unfold itEnum at h3
  split at h3
  · cases h3
    refine .inl ⟨T, r, ws, r', E, h1, fun vs H' p => ?_⟩
    have hv := p.views h2
    obtain ⟨v, e, hv'⟩ := hv.one
    subst e
    obtain ⟨a, us, rfl, e1, e2, e3⟩ := hv'
    exact ⟨a, us, rfl, .inl (.inl e1), q _ _ _ p walk_enum⟩
  · cases h3
    refine .inr ⟨T, r, ws, r', E, h1, fun vs H' p => ?_⟩
    have hv := p.views h2
    obtain ⟨v, e, hv'⟩ := hv.one
    subst e
    obtain ⟨a, us, rfl, e1, e2, e3⟩ := vr_tup hv'
    exact ⟨a, us, rfl, e1, q _ _ _ p walk_enumT⟩
  · cases h3
end
end MP

set_option maxHeartbeats 1000000
/-! Comprehensions; calls; lists changed; built-ins in expressions. -/
namespace MP
open PySem PySem.Spec PyProof.Rows L2

theorem compL_le (step : D → Env → R (Option D)) : ∀ (ds out : List D) (r : Env) (out' : List D) (r' : Env), compL step ds out r = .ok out' r' → out'.length ≤ out.length + ds.length
  | [], out, r, out', r', h => by cases h; exact Nat.le_refl _
  | d :: ds, out, r, out', r', h => by
    rw [compL] at h
    obtain ⟨y, r1, h1, h2⟩ := R.bind_inv h
    split at h2
    · have := compL_le step ds _ _ _ _ h2
      rw [List.length_append, List.length_singleton] at this
      rw [List.length_cons]
      omega
    · have := compL_le step ds _ _ _ _ h2
      rw [List.length_cons]
      omega
theorem unlock_inv {α : Type} {r0 r' : Env} {ws : List W} {x : R α} {a : α} (h : x.unlock r0 ws = .ok a r') : ∃ r1, x = .ok a r1 ∧ r' = unlocks r0 r1 ws := by
  cases x with
  | ok b r1 => cases h; exact ⟨r1, rfl, rfl⟩
  | exc x r1 => cases h
  | no => cases h
/-- the tests of a comprehension: none is .lit true -/
abbrev STs (X : Cx) (C : CallF) (ifs : List Expr) (x : E) : Prop := PTs X ifs (rdT X.K C x)
theorem pts_imp {X : Cx} {e : List Expr} {t t' : TT} (h : PTs X e t) (i : ∀ σ H Q, t' σ H Q → t σ H Q) : PTs X e t' := ⟨fun pins s σ H Q I hw => h.run pins s σ H Q I (i _ _ _ hw)⟩
section
variable {X : Cx} {C : CallF} {e a b : Expr} {x y z : E} {p pos : Pos} {es : List Expr}
theorem sts_nil : STs X C [] (.lit (.bl true)) := by
  refine pts_imp pts_nil fun σ H Q ⟨T, r, b, r', E, h, q⟩ => ?_
  have h : R.ok true r = R.ok b r' := h
  cases h
  exact q H (.refl E)
theorem sts_one (h : ST X C e x) : STs X C [e] x := pts_one h

/-- a step of the comprehension -/
def stepC (C : CallF) (t : Tg) (c x : E) (own : List Nat) : D → Env → R (Option D) := fun d r2 => match asg t d r2 with
  | some r3 => (ev C c r3).bind fun y r4 => (asB y r4).bind fun b r5 => match b with
    | true => (ev C x r5).bind fun z r6 => match z with
      | .val d' => .ok (some d') (wipes r6 own)
      | _ => .no
    | false => .ok none (wipes r5 own)
  | none => .no
theorem ev_lc {t : Tg} {k : Ik} {es c x : E} {own : List Nat} {r : Env} : ev C (.lc t k es c x own) r = (evs C es r).bind fun ws r1 => match (views r1 ws).bind (itOp k) with
    | some ds => ((compL (stepC C t c x own) ds [] (wipes (locks r1 ws) own)).bind fun out r7 => .ok (.own out) (backs (locks r1 ws) r7 own)).unlock r1 ws
    | none => .no := by
  rw [ev]
  rfl
theorem tg_wipe {σ σ2 : L2.St} {own : List Nat} {t : Tg} (hk : ∀ j, j ∉ tgS t → σ2[j]? = σ[j]?) (hl : σ2.length = σ.length) (hs : ∀ i ∈ tgS t, i ∈ own) : L2.wipe σ2 own = L2.wipe σ own := by
  refine List.ext_getElem? fun j => ?_
  by_cases hj : j ∈ own
  · have none_at : ∀ τ : L2.St, (L2.wipe τ own)[j]? = if j < τ.length then some none else none := fun τ => by
      clear hk hl hs
      induction own with
      | nil => cases hj
      | cons i is ih =>
        show ((L2.wipe τ is).set i none)[j]? = _
        by_cases h : j = i
        · subst h
          by_cases hlt : j < (L2.wipe τ is).length
          · rw [List.getElem?_set_self hlt, if_pos (by rwa [wipe_length] at hlt)]
          · rw [List.getElem?_eq_none (by rw [List.length_set]; omega), if_neg (by rwa [wipe_length] at hlt)]
        · rw [List.getElem?_set_ne (fun z => h z.symm)]
          exact ih ((List.mem_cons.mp hj).resolve_left h)
    rw [none_at, none_at, hl]
  · rw [wipe_out hj, wipe_out hj]
    exact hk j fun z => hj (hs j z)
theorem wipe_wipe {σ : L2.St} {own : List Nat} : L2.wipe (L2.wipe σ own) own = L2.wipe σ own := by
  refine List.ext_getElem? fun j => ?_
  by_cases hj : j ∈ own
  · have none_at : ∀ τ : L2.St, (L2.wipe τ own)[j]? = if j < τ.length then some none else none := fun τ => by
      induction own with
      | nil => cases hj
      | cons i is ih =>
        show ((L2.wipe τ is).set i none)[j]? = _
        by_cases h : j = i
        · subst h
          by_cases hlt : j < (L2.wipe τ is).length
          · rw [List.getElem?_set_self hlt, if_pos (by rwa [wipe_length] at hlt)]
          · rw [List.getElem?_eq_none (by rw [List.length_set]; omega), if_neg (by rwa [wipe_length] at hlt)]
        · rw [List.getElem?_set_ne (fun z => h z.symm)]
          exact ih ((List.mem_cons.mp hj).resolve_left h)
    rw [none_at, none_at, wipe_length]
  · rw [wipe_out hj]
theorem its_len {K : PySem.W.Frag} {H : Hp} {N : Addr → Prop} {vs : List V} {ds its : List D} {k : Ik} (h : VRs K H N vs ds) (hi : itOp k ds = some its) : its.length ≤ sizeLine := by
  have lim : (1048576 : Nat) ≤ sizeLine := by rw [sizeLine_eq]; decide
  have one : ∀ {v : V} {d : D} {zs : List D}, VR K H N v d → items d = some zs → zs.length ≤ sizeLine := fun {v d zs} h e => by
    unfold items at e
    split at e
    · cases e; obtain ⟨_, _, _, _, _, l⟩ := h; exact l
    · cases e; obtain ⟨_, _, _, _, _, l⟩ := vr_tup h; exact l
    · cases e
  cases k with
  | seq =>
    replace hi : itSeq ds = some its := hi
    unfold itSeq at hi
    split at hi
    · obtain ⟨v, rfl, hv⟩ := h.one
      exact one hv hi
    · cases hi
  | rng1 =>
    replace hi : itR1 ds = some its := hi
    unfold itR1 at hi
    split at hi
    · split at hi
      · cases hi; rw [List.length_map, List.length_range]; omega
      · cases hi
    · cases hi
  | rng2 =>
    replace hi : itR2 ds = some its := hi
    unfold itR2 at hi
    split at hi
    · split at hi
      · cases hi; rw [List.length_map, List.length_range]; omega
      · cases hi
    · cases hi
  | enum =>
    replace hi : itEnum ds = some its := hi
    unfold itEnum at hi
    split at hi
    · cases hi
      obtain ⟨v, rfl, hv⟩ := h.one
      rw [enumD_len]; exact one hv rfl
    · cases hi
      obtain ⟨v, rfl, hv⟩ := h.one
      rw [enumD_len]; exact one hv rfl
    · cases hi
  | zip =>
    replace hi : itZip ds = some its := hi
    unfold itZip at hi
    split at hi
    · cases hi
      obtain ⟨v, u, rfl, hv, hu⟩ := h.two
      rw [List.length_zipWith]
      exact Nat.le_trans (Nat.min_le_left _ _) (one hv rfl)
    · cases hi
      obtain ⟨v, u, rfl, hv, hu⟩ := h.two
      rw [List.length_zipWith]
      exact Nat.le_trans (Nat.min_le_left _ _) (one hv rfl)
    · cases hi
theorem lc_imp {t : Tg} {k : Ik} {ys c' : E} {ow : List Nat} {σ : L2.St} {H : Hp} {Q : VK} (hown : ∀ i ∈ tgS t, i ∈ ow) (h : rdE X.K C (.lc t k ys c' x ow) σ H Q) : tLc (rdI X.K C k ys) (rdG X.K t) (rdT X.K C c') (rdE X.K C x) ow σ H Q := by
  obtain ⟨T, r, w, r', E, hr, q⟩ := h
  rw [ev_lc] at hr
  obtain ⟨ws, r1, h1, h2⟩ := R.bind_inv hr
  cases hv : views r1 ws with
  | none => rw [hv] at h2; cases h2
  | some ds =>
    rw [hv] at h2
    cases hz : itOp k ds with
    | none =>
      have h2' : (match (itOp k ds) with
        | some ds => ((compL (stepC C t c' x ow) ds [] (wipes (locks r1 ws) ow)).bind fun out r7 => .ok (W.own out) (backs (locks r1 ws) r7 ow)).unlock r1 ws
        | none => .no) = R.ok w r' := h2
      rw [hz] at h2'; cases h2'
    | some its =>
      have h2' : (match (itOp k ds) with
        | some ds => ((compL (stepC C t c' x ow) ds [] (wipes (locks r1 ws) ow)).bind fun out r7 => .ok (W.own out) (backs (locks r1 ws) r7 ow)).unlock r1 ws
        | none => .no) = R.ok w r' := h2
      rw [hz] at h2'
      obtain ⟨r2, h3, rfl⟩ := unlock_inv h2'
      obtain ⟨out, r7, h4, h5⟩ := R.bind_inv h3
      cases h5
      refine ⟨T, r, ws, r1, ds, its, E, h1, hv, hz, fun vs H1 J P Wk => ?_⟩
      intro Dn hD
      obtain ⟨El, Wl⟩ := P.locked
      have hvl : views (locks r1 ws) ws = some ds := (views_same (locks_same ws r1)).trans hv
      have hlen := its_len (P.views hv) hz
      generalize hrl : locks r1 ws = rl at *
      have Eb := El.names ow
      have p0 : Po X.K H1 _ (L2.wipe σ ow) (wipes rl ow) (L2.wipe σ ow) (wipes rl ow) [.own []] [.ref Dn] (upd H1 Dn (.lst [])) := Po.opOf Eb (Op1.list hD .nil (Nat.zero_le _))
      refine ⟨fun i m Hc => m = its.length - i ∧ i ≤ its.length ∧ ∃ acc rc, Po X.K H1 (Tn (Tw T ws vs) σ rl ow) (L2.wipe σ ow) (wipes rl ow) (L2.wipe σ ow) rc [.own acc] [.ref Dn] Hc ∧ acc.length ≤ i ∧ (∀ j ∈ ow, gets rc j = .no) ∧ compL (stepC C t c' x ow) (its.drop i) acc rc = .ok out r7,
        ⟨its.length, by simp, Nat.zero_le _, [], wipes rl ow, p0, Nat.zero_le _, fun j hj => by rw [gets_wipes, if_pos hj], by rw [List.drop_zero]; exact h4⟩, ?_⟩
      rintro i m Hc ⟨rfl, hil, acc, rc, p, hal, hno, hcomp⟩
      have stay : VRs X.K Hc (fun b => Tw (Tn (Tw T ws vs) σ rl ow) [.own acc] [.ref Dn] b ∨ Acc (L2.wipe σ ow) rc b) vs ds := by
        refine WRs.kept El (fun b o e n => p.frame b o e fun z => n (mu_wipe z)) (fun b z => ?_) Wl hvl fun i hi m xs e => by rw [← hrl] at e; exact locked_all i hi m xs e
        rcases z with (z | z) | z
        · rcases z with z | z
          · exact .inl (.inl z)
          · exact .inl (.inr z.1)
        · exact .inr (p.fresh b z)
        · rcases p.news b z with z | z
          · obtain ⟨i, m, xs, _, g1, g2⟩ := acc_wipe.mp z
            exact .inl (.inr ⟨i, m, xs, g1, g2⟩)
          · exact .inr z
      obtain ⟨go, stop, yld⟩ := Wk Hc _ stay
      by_cases hlt : i < its.length
      · refine .inr ⟨go i hlt, _, fun H' w => ⟨its.length - (i + 1), by omega, w⟩, fun xv H' hy => ?_⟩
        rw [List.drop_eq_getElem_cons hlt, compL] at hcomp
        obtain ⟨yo, rn, k1, k2⟩ := R.bind_inv hcomp
        unfold stepC at k1
        cases ha : asg t its[i] rc with
        | none => rw [ha] at k1; cases k1
        | some r3 =>
          rw [ha] at k1
          have o := yld i xv H' hy its[i] (List.getElem?_eq_getElem hlt)
          have s1 := Po.opOf p.env o
          refine ⟨Hc, _, _, rc, [], [], rc, its[i], r3, s1, rfl, ha, fun σ2 s2 hk hl2 => ?_⟩
          have hw : L2.wipe σ2 ow = L2.wipe σ ow := by
            rw [tg_wipe hk hl2 hown, wipe_wipe]
          refine ⟨hw, ?_⟩
          obtain ⟨yw, r4, k3, k4⟩ := R.bind_inv k1
          obtain ⟨bb, r5, k5, k6⟩ := R.bind_inv k4
          refine ⟨_, r3, bb, r5, s2.env0, by unfold test; rw [k3]; exact k5, fun H3 p3 => ?_⟩
          have s3 := s2.next p3
          have noacc : ∀ i ∈ ow, ∀ m xs, gets rc i = .acc m xs → m = .free := fun i hi m xs e => by
            rw [hno i hi] at e; cases e
          cases bb with
          | true =>
            refine Eq.mpr (if_pos (c := (true = true)) rfl) ?_
            obtain ⟨zw, r6, k7, k8⟩ := R.bind_inv k6
            split at k8
            · rename_i d'
              cases k8
              refine ⟨_, r5, _, _, s3.env0, k7, fun yv H4 p4 => ?_⟩
              have s4 := s3.next p4
              have s5 := s4.wipe (own := ow) noacc (fun i z => by simp at z)
              rw [hw] at s5
              have p5 := p.trans s5 fun _ _ => rfl
              obtain ⟨us, e1, e2, p6⟩ := Po.push p5 (by omega)
              refine ⟨us, e1, by omega, rfl, hlt, acc ++ [d'], _, p6, by rw [List.length_append, List.length_singleton]; omega, fun j hj => by rw [gets_wipes, if_pos hj], k2⟩
            · cases k8
          | false =>
            refine Eq.mpr (if_neg (c := (false = true)) Bool.false_ne_true) ?_
            cases k6
            have s5 := s3.wipe (own := ow) noacc (fun i z => by simp at z)
            rw [hw] at s5
            have p5 := p.trans s5 fun _ _ => rfl
            exact ⟨rfl, hlt, acc, _, p5, by omega, fun j hj => by rw [gets_wipes, if_pos hj], k2⟩
      · have hie : i = its.length := by omega
        subst hie
        rw [List.drop_length] at hcomp
        cases hcomp
        refine .inl ⟨stop, q _ _ ?_⟩
        have pn := Po.names El p fun i z => by simp at z
        rw [← hrl] at pn
        have pw := P.walk pn
        rw [hrl] at pw
        exact pw
theorem se_lc {elt tg iter : Expr} {ifs : List Expr} {scope : Scope} {own : List (Str × Nat)} {t : Tg} {k : Ik} {ys c' : E} (hc : X.calm = true) (hN : X.N.Nodup) (hi : SI X C tg k iter ys) (ok : BlkOk X.N X.env.scope scope own)
    (hg : ∀ (s : Shared) (H : Hp) (D : Addr) (cl : List (Str × Addr)) (fp : List Addr), SG (X.blk s H scope (compEnvC scope cl D X.env) fp) tg t) (ht : ∀ (s : Shared) (H : Hp) (D : Addr) (cl : List (Str × Addr)) (fp : List Addr), STs (X.blk s H scope (compEnvC scope cl D X.env) fp) C ifs c')
    (he : ∀ (s : Shared) (H : Hp) (D : Addr) (cl : List (Str × Addr)) (fp : List Addr), SE (X.blk s H scope (compEnvC scope cl D X.env) fp) C elt x) (hs : ∀ x, foldedSetIterable iter X.env x = pure x)
    (hown : ∀ i ∈ tgS t, i ∈ own.map (·.2)) : SE X C (.ListComp elt [⟨tg, iter, ifs, 0⟩] scope pos) (.lc t k ys c' x (own.map (·.2))) :=
  pe_imp (pe_lc (te := rdE X.K C x) (tt := rdT X.K C c') (g := rdG X.K t) hc hN hi ok hg ht he hs) fun _ _ _ h => lc_imp hown h
end
end MP

set_option maxHeartbeats 1000000
/-! Built-ins, isinstance, calls, changes of lists, in expressions. -/
namespace MP
open PySem PySem.Spec PyProof.Rows L2

section
variable {X : Cx} {C : CallF} {e a b o : Expr} {x y z ys : E} {p p2 p3 pos apos cpos : Pos} {es : List Expr}

/-! ### built-ins -/
theorem bi_core {bi : Bi} {σ : L2.St} {H : Hp} {Q : VK} (h : rdE X.K C (.bi bi ys) σ H Q) : tCB (rBi X.K bi) (rdA X.K C ys) σ H Q := by
  obtain ⟨T, r, w, r', E, hr, q⟩ := h
  rw [ev] at hr
  obtain ⟨ws, r1, h1, h2⟩ := R.bind_inv hr
  cases hv : views r1 ws with
  | none => rw [hv] at h2; cases h2
  | some ds =>
    rw [hv] at h2
    obtain ⟨h3, rfl⟩ := R.ofO_inv h2
    exact ⟨T, r, ws, _, E, h1, fun vs H1 p => ⟨_, ds, w, p.views hv, h3, fun v H' o => q v H' (p.op o)⟩⟩
/-- the name of a built-in -/
def biN : Bi → Str
  | .len => "len" | .sum => "sum" | .sum2 => "sum" | .all => "all" | .any => "any" | .list => "list" | .tuple => "tuple" | .sorted => "sorted"
  | .lenset => "len" | .sortset => "sorted" | .abs => "abs" | .int => "int" | .min1 => "min" | .max1 => "max" | .min2 => "min" | .max2 => "max" | .listrange => "list"
/-- called as it stands -/
def biD : Bi → Bool
  | .lenset => false | .sortset => false | .listrange => false | _ => true
theorem se_bi {bi : Bi} (hb : biD bi = true) (hc : X.calm = true) (hg : Gl X (biN bi)) (hm : X.mg (biN bi) = none) (ha : SA X C (e :: es) ys) (hn : NS e) (hr : ∀ e ∈ es, NS e) : SE X C (.Call (.Name (biN bi) p) (e :: es) [] pos) (.bi bi ys) := by
  have h1 := hn es X.env
  have h2 := backTo_any (pos := pos) (env := X.env) hr
  cases bi <;> first | (cases hb; done) | skip
  · exact pe_imp (pe_callB cr_len' hg hm (by decide +kernel) ha (by decide) (by decide) h1 h2) fun _ _ _ => bi_core
  · exact pe_imp (pe_callB (cr_sum' hc) hg hm (by decide +kernel) ha (by decide) (by decide) h1 h2) fun _ _ _ => bi_core
  · exact pe_imp (pe_callB (cr_sum2 hc) hg hm (by decide +kernel) ha (by decide) (by decide) h1 h2) fun _ _ _ => bi_core
  · exact pe_imp (pe_callB (cr_all' hc) hg hm (by decide +kernel) ha (by decide) (by decide) h1 h2) fun _ _ _ => bi_core
  · exact pe_imp (pe_callB (cr_any' hc) hg hm (by decide +kernel) ha (by decide) (by decide) h1 h2) fun _ _ _ => bi_core
  · exact pe_imp (pe_callTy cr_list' hg hm (by decide +kernel) ha (by decide) (by decide) h1 h2) fun _ _ _ => bi_core
  · exact pe_imp (pe_callTy cr_tuple' hg hm (by decide +kernel) ha (by decide) (by decide) h1 h2) fun _ _ _ => bi_core
  · exact pe_imp (pe_callB cr_sorted' hg hm (by decide +kernel) ha (by decide) (by decide) h1 h2) fun _ _ _ => bi_core
  · exact pe_imp (pe_callB cr_abs' hg hm (by decide +kernel) ha (by decide) (by decide) h1 h2) fun _ _ _ => bi_core
  · exact pe_imp (pe_callTy cr_int' hg hm (by decide +kernel) ha (by decide) (by decide) h1 h2) fun _ _ _ => bi_core
  · exact pe_imp (pe_callB (cr_min1 hc) hg hm (by decide +kernel) ha (by decide) (by decide) h1 h2) fun _ _ _ => bi_core
  · exact pe_imp (pe_callB (cr_max1 hc) hg hm (by decide +kernel) ha (by decide) (by decide) h1 h2) fun _ _ _ => bi_core
  · exact pe_imp (pe_callB (cr_min2 hc) hg hm (by decide +kernel) ha (by decide) (by decide) h1 h2) fun _ _ _ => bi_core
  · exact pe_imp (pe_callB (cr_max2 hc) hg hm (by decide +kernel) ha (by decide) (by decide) h1 h2) fun _ _ _ => bi_core
theorem se_lenset (hc : X.calm = true) (hg : Gl X "len") (hm : X.mg "len" = none) (hg2 : Gl X "set") (hm2 : X.mg "set" = none) (ha : SE X C a x) (hn : NS a) :
    SE X C (.Call (.Name "len" p) [.Call (.Name "set" p2) [a] [] p3] [] pos) (.bi .lenset (.cons x .nil)) := by
  refine pe_imp (RZ.pe_lenSetI hg hm hg2 hm2 ha hc (hn [] X.env)) fun σ H Q h => ?_
  obtain ⟨T, r, ws, r', E, h1, q⟩ := bi_core h
  obtain ⟨w, rfl, h4⟩ := evs_one h1
  refine ⟨T, r, w, r', E, h4, fun v H1 p => ?_⟩
  obtain ⟨N, ds, w', hd, ho, q⟩ := q [v] H1 p
  replace ho : biLenset ds = some w' := ho
  unfold biLenset at ho
  split at ho
  · rename_i xs
    cases hn : getsI xs with
    | none => rw [hn] at ho; cases ho
    | some ns =>
      rw [hn] at ho
      replace ho : (if nodupI ns && decide (ns.length ≤ 4000) then some (W.val (.int ns.length)) else none) = some w' := ho
      split at ho
      · rename_i hk
        cases ho
        rw [Bool.and_eq_true] at hk
        obtain ⟨v', e, hv⟩ := hd.one
        cases e
        obtain ⟨a, vs, rfl, e1, e2, e3⟩ := hv
        have := getsI_is hn
        subst this
        cases reps_ints e2
        exact ⟨a, ns, rfl, .inl (.inl e1), nodupI_iff hk.1, of_decide_eq_true hk.2, q _ _ (.same (.int _))⟩
      · cases ho
  · cases ho
theorem se_listrange (hc : X.calm = true) (hg : Gl X "list") (hm : X.mg "list" = none) (hg2 : Gl X "range") (hm2 : X.mg "range" = none) (ha : SE X C a x) (hn : NS a) :
    SE X C (.Call (.Name "list" p) [.Call (.Name "range" p2) [a] [] p3] [] pos) (.bi .listrange (.cons x .nil)) := by
  refine pe_imp (pe_listRg hc hg hm (prg_1 hg2 hm2 ha (hn [] X.env)) rfl) fun σ H Q h => ?_
  obtain ⟨T, r, ws, r', E, h1, q⟩ := bi_core h
  obtain ⟨w, rfl, h4⟩ := evs_one h1
  refine ⟨T, r, w, r', E, h4, fun v H1 p => ?_⟩
  obtain ⟨N, ds, w', hd, ho, q⟩ := q [v] H1 p
  replace ho : biListrange ds = some w' := ho
  unfold biListrange at ho
  split at ho
  · rename_i n
    split at ho
    · rename_i hk
      cases ho
      obtain ⟨v', e, hv⟩ := hd.one
      cases e
      cases vr_int hv
      refine ⟨n, rfl, ⟨by omega, by omega, by omega, by omega, by omega⟩, fun a ha => q _ _ ?_⟩
      have e : rgV 0 n = ((List.range n.toNat).map fun (k : Nat) => (k : Int)).map V.int := by
        unfold rgV
        rw [List.map_map, Int.sub_zero]
        refine List.map_congr_left fun k _ => ?_
        show V.int (0 + (k : Int)) = V.int (k : Int)
        rw [Int.zero_add]
      have e2 : (List.range n.toNat).map (fun (k : Nat) => D.int (k : Int)) = ((List.range n.toNat).map fun (k : Nat) => (k : Int)).map D.int := by
        rw [List.map_map]; rfl
      rw [e, e2]
      refine .list ha .ints ?_
      rw [List.length_map, List.length_map, List.length_range, sizeLine_eq]
      omega
    · cases ho
  · cases ho
theorem se_isi {t : Ty} {tn : Str} (ht : tn = tyS t) (hg : Gl X "isinstance") (hm : X.mg "isinstance" = none) (hg2 : Gl X tn) (hm2 : X.mg tn = none) (ha : SE X C a x) (hn : NS a) :
    SE X C (.Call (.Name "isinstance" p) [a, .Name tn p2] [] pos) (.isi x t) := by
  subst ht
  have hb : PE X (.Name (tyS t) p2) (tC (.ty (tyS t))) := by
    refine pe_bltn hg2 hm2 (u := .type (tyS t)) ?_ (show RelV (.ty (tyS t)) (.type (tyS t)) from rfl) ?_ ?_
    · cases t <;> decide +kernel
    · cases t <;> decide
    · cases t <;> decide
  refine pe_imp (pe_callB (cr_isi t) hg hm (by decide +kernel) (pa_cons ha (pa_cons hb pa_nil rfl) (hn _ _)) (by decide) (by decide) (hn _ _) rfl) fun σ H Q ⟨T, r, w, r', E, hr, q⟩ => ?_
  rw [ev] at hr
  obtain ⟨w1, r1, h1, h2⟩ := R.bind_inv hr
  obtain ⟨d, h3, h4⟩ := vw_inv h2
  obtain ⟨h5, rfl⟩ := R.ofO_inv h4
  cases hz : isTy t d with
  | none => rw [hz] at h5; cases h5
  | some k =>
    rw [hz] at h5; cases h5
    refine ⟨T, r, w1, _, E, h1, fun v H1 p => ?_⟩
    exact ⟨_, d, k, v, rfl, p.at0.view p.env h3, hz, q _ _ (p.op (.same (.bl _)))⟩

/-! ### a list that a name owns is changed -/
theorem mutL_inv {β : Type} {r r' : Env} {i : Nat} {f : Md → List D → R β} {k : β} (h : mutL r i f = .ok k r') : ∃ m xs, gets r i = .acc m xs ∧ m ≠ .lck ∧ f m xs = .ok k r' := by
  unfold mutL at h
  split at h
  · exact ⟨.free, _, by assumption, Md.noConfusion, h⟩
  · exact ⟨.fix, _, by assumption, Md.noConfusion, h⟩
  · cases h
section
variable {K : PySem.W.Frag} {H H1 : Hp} {T : Addr → Prop} {σ σ1 : L2.St} {r r1 : Env} {ws : List W} {vs : List V} {i : Nat} {m : Md} {xs : List D} {w : W} {v : V}
theorem Po.at_slot (p : Po K H T σ r σ1 r1 ws vs H1) (e : gets r1 i = .acc m xs) : ∃ a us, σ1[i]? = some (some (.ref a)) ∧ H1 a = some (.lst us) ∧ Reps K H1 (fun b => Tw T ws vs b ∨ Acc σ1 r1 b) us xs ∧ us.length = xs.length ∧ xs.length ≤ sizeLine := by
  obtain ⟨a, us, e1, _, e2, e3, e4⟩ := p.env.acc i m xs e
  exact ⟨a, us, e1, e2, e3, e3.length, e4⟩
theorem Po.non1 (p : Po K H T σ r σ1 r1 [] [] H1) : Po K H T σ r σ1 r1 [.val .non] [.non] H1 := p.op (.same .non)
end
variable {i : Nat} {n : Str}
/-- o.append(e): the list at a slot -/
theorem se_app (hN : X.N[i]? = some n) (hv : Vis X.env.scope n) (hd : (n == ("__debug__" : Str)) = false) (hcd : (n == ("__classdict__" : Str)) = false) (ha : SE X C e x) (hn : NS e) (hline : (apos.endLine == cpos.line) = true)
    (hb : attributeBase (.Name n p) "append" X.env (eval (.Name n p) X.env) = eval (.Name n p) X.env) :
    SE X C (.Call (.Attribute (.Name n p) "append" apos) [e] [] cpos) (.app i x) := by
  refine pe_imp (pe_bm PySem.F.plainAttrs_list PySem.F.slot_list_append PySem.F.type_list_append mt_append (pe_var hN hv hd hcd) (pa_cons ha pa_nil (hn [] X.env)) hb (by rw [hn]; rfl) hline (hn [] X.env) rfl)
    fun σ H Q ⟨T, r, w, r', E, hr, q⟩ => ?_
  rw [ev] at hr
  obtain ⟨m0, xs0, g0, n0, hr⟩ := mutL_inv hr
  obtain ⟨w1, r1, h1, h2⟩ := R.bind_inv hr
  obtain ⟨a, us0, e1, _, e2, _⟩ := E.acc i m0 xs0 g0
  refine ⟨_, e1, .inl ⟨rfl, us0, .inl (.inl e2)⟩, T, r, w1, r1, E, h1, fun v H1 p => ?_⟩
  split at h2
  · rename_i d
    obtain ⟨m, xs, g1, n1, h3⟩ := mutL_inv h2
    split at h3
    · rename_i hl
      cases h3
      obtain ⟨a', us, f1, f2, f3, f4, f5⟩ := p.at_slot g1
      rw [e1] at f1
      cases f1
      have hw : Rep X.K H1 _ v d := p.at0
      have hN : ∀ b, (Tw T [] [] b ∨ Acc σ r1 b) → (Tw T [.val d] [v] b ∨ Acc σ r1 b) := fun b z => z.imp (fun z => z.imp id fun z => by cases z) id
      refine ⟨a, us, v, rfl, rfl, f2, by rw [f4]; have := LIM_le; omega, q _ _ (Po.non1 (p.drop.mut g1 n1 e1 ((f3.anti hN).append (.cons (hw.anti hN) .nil)) ?_))⟩
      rw [List.length_append, List.length_singleton]
      have := LIM_le; omega
    · cases h3
  · cases h2
theorem se_ext (hN : X.N[i]? = some n) (hv : Vis X.env.scope n) (hd : (n == ("__debug__" : Str)) = false) (hcd : (n == ("__classdict__" : Str)) = false) (ha : SE X C e x) (hn : NS e) (hline : (apos.endLine == cpos.line) = true)
    (hb : attributeBase (.Name n p) "extend" X.env (eval (.Name n p) X.env) = eval (.Name n p) X.env) :
    SE X C (.Call (.Attribute (.Name n p) "extend" apos) [e] [] cpos) (.ext i x) := by
  refine pe_imp (pe_bm PySem.F.plainAttrs_list PySem.F.slot_list_extend PySem.F.type_list_extend mt_extend (pe_var hN hv hd hcd) (pa_cons ha pa_nil (hn [] X.env)) hb (by rw [hn]; rfl) hline (hn [] X.env) rfl)
    fun σ H Q ⟨T, r, w, r', E, hr, q⟩ => ?_
  rw [ev] at hr
  obtain ⟨m0, xs0, g0, n0, hr⟩ := mutL_inv hr
  obtain ⟨w1, r1, h1, h2⟩ := R.bind_inv hr
  obtain ⟨a, us0, e1, _, e2, _⟩ := E.acc i m0 xs0 g0
  refine ⟨_, e1, .inl ⟨rfl, us0, .inl (.inl e2)⟩, T, r, w1, r1, E, h1, fun v H1 p => ?_⟩
  obtain ⟨d, hvw, h2⟩ := vw_inv h2
  split at h2
  · rename_i zs
    obtain ⟨m, xs, g1, n1, h3⟩ := mutL_inv h2
    split at h3
    · rename_i hl
      cases h3
      obtain ⟨a', us, f1, f2, f3, f4, f5⟩ := p.at_slot g1
      rw [e1] at f1
      cases f1
      obtain ⟨b, bs, rfl, b1, b2, b3⟩ := p.at0.view p.env hvw
      have hN : ∀ b', (Tw T [] [] b' ∨ Acc σ r1 b') → (Tw T [w1] [.ref b] b' ∨ Acc σ r1 b') := fun b z => z.imp (fun z => z.imp id fun z => by cases z) id
      refine ⟨a, b, us, bs, rfl, rfl, f2, b1, by rw [f4, b2.length]; have := LIM_le; omega, q _ _ (Po.non1 (p.drop.mut g1 n1 e1 ((f3.anti hN).append (b2.anti hN)) ?_))⟩
      rw [List.length_append]
      have := LIM_le; omega
    · cases h3
  · cases h2
theorem se_pop (hN : X.N[i]? = some n) (hv : Vis X.env.scope n) (hd : (n == ("__debug__" : Str)) = false) (hcd : (n == ("__classdict__" : Str)) = false) (hline : (apos.endLine == cpos.line) = true)
    (hb : attributeBase (.Name n p) "pop" X.env (eval (.Name n p) X.env) = eval (.Name n p) X.env) :
    SE X C (.Call (.Attribute (.Name n p) "pop" apos) [] [] cpos) (.pop i) := by
  refine pe_imp (pe_bm0 PySem.F.plainAttrs_list PySem.F.slot_list_pop PySem.F.type_list_pop mt_pop (pe_var hN hv hd hcd) hb hline) fun σ H Q ⟨T, r, w, r', E, hr, q⟩ => ?_
  rw [ev] at hr
  obtain ⟨m, xs, g, nl, hr⟩ := mutL_inv hr
  obtain ⟨a, us, e1, nT, e2, e3, e4⟩ := E.acc i m xs g
  split at hr
  · rename_i d hl
    cases hr
    have hd : xs[xs.length - 1]? = some d := by rw [← hl, List.getLast?_eq_getElem?]
    obtain ⟨v, g1, g2⟩ := e3.get hd
    refine ⟨_, e1, .inl ⟨rfl, us, .inl (.inl e2)⟩, a, us, v, rfl, rfl, e2, by rw [e3.length]; exact g1, q _ _ ?_⟩
    have hz : xs.dropLast.length ≤ sizeLine := by rw [List.length_dropLast]; omega
    have p := Po.val0 E g2
    exact p.mut g nl e1 (Reps.anti e3.dropLast fun b z => z.imp (fun z => z.elim id fun z => by cases z) id) hz
  · cases hr
theorem ixN_seq {n k : Nat} {j : Int} (h : MP.ixN n j = some k) : seqIndex? j n = some k ∧ k < n ∧ -(n : Int) ≤ j ∧ j < n := by
  unfold MP.ixN at h
  unfold seqIndex?
  split at h
  · rename_i h0
    split at h
    · rename_i h1
      cases h
      refine ⟨?_, by omega, by omega, h1⟩
      rw [if_neg (show ¬ j < 0 by omega)]
      rw [if_pos (show (decide (0 ≤ j) && decide (j < (n : Int))) = true by rw [decide_eq_true h0, decide_eq_true h1]; rfl)]
    · cases h
  · rename_i h0
    split at h
    · rename_i h1
      cases h
      refine ⟨?_, by omega, h1, by omega⟩
      rw [if_pos (show j < 0 by omega)]
      rw [if_pos (show (decide (0 ≤ j + (n : Int)) && decide (j + (n : Int) < (n : Int))) = true by rw [decide_eq_true (by omega), decide_eq_true (by omega)]; rfl)]
    · cases h
theorem se_popAt (hN : X.N[i]? = some n) (hv : Vis X.env.scope n) (hd : (n == ("__debug__" : Str)) = false) (hcd : (n == ("__classdict__" : Str)) = false) (ha : SE X C e x) (hn : NS e) (hline : (apos.endLine == cpos.line) = true)
    (hb : attributeBase (.Name n p) "pop" X.env (eval (.Name n p) X.env) = eval (.Name n p) X.env) :
    SE X C (.Call (.Attribute (.Name n p) "pop" apos) [e] [] cpos) (.popAt i x) := by
  refine pe_imp (pe_bm PySem.F.plainAttrs_list PySem.F.slot_list_pop PySem.F.type_list_pop mt_popAt (pe_var hN hv hd hcd) (pa_cons ha pa_nil (hn [] X.env)) hb (by rw [hn]; rfl) hline (hn [] X.env) rfl)
    fun σ H Q ⟨T, r, w, r', E, hr, q⟩ => ?_
  rw [ev] at hr
  obtain ⟨m0, xs0, g0, n0, hr⟩ := mutL_inv hr
  obtain ⟨w1, r1, h1, h2⟩ := R.bind_inv hr
  obtain ⟨a, us0, e1, _, e2, _⟩ := E.acc i m0 xs0 g0
  refine ⟨_, e1, .inl ⟨rfl, us0, .inl (.inl e2)⟩, T, r, w1, r1, E, h1, fun v H1 p => ?_⟩
  split at h2
  · rename_i j
    cases p.intv
    obtain ⟨m, xs, g, nl, h3⟩ := mutL_inv h2
    obtain ⟨a', us, f1, f2, f3, f4, f5⟩ := p.at_slot g
    rw [e1] at f1
    cases f1
    cases hk : ixN xs.length j with
    | none => rw [hk] at h3; cases h3
    | some k =>
      rw [hk] at h3
      obtain ⟨k1, k2, k3, k4⟩ := ixN_seq hk
      have hx : xs[k]? = some xs[k] := List.getElem?_eq_getElem k2
      simp only [Option.bind_some, hx, Option.map_some] at h3
      cases h3
      obtain ⟨v, g1, g2⟩ := f3.get hx
      have hz : xs.length ≤ 16777216 := by rw [← sizeLine_eq]; exact f5
      refine ⟨a, us, j, k, v, rfl, rfl, f2, by omega, by omega, by rw [f4]; exact k1, g1, q _ _ ?_⟩
      have hz : (xs.eraseIdx k).length ≤ sizeLine := by have := len_erase xs k; omega
      have p2 := p.op (w := .val xs[k]) (v := v) (.same g2)
      refine p2.mut g nl e1 (Reps.anti (f3.erase k) fun b z => z.imp (fun z => z.imp id fun z => ?_) id) hz
      cases z
  · cases h2

/-! ### calls -/
/-- the promise: what MP says -/
def spF (K : PySem.W.Frag) (C : CallF) (f m : Nat) : Sp := fun vs H Q _ => vs.length = m ∧ ∃ T ss w out, ER K H T (vs.map some) ss ∧ (∀ i m xs, gets ss i = .acc m xs → m = .fix) ∧ C f ss = .ok w out ∧ (∀ k, w ≠ .slot k) ∧ ∀ v H', Po K H T (vs.map some) ss (vs.map some) out [w] [v] H' → Q v H'
theorem evs_lenA {ys : E} {r r' : Env} {ws : List W} (h : evs C ys r = .ok ws r') : ∀ {vs : List V} {K : PySem.W.Frag} {H : Hp} {T : Addr → Prop} {σ : L2.St}, WRs K H T σ r' ws vs → ws.length = vs.length := fun q => q.length
theorem back_inv {ws : List W} {r r' : Env} {q : R W} {w : W} (h : q.back ws r = .ok w r') : ∃ out, q = .ok w out ∧ (∀ k, w ≠ .slot k) ∧ r' = backArgs ws out r := by
  cases q with
  | ok u out =>
    cases u with
    | val d => cases h; exact ⟨out, rfl, fun _ z => (nomatch z), rfl⟩
    | own xs => cases h; exact ⟨out, rfl, fun _ z => (nomatch z), rfl⟩
    | slot i => cases h
  | exc u out => cases h
  | no => cases h
theorem call_core {f m : Nat} {σ : L2.St} {H : Hp} {Q : VK} {E' : XK} (hm : ∀ ss w out, C f ss = .ok w out → ss.length = m) (h : rdE X.K C (.call f ys) σ H Q) : tCall (spF X.K C f m) [] E' (rdA X.K C ys) σ H Q := by
  obtain ⟨T, r, w, r', E, hr, q⟩ := h
  rw [ev] at hr
  obtain ⟨ws, r1, h1, h2⟩ := R.bind_inv hr
  split at h2
  · rename_i ss hs
    split at h2
    · rename_i hnd
      obtain ⟨out, h3, h4, rfl⟩ := back_inv h2
      refine ⟨T, r, ws, r1, E, h1, fun vs H1 p => ?_⟩
      have hl := p.res.length
      have hsl := argsS_len hs
      have nd := nodupN_iff hnd
      have fix : ∀ i m xs, gets ss i = .acc m xs → m = .fix := fun i m xs e => by
        obtain ⟨w', v', _, _, _, h5⟩ := argsS_at i hs p.res (by rw [e]; exact Sl.noConfusion)
        rw [e] at h5
        rcases argS_cases h5 with ⟨d, _, z⟩ | ⟨_, _, _, _, _, _, z⟩
        · cases z
        · cases z; rfl
      refine ⟨by rw [List.append_nil, ← hl, ← hsl]; exact hm _ _ _ h3, _, ss, w, out, by rw [List.append_nil]; exact p.args hs nd, fix, h3, h4, fun v H' p' => q v H' (p.call hs nd (by rw [List.append_nil] at p'; exact p') h4)⟩
    · cases h2
  · cases h2
/-- what is known of a def -/
structure Kn (X : Cx) (C : CallF) (f : Nat) (n : Str) (m : Nat) : Prop where
  ex : ∃ (a : Addr) (fd : FuncData) (ps : List Str) (k : Nat), FnOk X.prog X.w X.K X.mg X.base CX0 k a fd ps (spF X.K C f m) ∧ Room k X.A ∧ X.mg n = some (.ref a) ∧ PySem.W.keepIn X.K (.ref a) = true ∧ Binds X.K fd ps []
  len : ∀ ss w out, C f ss = .ok w out → ss.length = m
  db : (n == ("__debug__" : Str)) = false
theorem se_call {f m : Nat} (K : Kn X C f n m) (hg : Gl X n) (ha : SA X C (e :: es) ys) (hn : NS e) (hr : ∀ e ∈ es, NS e) : SE X C (.Call (.Name n p) (e :: es) [] pos) (.call f ys) := by
  obtain ⟨a, fd, ps, k, F, rm, mg, kp, bd⟩ := K.ex
  exact pe_imp (pe_call F rm hg mg kp bd .nil (E := fun _ _ _ => False) pass0 ha K.db (hn es X.env) (backTo_any hr)) fun σ H Q h => call_core K.len h
theorem se_call0 {f m : Nat} (K : Kn X C f n m) (hg : Gl X n) : SE X C (.Call (.Name n p) [] [] pos) (.call f .nil) := by
  obtain ⟨a, fd, ps, k, F, rm, mg, kp, bd⟩ := K.ex
  refine pe_imp (pe_call0 F rm hg mg kp bd .nil (E := fun _ _ _ => False) pass0 K.db) fun σ H Q h => ?_
  obtain ⟨T, r, ws, r', E, h1, q⟩ := call_core (E' := fun _ _ _ => False) K.len h
  rw [evs] at h1
  cases h1
  exact q [] H (.refl E)
end
end MP

set_option maxHeartbeats 1000000
/-! Statements, defs. -/
namespace MP
open PySem PySem.Spec PyProof.Rows L2

/-- what is wanted of an end -/
def En (K : PySem.W.Frag) (H : Hp) (T : Addr → Prop) (σ : L2.St) (r : Env) (D : Ends) : Fl → Env → Prop
  | .next, r' => ∀ σ' H', Po K H T σ r σ' r' [] [] H' → D.nx σ' H'
  | .ret w, r' => ∀ v σ' H', Po K H T σ r σ' r' [w] [v] H' → D.rt v H'
  | .brk, r' => ∀ σ' H', Po K H T σ r σ' r' [] [] H' → D.bk σ' H'
def rdS (K : PySem.W.Frag) (C : CallF) (s : S) : TS := fun D σ H => ∃ T r f r', ER K H T σ r ∧ ex C s r = .ok f r' ∧ En K H T σ r D f r'
abbrev SS (X : Cx) (C : CallF) (st : Stmt) (s : S) : Prop := PS X st (rdS X.K C s)
abbrev SSs (X : Cx) (C : CallF) (sts : List Stmt) (s : S) : Prop := PSs X sts (rdS X.K C s)
section
variable {K : PySem.W.Frag} {H H' H1 H2 : Hp} {T T' : Addr → Prop} {σ σ' σ1 σ2 : L2.St} {r r' r1 r2 : Env} {ws us : List W} {vs zs : List V} {w x y : W} {v : V} {i j : Nat} {d : D} {D : Ends} {f : Fl}
theorem En.next (p : Po K H T σ r σ1 r1 [] [] H1) (e : En K H T σ r D f r') : En K H1 T σ1 r1 D f r' := by
  cases f with
  | next => exact fun σ' H' q => e σ' H' (p.next q)
  | ret w => exact fun v σ' H' q => e v σ' H' (p.next q)
  | brk => exact fun σ' H' q => e σ' H' (p.next q)
/-- a result that is a value of a name, as a value -/
theorem Po.asVal (p : Po K H T σ r σ1 r1 [w] [v] H1) (e : view r1 w = some d) (hd : ∀ xs, d ≠ .lst xs) : Po K H T σ r σ1 r1 [.val d] [v] H1 := by
  cases w with
  | val d' => cases e; exact p
  | own xs => cases e; exact (hd xs rfl).elim
  | slot i =>
    refine p.take ?_
    unfold view at e
    unfold MP.take
    dsimp only at e ⊢
    split at e
    · cases e
      rename_i d' h
      rw [h]
    · cases e; exact (hd _ rfl).elim
    · cases e
end
section
variable {X : Cx} {C : CallF} {e a b c o : Expr} {x y z ys : E} {s s1 s2 : S} {st : Stmt} {sts : List Stmt} {p px py p2 p3 pos apos cpos : Pos} {es : List Expr} {i j l : Nat} {n m k : Str}
theorem ss_nil : SSs X C [] .skip := by
  refine pss_imp pss_nil fun D σ H ⟨T, r, f, r', E, h, q⟩ => ?_
  rw [ex] at h
  cases h
  exact q σ H (.refl E)
theorem ss_one (h : SS X C st s) : SSs X C [st] s := pss_one h
theorem ss_cons (h1 : SS X C st s1) (h2 : SSs X C sts s2) : SSs X C (st :: sts) (.seq s1 s2) := by
  refine pss_imp (pss_cons h1 h2) fun D σ H ⟨T, r, f, r', E, h, q⟩ => ?_
  rw [ex] at h
  obtain ⟨f1, r1, h3, h4⟩ := R.bind_inv h
  refine ⟨T, r, f1, r1, E, h3, ?_⟩
  cases f1 with
  | next => exact fun σ' H' p => ⟨T, r1, f, r', p.env0, h4, q.next p⟩
  | ret w => cases h4; exact q
  | brk => cases h4; exact q
theorem ss_pass : SS X C (.Pass pos) .skip := by
  refine ps_imp ps_pass fun D σ H ⟨T, r, f, r', E, h, q⟩ => ?_
  rw [ex] at h
  cases h
  exact q σ H (.refl E)
theorem ss_doc {t : Str} {jj : Nat} : SS X C (.Expr (.Constant (.str t) jj p) pos) .skip := by
  refine ps_imp ps_doc fun D σ H ⟨T, r, f, r', E, h, q⟩ => ?_
  rw [ex] at h
  cases h
  exact q σ H (.refl E)
theorem ss_brk : SS X C (.Break pos) .brk := by
  refine ps_imp ps_break fun D σ H ⟨T, r, f, r', E, h, q⟩ => ?_
  rw [ex] at h
  cases h
  exact q σ H (.refl E)
theorem ss_dead : SS X C st .dead := by
  refine ps_imp ps_never fun D σ H ⟨T, r, f, r', E, h, q⟩ => ?_
  rw [ex] at h
  cases h
theorem sss_dead : SSs X C sts .dead := by
  refine pss_imp pss_never fun D σ H ⟨T, r, f, r', E, h, q⟩ => ?_
  rw [ex] at h
  cases h
theorem ss_expr (h : SE X C e x) (hs : swapsWith e none pos.line X.env = pure false) : SS X C (.Expr e pos) (.expr x) := by
  refine ps_imp (ps_expr h hs) fun D σ H ⟨T, r, f, r', E, h, q⟩ => ?_
  rw [ex] at h
  obtain ⟨w, r1, h1, h2⟩ := R.bind_inv h
  cases h2
  exact ⟨T, r, w, _, E, h1, fun v H' p => q σ H' p.drop⟩
theorem ss_ret (h : SE X C e x) : SS X C (.Return (some e) pos) (.ret x) := by
  refine ps_imp (ps_ret h) fun D σ H ⟨T, r, f, r', E, h, q⟩ => ?_
  rw [ex] at h
  obtain ⟨w, r1, h1, h2⟩ := R.bind_inv h
  cases h2
  exact ⟨T, r, w, _, E, h1, fun v H' p => q v σ H' p⟩
theorem ss_retn : SS X C (.Return none pos) .retn := by
  refine ps_imp ps_retN fun D σ H ⟨T, r, f, r', E, h, q⟩ => ?_
  rw [ex] at h
  cases h
  exact q _ σ H (.val0 E .non)
theorem ss_if {as bs : List Stmt} (hc : ST X C c x) (ha : SSs X C as s1) (hb : SSs X C bs s2) : SS X C (.If c as bs pos) (.ite x s1 s2) := by
  refine ps_imp (ps_if hc ha hb) fun D σ H ⟨T, r, f, r', E, h, q⟩ => ?_
  rw [ex] at h
  obtain ⟨t, r1, h1, h2⟩ := R.bind_inv h
  refine ⟨T, r, t, r1, E, h1, fun H1 p => ?_⟩
  cases t with
  | true => exact ⟨T, r1, f, r', p.env0, h2, q.next p⟩
  | false => exact ⟨T, r1, f, r', p.env0, h2, q.next p⟩

/-! ### stores -/
theorem set_core {σ : L2.St} {H : Hp} {D : Ends} (h : rdS X.K C (.asn (.nm i) x) D σ H) : tAsg (rdE X.K C x) (gName i) D σ H := by
  obtain ⟨T, r, f, r', E, h, q⟩ := h
  rw [ex] at h
  obtain ⟨w, r1, h1, h2⟩ := R.bind_inv h
  obtain ⟨u, r2, h3, h4⟩ := R.bind_inv h2
  cases h4
  exact ⟨T, r, w, r1, E, h1, fun v H' p => q _ H' (p.putW h3 (by simp [slotsOf]))⟩
theorem ss_set (hN : X.N.Nodup) (hi : X.N[i]? = some n) (hs : Sto X n) (h : SE X C e x) (hw : swapsWith e (some (.Name n px)) pos.line X.env = pure false) : SS X C (.Assign [.Name n px] e pos) (.asn (.nm i) x) :=
  ps_imp (ps_set hN hi hs.1 h hw hs.2) fun D σ H h => set_core h
theorem ss_setLc {elt tg iter : Expr} {ifs : List Expr} {scope : Scope} {own : List (Str × Nat)} {t : Tg} {k : Ik} {ys c' : E} {spos : Pos} (hc : X.calm = true) (hN : X.N.Nodup) (hi : X.N[i]? = some n) (hl : X.env.scope.names.lookup n = some .local)
    (hsw : swapsWith (.ListComp elt [⟨tg, iter, ifs, 0⟩] scope pos) (some (.Name n px)) spos.line X.env = pure true) (hit : SI X C tg k iter ys) (ok : BlkOk X.N X.env.scope scope own)
    (hg : ∀ (s : Shared) (H : Hp) (D : Addr) (cl : List (Str × Addr)) (fp : List Addr), SG (X.blk s H scope (compEnvC scope cl D X.env) fp) tg t) (ht : ∀ (s : Shared) (H : Hp) (D : Addr) (cl : List (Str × Addr)) (fp : List Addr), STs (X.blk s H scope (compEnvC scope cl D X.env) fp) C ifs c')
    (he : ∀ (s : Shared) (H : Hp) (D : Addr) (cl : List (Str × Addr)) (fp : List Addr), SE (X.blk s H scope (compEnvC scope cl D X.env) fp) C elt x) (hs : ∀ x, foldedSetIterable iter X.env x = pure x)
    (hown : ∀ i ∈ tgS t, i ∈ own.map (·.2)) : SS X C (.Assign [.Name n px] (.ListComp elt [⟨tg, iter, ifs, 0⟩] scope pos) spos) (.asn (.nm i) (.lc t k ys c' x (own.map (·.2)))) := by
  refine ps_imp (ps_setLc (te := rdE X.K C x) (tt := rdT X.K C c') (g := rdG X.K t) hc hN hi hl hsw hit ok hg ht he hs) fun D σ H h => ?_
  obtain ⟨T, r, w, r', E, h1, q⟩ := set_core h
  exact lc_imp hown ⟨T, r, w, r', E, h1, q⟩
theorem ss_asgT {tg : Expr} {t : Tg} (h : SE X C e x) (hg : SG X tg (.tp t)) (hs : swapsWithSole [tg] e pos.line X.env = pure false) (hw : swappedStores [tg] e X.env = pure none) (h1 : (assignEach [tg] X.env).map (·.2) = [assign tg X.env]) : SS X C (.Assign [tg] e pos) (.asn (.tp t) x) := by
  refine ps_imp (ps_asg h hg hs hw h1) fun D σ H ⟨T, r, f, r', E, h, q⟩ => ?_
  rw [ex] at h
  obtain ⟨w, r1, h1, h2⟩ := R.bind_inv h
  obtain ⟨d, h3, h4⟩ := vw_inv h2
  split at h4
  · rename_i ds
    obtain ⟨r2, r3, h5, h6⟩ := R.bind_inv h4
    obtain ⟨h7, rfl⟩ := R.ofO_inv h5
    cases h6
    refine ⟨T, r, w, _, E, h1, fun v H1 p => ⟨H, T, σ, r, [], [], _, _, _, p.asVal h3 (fun xs z => nomatch z), rfl, h7, fun σ2 p2 _ _ => q σ2 H1 p2⟩⟩
  · cases h4
theorem putWs_two {i j : Nat} {ws : List W} {r r' : Env} {u : Unit} (h : putWs (.cons (.nm i) (.cons (.nm j) .nil)) ws r = .ok u r') : ∃ w1 w2 r1, ws = [w1, w2] ∧ i ∉ slotsOf [w2] ∧ putW r i w1 = .ok () r1 ∧ putW r1 j w2 = .ok () r' := by
  match ws, h with
  | [], h => cases h
  | w :: ws, h =>
    rw [putWs] at h
    split at h
    · cases h
    · rename_i hs
      obtain ⟨_, r1, h1, h2⟩ := R.bind_inv h
      match ws, h2 with
      | [], h2 => cases h2
      | w2 :: ws, h2 =>
        rw [putWs] at h2
        split at h2
        · cases h2
        · obtain ⟨_, r2, h3, h4⟩ := R.bind_inv h2
          match ws, h4 with
          | [], h4 => cases h4; exact ⟨w, w2, r1, rfl, by simpa using hs, h1, h3⟩
          | _ :: _, h4 => cases h4
theorem ss_par {pt pt2 : Pos} {kt k2 : Nat} (hc : X.calm = true) (hN : X.N.Nodup) (hi : X.N[i]? = some n) (hj : X.N[j]? = some m) (hij : i ≠ j) (hx : X.env.scope.names.lookup n = some .local) (hy : X.env.scope.names.lookup m = some .local)
    (ha : SA X C [a, b] ys) (hw : swappedStores [.Tuple [.Name n px, .Name m py] kt pt] (.Tuple [a, b] k2 pt2) X.env = pure (some [n, m])) :
    SS X C (.Assign [.Tuple [.Name n px, .Name m py] kt pt] (.Tuple [a, b] k2 pt2) pos) (.par (.cons (.nm i) (.cons (.nm j) .nil)) ys) := by
  refine ps_imp (ps_par hc hN hi hj hij hx hy ha hw rfl) fun D σ H ⟨T, r, f, r', E, h, q⟩ => ?_
  rw [ex] at h
  obtain ⟨ws, r1, h1, h2⟩ := R.bind_inv h
  obtain ⟨u, r2, h3, h4⟩ := R.bind_inv h2
  cases h4
  obtain ⟨w1, w2, r3, rfl, hs, h5, h6⟩ := putWs_two h3
  refine ⟨T, r, _, r1, E, h1, fun vs H1 p => ?_⟩
  match vs, p.res.length with
  | [v, u], _ => exact ⟨v, u, rfl, q _ _ ((p.putW h5 hs).putW h6 (by simp [slotsOf]))⟩
theorem putWs_three {i j l : Nat} {ws : List W} {r r' : Env} {u : Unit} (h : putWs (.cons (.nm i) (.cons (.nm j) (.cons (.nm l) .nil))) ws r = .ok u r') :
    ∃ w1 w2 w3 r1 r2, ws = [w1, w2, w3] ∧ i ∉ slotsOf [w2, w3] ∧ j ∉ slotsOf [w3] ∧ putW r i w1 = .ok () r1 ∧ putW r1 j w2 = .ok () r2 ∧ putW r2 l w3 = .ok () r' := by
  match ws, h with
  | [], h => cases h
  | w :: ws, h =>
    rw [putWs] at h
    split at h
    · cases h
    · rename_i hs
      obtain ⟨_, r1, h1, h2⟩ := R.bind_inv h
      obtain ⟨w1, w2, r2, rfl, g1, g2, g3⟩ := putWs_two h2
      exact ⟨w, w1, w2, r1, r2, rfl, by simpa using hs, g1, h1, g2, g3⟩
theorem ss_par3 {pz : Pos} {pt pt2 : Pos} {kt k2 : Nat} (hc : X.calm = true) (hN : X.N.Nodup) (hi : X.N[i]? = some n) (hj : X.N[j]? = some m) (hl : X.N[l]? = some k) (hij : i ≠ j) (hil : i ≠ l) (hjl : j ≠ l)
    (hx : X.env.scope.names.lookup n = some .local) (hy : X.env.scope.names.lookup m = some .local) (hz : X.env.scope.names.lookup k = some .local)
    (ha : SA X C [a, b, c] ys) (hw : swappedStores [.Tuple [.Name n px, .Name m py, .Name k pz] kt pt] (.Tuple [a, b, c] k2 pt2) X.env = pure (some [n, m, k])) :
    SS X C (.Assign [.Tuple [.Name n px, .Name m py, .Name k pz] kt pt] (.Tuple [a, b, c] k2 pt2) pos) (.par (.cons (.nm i) (.cons (.nm j) (.cons (.nm l) .nil))) ys) := by
  refine ps_imp (ps_par3 hc hN hi hj hl hij hil hjl hx hy hz ha hw rfl) fun D σ H ⟨T, r, f, r', E, h, q⟩ => ?_
  rw [ex] at h
  obtain ⟨ws, r1, h1, h2⟩ := R.bind_inv h
  obtain ⟨u, r2, h3, h4⟩ := R.bind_inv h2
  cases h4
  obtain ⟨w1, w2, w3, r3, r4, rfl, hs, hs2, h5, h6, h7⟩ := putWs_three h3
  refine ⟨T, r, _, r1, E, h1, fun vs H1 p => ?_⟩
  match vs, p.res.length with
  | [v, u, z], _ => exact ⟨v, u, z, rfl, q _ _ (((p.putW h5 hs).putW h6 hs2).putW h7 (by simp [slotsOf]))⟩
/-- o[i] = v, the list at a slot -/
theorem ss_setix (hN : X.N[i]? = some n) (hv : Vis X.env.scope n) (hd : (n == ("__debug__" : Str)) = false) (hcd : (n == ("__classdict__" : Str)) = false) (he : SE X C e x) (ha : SE X C a y)
    (hs : swapsWithSole [.Subscript (.Name n px) a p2] e pos.line X.env = pure false) (hw : swappedStores [.Subscript (.Name n px) a p2] e X.env = pure none)
    (hb : ∀ v, assign (.Subscript (.Name n px) a p2) X.env v = (do
      let ov ← holding [v] (eval (.Name n px) X.env)
      let iv ← holding [v, ov] (eval a X.env)
      standAt p2
      holding [v, ov, iv] (setItem ov iv v)
      release [v, ov, iv] [])) :
    SS X C (.Assign [.Subscript (.Name n px) a p2] e pos) (.setix i y x) := by
  refine ps_imp (ps_asg he (pg_sub (pe_var hN hv hd hcd) ha set_list hb) hs hw rfl) fun D σ H ⟨T, r, f, r', E, h, q⟩ => ?_
  rw [ex] at h
  obtain ⟨w1, r1, h1, h2⟩ := R.bind_inv h
  obtain ⟨m0, xs0, g0, n0, h2'⟩ := mutL_inv h2
  obtain ⟨w2, r2, h3, h4⟩ := R.bind_inv h2'
  clear h2 h2'
  split at h4
  · rename_i d k
    obtain ⟨m, xs, g, nl, h5⟩ := mutL_inv h4
    split at h5
    · rename_i jj hj
      cases h5
      refine ⟨T, r, _, r1, E, h1, fun v1 H1 p1 => ?_⟩
      obtain ⟨a0, us0, hav, _⟩ := p1.at_slot g0
      refine ⟨.ref a0, hav, _, r1, _, r2, p1.env, h3, fun v2 H2 p2 => ?_⟩
      · have pp := p1.trans p2 fun _ _ => rfl
        obtain ⟨aa, us, f1, f2, f3, f4, f5⟩ := pp.at_slot g
        rw [hav] at f1
        cases f1
        have hv2 : v2 = .int k := by
          have := pp.at1
          cases (show Rep _ _ _ v2 (.int k) from this); rfl
        subst hv2
        have hd' : Rep X.K H2 _ v1 d := pp.at0
        refine ⟨a0, us, k, jj, rfl, rfl, f2, by rw [f4]; exact hj, q _ _ (pp.drop.mut g nl hav (Reps.anti (f3.set jj hd') fun b z => z.imp (fun z => z.imp id fun z => by cases z) id) ?_)⟩
        rw [List.length_set]; exact f5
    · cases h5
  · cases h4
end
end MP

set_option maxHeartbeats 1000000
/-! Loops, defs. -/
namespace MP
open PySem PySem.Spec PyProof.Rows L2
section
variable {X : Cx} {C : CallF} {e a b c o : Expr} {x y z ys : E} {s s1 s2 : S} {st : Stmt} {sts body : List Stmt} {p px py p2 p3 pos apos cpos : Pos} {es : List Expr} {i j l : Nat} {n m k : Str}
theorem ss_wh (hp : PassesOwn (model X.prog X.w) X.A X.env X.xe) (hc : ST X C c x) (hb : SSs X C body s) : SS X C (.While c body [] pos) (.wh x s) := by
  refine ps_imp (ps_while hp hc hb) fun D σ H ⟨T, r, f, r', E, h, q⟩ => ?_
  rw [ex] at h
  refine ⟨fun m σ' H' => ∃ rc, Po X.K H T σ r σ' rc [] [] H' ∧ whL (test C x) (ex C s) m rc = .ok f r', ⟨WN, r, .refl E, h⟩, fun m σ1 H1 ⟨rc, P, hw⟩ => ?_⟩
  cases m with
  | zero => cases hw
  | succ m =>
    rw [whL] at hw
    obtain ⟨t, r1, h1, h2⟩ := R.bind_inv hw
    refine ⟨T, rc, t, r1, P.env0, h1, fun H2 p2 => ?_⟩
    have P2 := P.next p2
    cases t with
    | true =>
      refine Eq.mpr (if_pos (c := (true = true)) rfl) ?_
      obtain ⟨g, r2, h3, h4⟩ := R.bind_inv h2
      refine ⟨fun σ' H' => ∃ rc, Po X.K H T σ r σ' rc [] [] H' ∧ whL (test C x) (ex C s) m rc = .ok f r', fun σ' H' w => ⟨m, Nat.lt_succ_self m, w⟩, T, r1, g, r2, P2.env0, h3, ?_⟩
      cases g with
      | next => exact fun σ' H' p3 => ⟨r2, P2.next p3, h4⟩
      | brk => cases h4; exact fun σ' H' p3 => q σ' H' (P2.next p3)
      | ret w => cases h4; exact fun v σ' H' p3 => q v σ' H' (P2.next p3)
    | false =>
      refine Eq.mpr (if_neg (c := (false = true)) Bool.false_ne_true) ?_
      cases h2
      exact q σ1 H2 P2
theorem unlock_inv' {α : Type} {r0 r' : Env} {ws : List W} {x : R α} {a : α} (h : x.unlock r0 ws = .ok a r') : ∃ r1, x = .ok a r1 ∧ r' = unlocks r0 r1 ws := unlock_inv h
theorem ss_for {tg iter : Expr} {t : Tg} {k : Ik} (hp : PassesOwn (model X.prog X.w) X.A X.env X.xe) (hc : X.calm = true) (hi : SI X C tg k iter ys) (hg : SG X tg t) (hb : SSs X C body s) (hs : ∀ x, foldedSetIterable iter X.env x = pure x) :
    SS X C (.For tg iter body [] pos) (.for_ t k ys s) := by
  refine ps_imp (ps_for hp hc hi hg hb hs) fun D σ H ⟨T, r, f, r', E, h, q⟩ => ?_
  rw [ex] at h
  obtain ⟨ws, r1, h1, h2⟩ := R.bind_inv h
  split at h2
  · rename_i its hv0
    obtain ⟨ds, hv, hz⟩ := Option.bind_eq_some_iff.mp hv0
    obtain ⟨r7, h3, rfl⟩ := unlock_inv h2
    clear h2
    refine ⟨T, r, ws, r1, ds, its, E, h1, hv, hz, fun vs H1 J P Wk => ?_⟩
    obtain ⟨El, Wl⟩ := P.locked
    have hvl : views (locks r1 ws) ws = some ds := (views_same (locks_same ws r1)).trans hv
    generalize hrl : locks r1 ws = rl at *
    refine ⟨fun i m σ' Hc => m = its.length - i ∧ i ≤ its.length ∧ ∃ rc, Po X.K H1 (Tw T ws vs) σ rl σ' rc [] [] Hc ∧ forL (fun d r2 => match asg t d r2 with
        | some r3 => ex C s r3
        | none => .no) (its.drop i) rc = .ok f r7, ⟨its.length, by simp, Nat.zero_le _, rl, .refl El, by rw [List.drop_zero]; exact h3⟩, ?_⟩
    rintro i m σ' Hc ⟨rfl, hil, rc, p, hw⟩
    have stay : VRs X.K Hc (fun b => Tw T ws vs b ∨ Acc σ' rc b) vs ds := by
      refine WRs.kept El p.frame (fun b z => ?_) Wl hvl fun i hi m xs e => by rw [← hrl] at e; exact locked_all i hi m xs e
      rcases z with z | z
      · exact .inl (.inl z)
      · exact (p.news b z).imp .inr id
    obtain ⟨go, stop, yld⟩ := Wk Hc _ stay
    by_cases hlt : i < its.length
    · refine .inr ⟨go i hlt, _, fun σ'' H' w => ⟨its.length - (i + 1), by omega, w⟩, fun xv H' hy => ?_⟩
      rw [List.drop_eq_getElem_cons hlt, forL] at hw
      obtain ⟨g, r3, k1, k2⟩ := R.bind_inv hw
      split at k1
      · rename_i r4 ha
        have o := yld i xv H' hy its[i] (List.getElem?_eq_getElem hlt)
        have s1 := Po.opOf p.env0 o
        refine ⟨Hc, _, _, rc, [], [], rc, its[i], r4, s1, rfl, ha, fun σ2 s2 _ _ => ⟨_, r4, g, r3, s2.env0, k1, ?_⟩⟩
        have P2 := p.next s2
        cases g with
        | next => exact fun σ3 H3 s3 => ⟨rfl, hlt, r3, P2.next s3, k2⟩
        | brk => cases k2; exact fun σ3 H3 s3 => q σ3 H3 (P.walk (by rw [hrl]; exact P2.next s3))
        | ret w => cases k2; exact fun v σ3 H3 s3 => q v σ3 H3 (P.walk (by rw [hrl]; exact P2.next s3))
      · cases k1
    · have hie : i = its.length := by omega
      subst hie
      rw [List.drop_length] at hw
      cases hw
      exact .inl ⟨stop, q _ _ (P.walk (by rw [hrl]; exact p))⟩
  · cases h2
end

/-! ### the end of a def -/
section
variable {K : PySem.W.Frag} {H H' H1 H2 : Hp} {T T' : Addr → Prop} {σ σ' σ1 σ2 : L2.St} {r r' r1 r2 : Env} {ws us : List W} {vs zs : List V} {w w' x y : W} {v : V} {i j : Nat} {d : D} {D : Ends} {f : Fl}
theorem gets_app1 : ∀ {ss us : Env} {i : Nat}, i < ss.length → gets (ss ++ us) i = gets ss i
  | [], _, _, h => absurd h (Nat.not_lt_zero _)
  | _ :: _, _, 0, _ => rfl
  | _ :: ss, us, i + 1, h => gets_app1 (ss := ss) (us := us) (i := i) (Nat.lt_of_succ_lt_succ h)
theorem gets_app2 : ∀ {ss : Env} {k i : Nat}, ss.length ≤ i → gets (ss ++ List.replicate k .no) i = .no
  | [], 0, _, _ => rfl
  | [], k + 1, 0, _ => rfl
  | [], k + 1, i + 1, _ => by
    have := gets_app2 (ss := []) (k := k) (i := i) (Nat.zero_le _)
    exact this
  | _ :: _, _, 0, h => absurd h (by simp)
  | _ :: ss, k, i + 1, h => gets_app2 (ss := ss) (k := k) (i := i) (Nat.le_of_succ_le_succ h)
theorem outsF_at {r : Env} : ∀ {ss : Env} {k i : Nat}, gets (outsF r k ss) i = match gets ss i with
    | .acc _ _ => gets r (k + i)
    | s => s
  | [], _, i => by cases i <;> rfl
  | .acc _ _ :: ss, k, 0 => rfl
  | .val _ :: ss, k, 0 => rfl
  | .no :: ss, k, 0 => rfl
  | .acc _ _ :: ss, k, i + 1 => by
    have := outsF_at (r := r) (ss := ss) (k := k + 1) (i := i)
    rw [show k + 1 + i = k + (i + 1) by omega] at this
    exact this
  | .val _ :: ss, k, i + 1 => by
    have := outsF_at (r := r) (ss := ss) (k := k + 1) (i := i)
    rw [show k + 1 + i = k + (i + 1) by omega] at this
    exact this
  | .no :: ss, k, i + 1 => by
    have := outsF_at (r := r) (ss := ss) (k := k + 1) (i := i)
    rw [show k + 1 + i = k + (i + 1) by omega] at this
    exact this
theorem outs_at {ss r : Env} {i : Nat} : gets (outs ss r) i = match gets ss i with
    | .acc _ _ => gets r i
    | s => s := by
  have := outsF_at (r := r) (ss := ss) (k := 0) (i := i)
  rw [Nat.zero_add] at this
  exact this
theorem outsF_len {r : Env} : ∀ {ss : Env} {k : Nat}, (outsF r k ss).length = ss.length
  | [], _ => rfl
  | .acc _ _ :: ss, k => congrArg (· + 1) (outsF_len (ss := ss) (k := k + 1))
  | .val _ :: ss, k => congrArg (· + 1) (outsF_len (ss := ss) (k := k + 1))
  | .no :: ss, k => congrArg (· + 1) (outsF_len (ss := ss) (k := k + 1))
theorem outs_len {ss r : Env} : (outs ss r).length = ss.length := outsF_len
/-- a result is handed out: of a name's own list the name lets go -/
theorem Po.out (p : Po K H T σ r σ1 r1 [w] [v] H1) (e : outW w r1 = .ok w' r2) (hf : ∀ i m xs, gets r i = .acc m xs → m = .fix) : Po K H T σ r σ1 r2 [w'] [v] H1 ∧ ∀ k, w' ≠ .slot k := by
  cases w with
  | val d => cases e; exact ⟨p, fun _ z => nomatch z⟩
  | own xs => cases e; exact ⟨p, fun _ z => nomatch z⟩
  | slot i =>
    unfold outW at e
    dsimp only at e
    cases g : gets r1 i with
    | no => rw [g] at e; cases e
    | val d =>
      rw [g] at e
      cases e
      exact ⟨p.take (w := .slot i) (d := d) (by unfold MP.take; dsimp only; rw [g]), fun _ z => nomatch z⟩
    | acc m xs =>
      rw [g] at e
      cases m with
      | fix => cases e
      | lck => cases e
      | free =>
        cases e
        refine ⟨?_, fun _ z => nomatch z⟩
        have hi : i < r1.length := gets_lt (by rw [g]; exact Sl.noConfusion)
        obtain ⟨a, us, e1, e2, e3, e4⟩ := p.env.acc i _ xs g
        have hTT : Tw T [.slot i] [v] = T := Tw_nil (T := T)
        rw [hTT] at e2 e4
        have E : ER K H1 T σ1 r1 := hTT ▸ p.env
        have hv : σ1[i]? = some (some v) := p.at0
        rw [e1] at hv
        cases hv
        have sub : ∀ b, Acc σ1 (sets r1 i .no) b → Acc σ1 r1 b := fun b z => by
          rcases acc_sets z with z | ⟨m, xs, z, _⟩
          · exact z
          · cases z
        have subM : ∀ b, Mu σ1 (sets r1 i .no) b → Mu σ1 r1 b := fun b z => by
          rcases mu_sets z with z | ⟨m, xs, z, _⟩
          · exact z
          · cases z
        have Aa : Acc σ1 r1 a := ⟨i, .free, xs, g, e1⟩
        have nA : ¬ Acc σ1 (sets r1 i .no) a := fun ⟨j, m, ys, z1, z2⟩ => by
          rw [gets_sets] at z1
          split at z1
          · cases z1
          · rename_i hj
            exact hj ⟨E.inj j i _ _ _ _ a z1 g z2 e1, hi⟩
        have hTo : Tw T [.own xs] [.ref a] = fun b => T b ∨ b = a := funext fun b => propext (by
          show (T b ∨ b ∈ [a]) ↔ _
          rw [List.mem_singleton])
        have hN : ∀ b, (Tw T [.own xs] [.ref a] b ∨ Acc σ1 (sets r1 i .no) b) → (T b ∨ Acc σ1 r1 b) := fun b z => by
          rw [hTo] at z
          rcases z with (z | z) | z
          · exact .inl z
          · rw [z]; exact .inr Aa
          · exact .inr (sub b z)
        have fresh : H a = none := by
          rcases p.news a Aa with ⟨j, m, ys, z1, z2⟩ | z
          · have hm := hf j m ys z1
            subst hm
            obtain ⟨⟨ys', k1, _⟩, k2⟩ := p.keep j _ ys z1 (fun z => nomatch z)
            have hji := E.inj j i _ _ _ _ a k1 g (k2.trans z2) e1
            subst hji
            rw [g] at k1
            cases k1
          · exact z
        refine ⟨p.t0, p.frame, p.pers, ⟨by rw [sets_length]; exact E.len, fun j d z => ?_, fun j m ys z => ?_, fun j l m m' xs' ys' b z1 z2 z3 z4 => ?_, fun b z => ?_⟩, .cons ⟨a, us, rfl, ?_, e3, e4.1.anti hN, e4.2⟩ .nil, fun b hb => ?_, ?_, fun b z => p.news b (sub b z), fun b z => p.mun b (subM b z), fun j m ys z nf => ?_⟩
        · rw [gets_sets] at z
          split at z
          · cases z
          · obtain ⟨u, k1, k2⟩ := E.val j d z
            exact ⟨u, k1, k2.anti hN⟩
        · rw [gets_sets] at z
          split at z
          · cases z
          · rename_i hj
            obtain ⟨b, us', k1, k2, k3, k4, k5⟩ := E.acc j m ys z
            refine ⟨b, us', k1, fun q => ?_, k3, k4.anti hN, k5⟩
            rw [hTo] at q
            rcases q with q | q
            · exact k2 q
            · subst q
              exact hj ⟨E.inj j i _ _ _ _ b z g k1 e1, hi⟩
        · rw [gets_sets] at z1 z2
          split at z1
          · cases z1
          · split at z2
            · cases z2
            · exact E.inj j l _ _ _ _ b z1 z2 z3 z4
        · rw [hTo] at z
          rcases z with z | z
          · exact E.tal b z
          · rw [z, e3]; exact fun q => nomatch q
        · rw [hTo]; exact .inr rfl
        · have hb' : b ∈ [a] := hb
          rw [List.mem_singleton] at hb'
          rw [hb']; exact fresh
        · show [a].Nodup
          simp
        · obtain ⟨⟨ys', k1, k3⟩, k2⟩ := p.keep j m ys z nf
          refine ⟨⟨ys', ?_, k3⟩, k2⟩
          rw [gets_sets, if_neg]
          · exact k1
          · rintro ⟨rfl, _⟩
            rw [g] at k1
            cases k1
            exact nf rfl
/-- what the caller keeps of a call -/
theorem Po.fin {ss r1 : Env} {vs : List V} {k : Nat} (E0 : ER K H T (vs.map some) ss) (hf : ∀ i m xs, gets ss i = .acc m xs → m = .fix)
    (p : Po K H T (vs.map some ++ List.replicate k none) (ss ++ List.replicate k .no) σ1 r1 [w] [v] H1) (hw : ∀ k, w ≠ .slot k) : Po K H T (vs.map some) ss (vs.map some) (outs ss r1) [w] [v] H1 := by
  have hl : vs.length = ss.length := by have := E0.len; rwa [List.length_map] at this
  have r0len : (vs.map some ++ List.replicate k none : L2.St).length = ss.length + k := by rw [List.length_append, List.length_map, List.length_replicate, hl]
  have slots0 : ∀ i, gets (ss ++ List.replicate k .no) i = gets ss i := fun i => by
    by_cases h : i < ss.length
    · exact gets_app1 h
    · rw [gets_app2 (by omega)]
      cases q : gets ss i with
      | no => rfl
      | val d => exact absurd (gets_lt (by rw [q]; exact Sl.noConfusion)) h
      | acc m xs => exact absurd (gets_lt (by rw [q]; exact Sl.noConfusion)) h
  have at0 : ∀ i, i < ss.length → (vs.map some ++ List.replicate k none : L2.St)[i]? = (vs.map some)[i]? := fun i h => List.getElem?_append_left (by rw [List.length_map, hl]; exact h)
  have acc0 : ∀ b, Acc (vs.map some) ss b ↔ Acc (vs.map some ++ List.replicate k none) (ss ++ List.replicate k .no) b := fun b => by
    constructor
    · rintro ⟨i, m, xs, z1, z2⟩
      exact ⟨i, m, xs, (slots0 i).trans z1, (at0 i (gets_lt (by rw [z1]; exact Sl.noConfusion))).trans z2⟩
    · rintro ⟨i, m, xs, z1, z2⟩
      rw [slots0] at z1
      exact ⟨i, m, xs, z1, (at0 i (gets_lt (by rw [z1]; exact Sl.noConfusion))).symm.trans z2⟩
  have mu0 : ∀ b, Mu (vs.map some ++ List.replicate k none) (ss ++ List.replicate k .no) b → Mu (vs.map some) ss b := fun b => by
    rintro ⟨i, m, xs, z1, nl, z2⟩
    rw [slots0] at z1
    exact ⟨i, m, xs, z1, nl, (at0 i (gets_lt (by rw [z1]; exact Sl.noConfusion))).symm.trans z2⟩
  have mu1 : ∀ b, Mu (vs.map some) ss b → Mu (vs.map some ++ List.replicate k none) (ss ++ List.replicate k .no) b := fun b => by
    rintro ⟨i, m, xs, z1, nl, z2⟩
    exact ⟨i, m, xs, (slots0 i).trans z1, nl, (at0 i (gets_lt (by rw [z1]; exact Sl.noConfusion))).trans z2⟩
  · have keep : ∀ i m xs, gets ss i = .acc m xs → m = .fix ∧ (∃ ys, gets r1 i = .acc .fix ys ∧ gets (outs ss r1) i = .acc .fix ys) ∧ σ1[i]? = (vs.map some)[i]? := fun i m xs z => by
      have hm := hf i m xs z
      subst hm
      obtain ⟨⟨ys, k1, _⟩, k2⟩ := p.keep i .fix xs ((slots0 i).trans z) (fun q => nomatch q)
      refine ⟨rfl, ⟨ys, k1, ?_⟩, k2.trans (at0 i (gets_lt (by rw [z]; exact Sl.noConfusion)))⟩
      rw [outs_at, z]
      exact k1
    have back : ∀ i m xs, gets (outs ss r1) i = .acc m xs → ∃ ys, gets ss i = .acc .fix ys ∧ m = .fix ∧ gets r1 i = .acc .fix xs ∧ σ1[i]? = (vs.map some)[i]? := fun i m xs z => by
      rw [outs_at] at z
      cases q : gets ss i with
      | no => rw [q] at z; cases z
      | val d => rw [q] at z; cases z
      | acc m' ys =>
        rw [q] at z
        replace z : gets r1 i = .acc m xs := z
        obtain ⟨rfl, ⟨ys', k1, _⟩, k2⟩ := keep i m' ys q
        rw [z] at k1
        cases k1
        exact ⟨ys, rfl, rfl, z, k2⟩
    have accO : ∀ b, Acc (vs.map some) (outs ss r1) b → Acc (vs.map some) ss b ∧ Acc σ1 r1 b := fun b ⟨i, m, xs, z1, z2⟩ => by
      obtain ⟨ys, q1, rfl, q2, q3⟩ := back i m xs z1
      exact ⟨⟨i, _, ys, q1, z2⟩, ⟨i, _, xs, q2, q3.trans z2⟩⟩
    have hown : ∀ b ∈ owns [w] [v], H b = none := p.fresh
    have st : Stab H H1 (Mu (vs.map some) ss) (fun b => T b ∨ Acc (vs.map some) ss b) (fun b => Tw T [w] [v] b ∨ Acc (vs.map some) (outs ss r1) b) := ⟨fun b o e n => p.frame b o e fun z => n (mu0 b z), E0.lists, fun b z => .inr z.acc, fun b z => by
      rcases z with (z | z) | z
      · exact .inl (.inl z)
      · exact .inr (hown b z)
      · exact .inl (.inr (accO b z).1)⟩
    have hN : ∀ b, (Tw T [w] [v] b ∨ Acc (vs.map some) (outs ss r1) b) → (Tw T [w] [v] b ∨ Acc σ1 r1 b) := fun b z => z.imp id fun z => (accO b z).2
    refine ⟨p.t0, fun b o e n => p.frame b o e fun z => n (mu0 b z), p.pers, ⟨by rw [List.length_map, outs_len, hl], fun i d z => ?_, fun i m xs z => ?_, fun i j m m' xs ys a z1 z2 z3 z4 => ?_, p.env.tal⟩, ?_, p.fresh, p.nd, fun a z => .inl (accO a z).1, fun a ⟨i, m, xs, z1, nl, z2⟩ => ?_, fun i m xs z nf => ?_⟩
    · rw [outs_at] at z
      cases q : gets ss i with
      | no => rw [q] at z; cases z
      | val d' =>
        rw [q] at z; cases z
        obtain ⟨u, k1, k2⟩ := E0.val i _ q
        exact ⟨u, k1, Rep.stab st k2⟩
      | acc m' ys =>
        rw [q] at z
        replace z : gets r1 i = .val d := z
        obtain ⟨_, ⟨ys', k1, _⟩, _⟩ := keep i m' ys q
        rw [z] at k1; cases k1
    · obtain ⟨ys, q1, rfl, q2, q3⟩ := back i m xs z
      obtain ⟨a, us, k1, k2, k3, k4, k5⟩ := p.env.acc i _ xs q2
      exact ⟨a, us, q3.symm.trans k1, k2, k3, k4.anti hN, k5⟩
    · obtain ⟨_, _, _, q2, q3⟩ := back i m xs z1
      obtain ⟨_, _, _, q4, q5⟩ := back j m' ys z2
      exact p.env.inj i j _ _ _ _ a q2 q4 (q3.trans z3) (q5.trans z4)
    · cases p.res with
      | cons g t =>
        cases t
        refine .cons ?_ .nil
        cases w with
        | val d => exact Rep.anti (show Rep K H1 _ v d from g) hN
        | own xs =>
          obtain ⟨a, us, q1, q2, q3, q4, q5⟩ := g
          exact ⟨a, us, q1, q2, q3, q4.anti hN, q5⟩
        | slot k => exact (hw k rfl).elim
    · obtain ⟨ys, q1, rfl, _, _⟩ := back i m xs z1
      exact .inl ⟨i, _, ys, q1, nl, z2⟩
    · obtain ⟨rfl, ⟨ys, _, k2⟩, _⟩ := keep i m xs z
      exact ⟨⟨ys, k2, fun q => nomatch q⟩, rfl⟩
end
end MP

set_option maxHeartbeats 1000000
/-! Is the given text that MP term? Expressions. -/
namespace MP
open PySem PySem.Spec PyProof.Rows L2

/-! ### small facts, by the form alone -/
def notStar : Expr → Bool
  | .Starred .. => false
  | _ => true
theorem ns_of {e : Expr} (h : notStar e = true) : NS e := fun es env => by
  cases e <;> first | rfl | cases h
def notSet : Expr → Bool
  | .Set .. => false
  | _ => true
theorem behind_of {e : Expr} (h : notSet e = true) (op : CmpOp) : behindInMarks op e = false := by
  cases e <;> first | rfl | cases h
theorem folded_of {e : Expr} (h : notSet e = true) (env : PySem.Env) (x : Value) : foldedSetIterable e env x = pure x := by
  cases e <;> first | rfl | cases h
def notSlice : Expr → Bool
  | .Slice .. => false
  | _ => true
theorem plain_ix {b : Expr} (h : notSlice b = true) : PlainIx b := fun o i => by
  cases b <;> first | rfl | cases h
/-- a test whose value is looked at (not and, or, not, a comparison, if) -/
def plainT : Expr → Bool
  | .UnaryOp .. => false
  | .BoolOp .. => false
  | .IfExp .. => false
  | .Compare .. => false
  | _ => true
theorem plain_t {e : Expr} (h : plainT e = true) (env : PySem.Env) (whole : Sem Value) : isTrue e env whole = (do let v ← whole; standAt e.pos; holding [v] (truthy v)) := by
  cases e <;> first | (cases h; done) | rfl

mutual
def litEq : D → D → Bool
  | .non, .non => true
  | .bl a, .bl b => a == b
  | .int a, .int b => decide (a = b)
  | .str a, .str b => decide (a = b)
  | .tup xs, .tup ys => litEqs xs ys
  | _, _ => false
def litEqs : List D → List D → Bool
  | [], [] => true
  | x :: xs, y :: ys => litEq x y && litEqs xs ys
  | _, _ => false
end
mutual
theorem lit_eq : ∀ {a b : D}, litEq a b = true → a = b
  | .non, b, h => by cases b <;> first | rfl | cases h
  | .bl a, b, h => by
    cases b <;> first | (cases h; done) | skip
    rw [litEq, beq_iff_eq] at h
    rw [h]
  | .int a, b, h => by
    cases b <;> first | (cases h; done) | skip
    rw [litEq, decide_eq_true_eq] at h
    rw [h]
  | .str a, b, h => by
    cases b <;> first | (cases h; done) | skip
    rw [litEq, decide_eq_true_eq] at h
    rw [h]
  | .tup xs, b, h => by
    cases b <;> first | (cases h; done) | skip
    rw [litEq] at h
    rw [lits_eq h]
  | .lst xs, b, h => by cases b <;> cases h
  | .scr xs, b, h => by cases b <;> cases h
  | .dct xs, b, h => by cases b <;> cases h
theorem lits_eq : ∀ {a b : List D}, litEqs a b = true → a = b
  | [], b, h => by cases b <;> first | rfl | cases h
  | x :: xs, b, h => by
    cases b <;> first | (cases h; done) | skip
    rw [litEqs, Bool.and_eq_true] at h
    rw [lit_eq h.1, lits_eq h.2]
end

/-! ### the context -/
structure Ctx where
  N : List Str
  sc : Scope
  /-- the block's own scope, where one stands in a comprehension -/
  own : Option Scope
  fns : List Str
  cns : List (Str × D)
  bls : List Str

def visB (sc : Scope) (n : Str) : Bool := match sc.names.lookup n with
  | some .local => true
  | some .cell => true
  | some .free => true
  | _ => false
theorem vis_of {sc : Scope} {n : Str} (h : visB sc n = true) : Vis sc n := by
  unfold visB at h
  split at h
  · exact .inl (by assumption)
  · exact .inr (.inl (by assumption))
  · exact .inr (.inr (by assumption))
  · cases h
def nmOk (ctx : Ctx) (i : Nat) (n : Str) : Bool := decide (ctx.N[i]? = some n) && visB ctx.sc n
def glB (ctx : Ctx) (n : Str) : Bool := match ctx.sc.names.lookup n with
  | some .globalImplicit => true
  | _ => false
/-- a name that may be stored -/
def stB (ctx : Ctx) (n : Str) : Bool := match ctx.sc.names.lookup n with
  | some .local => true
  | some .cell => (match ctx.own with
    | none => true
    | some s0 => s0.names.lookup n == some .cell)
  | _ => false
def blB (ctx : Ctx) (n : Str) : Bool := glB ctx n && ctx.bls.contains n

structure CtxOk (ctx : Ctx) (X : Cx) (C : CallF) : Prop where
  N : X.N = ctx.N
  nd : X.N.Nodup
  db : ∀ (i : Nat) (n : Str), ctx.N[i]? = some n → (n == ("__debug__" : Str)) = false ∧ (n == ("__classdict__" : Str)) = false
  sc : X.env.scope = ctx.sc
  own : match ctx.own with
    | none => ∀ x, X.fn x = true
    | some s0 => ∀ x, X.fn x = (s0.names.lookup x == some .cell)
  calm : X.calm = true
  hu : X.A.units + 200 < cLine
  fns : ∀ (f : Nat) (n : Str), ctx.fns[f]? = some n → ∃ m, Kn X C f n m
  cns : ∀ n d, (n, d) ∈ ctx.cns → ∃ v u, X.mg n = some u ∧ RelV v u ∧ (n == ("__debug__" : Str)) = false ∧ ∀ H N, Rep X.K H N v d
  bls : ∀ n ∈ ctx.bls, X.mg n = none
section
variable {ctx : Ctx} {X : Cx} {C : CallF} {n : Str} {i : Nat} {p : Pos}
theorem CtxOk.nm (O : CtxOk ctx X C) (h : nmOk ctx i n = true) : X.N[i]? = some n ∧ Vis X.env.scope n ∧ (n == ("__debug__" : Str)) = false ∧ (n == ("__classdict__" : Str)) = false := by
  unfold nmOk at h
  rw [Bool.and_eq_true, decide_eq_true_eq] at h
  exact ⟨by rw [O.N]; exact h.1, by rw [O.sc]; exact vis_of h.2, O.db i n h.1⟩
theorem CtxOk.gl (O : CtxOk ctx X C) (h : glB ctx n = true) : Gl X n := by
  unfold glB at h
  show X.env.scope.names.lookup n = some .globalImplicit
  rw [O.sc]
  split at h
  · assumption
  · cases h
theorem CtxOk.bl (O : CtxOk ctx X C) (h : blB ctx n = true) : Gl X n ∧ X.mg n = none := by
  unfold blB at h
  rw [Bool.and_eq_true, List.contains_eq_mem, decide_eq_true_eq] at h
  exact ⟨O.gl h.1, O.bls n h.2⟩
theorem CtxOk.st (O : CtxOk ctx X C) (h : stB ctx n = true) : Sto X n := by
  unfold stB at h
  unfold Sto L2.Loc
  rw [O.sc]
  split at h
  · rename_i q
    exact ⟨.inl q, .inr q⟩
  · rename_i q
    refine ⟨.inr q, .inl ?_⟩
    have o := O.own
    split at h
    · rename_i e; rw [e] at o; exact o n
    · rename_i e; rw [e] at o; rw [o n]; exact h
  · cases h
/-- in a comprehension -/
def Ctx.blk (ctx : Ctx) (scope : Scope) : Ctx := { ctx with sc := relS scope ctx.sc, own := some scope }
theorem CtxOk.blk (O : CtxOk ctx X C) (scope : Scope) (s : Shared) (H : Hp) (D : Addr) (cl : List (Str × Addr)) (fp : List Addr) : CtxOk (ctx.blk scope) (X.blk s H scope (compEnvC scope cl D X.env) fp) C := by
  refine ⟨O.N, O.nd, O.db, ?_, fun x => rfl, O.calm, O.hu, fun f n h => ?_, O.cns, O.bls⟩
  · show relabel scope X.env = relS scope ctx.sc
    rw [← O.sc]
    rfl
  · obtain ⟨m, k⟩ := O.fns f n h
    exact ⟨m, ⟨k.ex, k.len, k.db⟩⟩
end

/-! ### targets -/
mutual
def ckG (ctx : Ctx) : Tg → Expr → Bool
  | .nm i, e => match e with
    | .Name n _ => decide (ctx.N[i]? = some n) && stB ctx n
    | _ => false
  | .tp t, e => match e with
    | .Tuple es _ _ => ckGs ctx t es
    | _ => false
  | _, _ => false
def ckGs (ctx : Ctx) : Tg → List Expr → Bool
  | .nil, es => es.isEmpty
  | .cons t ts, es => match es with
    | e :: es => ckG ctx t e && ckGs ctx ts es && (tgS t).all (fun i => !((tgS ts).contains i))
    | [] => false
  | _, _ => false
end
/-- how many targets -/
def tgN : Tg → Nat
  | .cons _ ts => tgN ts + 1
  | _ => 0
theorem asgs_n : ∀ {ts : Tg} {ds : List D} {r r' : Env}, asgs ts ds r = some r' → ds.length = tgN ts
  | .nil, [], _, _, _ => rfl
  | .nil, _ :: _, _, _, h => by rw [asgs] at h <;> first | cases h | (intros; simp_all)
  | .cons t ts, [], _, _, h => by rw [asgs] at h <;> first | cases h | (intros; simp_all)
  | .cons t ts, d :: ds, r, r', h => by
    rw [asgs] at h
    split at h
    · exact congrArg (· + 1) (asgs_n h)
    · cases h
  | .nm _, _, _, _, h => by rw [asgs] at h <;> first | cases h | (intros; simp_all)
  | .tp _, _, _, _, h => by rw [asgs] at h <;> first | cases h | (intros; simp_all)
section
variable {ctx : Ctx} {X : Cx} {C : CallF}
/-- what the checker finds of targets -/
structure GsOk (X : Cx) (ts : Tg) (es : List Expr) : Prop where
  sg : SGs X es ts
  n : (assignEach es X.env).length = tgN ts
  st : (assignEach es X.env).findIdx? (·.1) = none
mutual
theorem ckG_ok (O : CtxOk ctx X C) : ∀ {t : Tg} {e : Expr}, ckG ctx t e = true → SG X e t ∧ ∀ es, (assignEach (e :: es) X.env) = (false, assign e X.env) :: assignEach es X.env
  | .nm i, e, h => by
    cases e <;> first | (simp [ckG] at h; done) | skip
    rename_i n p
    rw [ckG, Bool.and_eq_true, decide_eq_true_eq] at h
    exact ⟨sg_nm O.nd (by rw [O.N]; exact h.1) (O.st h.2), fun es => rfl⟩
  | .tp t, e, h => by
    cases e <;> first | (simp [ckG] at h; done) | skip
    rename_i es k p
    rw [ckG] at h
    have g := ckGs_ok O h
    exact ⟨sg_tp O.calm g.sg g.st fun ds r r' hh => (asgs_n hh).trans g.n.symm, fun es => rfl⟩
  | .nil, e, h => by rw [ckG] at h <;> first | cases h | (intros; simp_all)
  | .cons _ _, e, h => by rw [ckG] at h <;> first | cases h | (intros; simp_all)
theorem ckGs_ok (O : CtxOk ctx X C) : ∀ {t : Tg} {es : List Expr}, ckGs ctx t es = true → GsOk X t es
  | .nil, es, h => by
    cases es with
    | nil => exact ⟨sgs_nil, rfl, rfl⟩
    | cons e es => rw [ckGs] at h; cases h
  | .cons t ts, es, h => by
    cases es with
    | nil => rw [ckGs] at h; cases h
    | cons e es =>
      rw [ckGs, Bool.and_eq_true, Bool.and_eq_true] at h
      obtain ⟨⟨h1, h2⟩, h3⟩ := h
      obtain ⟨g1, g2⟩ := ckG_ok O h1
      have g := ckGs_ok O h2
      rw [List.all_eq_true] at h3
      refine ⟨sgs_cons g1 g.sg (by rw [g2]; rfl) fun i hi hj => ?_, ?_, ?_⟩
      · have := h3 i hi
        rw [Bool.not_eq_true', List.contains_eq_mem, decide_eq_false_iff_not] at this
        exact this hj
      · rw [g2, List.length_cons, g.n]; rfl
      · rw [g2, List.findIdx?_cons, g.st]
        rfl
  | .nm _, es, h => by rw [ckGs] at h <;> first | cases h | (intros; simp_all)
  | .tp _, es, h => by rw [ckGs] at h <;> first | cases h | (intros; simp_all)
end
end
end MP

set_option maxHeartbeats 4000000
/-! Is the given text that MP term? Expressions. -/
namespace MP
open PySem PySem.Spec PyProof.Rows L2

def opEq : Op → Operator → Bool
  | .add, .Add => true | .sub, .Sub => true | .mul, .Mult => true | .fdiv, .FloorDiv => true | .mod, .Mod => true | .pow, .Pow => true
  | .shl, .LShift => true | .shr, .RShift => true | .band, .BitAnd => true | .bor, .BitOr => true
  | _, _ => false
theorem op_eq {a : Op} {b : Operator} (h : opEq a b = true) : b = opS a := by cases a <;> cases b <;> first | rfl | cases h
def cmEq : Cm → CmpOp → Bool
  | .eq, .Eq => true | .ne, .NotEq => true | .lt, .Lt => true | .le, .LtE => true | .gt, .Gt => true | .ge, .GtE => true
  | .is_, .Is => true | .isnot, .IsNot => true | .mem, .In => true | .nomem, .NotIn => true
  | _, _ => false
theorem cm_eq {a : Cm} {b : CmpOp} (h : cmEq a b = true) : b = cmS a := by cases a <;> cases b <;> first | rfl | cases h
def ckC : D → Const → Bool
  | .int i, .int j => decide (i = j)
  | .bl a, .bool b => a == b
  | .non, .none => true
  | .str cs, .str s => decide (s.cps.toList = cs) && decide (cs.length ≤ LIM)
  | _, _ => false
theorem ckC_ok {X : Cx} {C : CallF} {d : D} {c : Const} {j : Nat} {p : Pos} (h : ckC d c = true) : SE X C (.Constant c j p) (.lit d) := by
  unfold ckC at h
  split at h
  · rw [decide_eq_true_eq] at h; subst h; exact se_int
  · rw [beq_iff_eq] at h; subst h; exact se_bl
  · exact se_non
  · rw [Bool.and_eq_true, decide_eq_true_eq, decide_eq_true_eq] at h
    exact se_str h.1 h.2
  · cases h
/-- how many -/
def eN : E → Nat
  | .cons _ es => eN es + 1
  | _ => 0
theorem evs_n {C : CallF} : ∀ {x : E} {r r' : Env} {ws : List W}, evs C x r = .ok ws r' → ws.length = eN x
  | .nil, _, _, _, h => by rw [evs] at h; cases h; rfl
  | .cons x xs, _, _, _, h => by
    rw [evs] at h
    obtain ⟨w, r1, h1, h2⟩ := R.bind_inv h
    obtain ⟨us, r2, h3, h4⟩ := R.bind_inv h2
    cases h4
    exact congrArg (· + 1) (evs_n h3)
  | .var _, _, _, _, h => by simp [evs] at h
  | .lit _, _, _, _, h => by simp [evs] at h
  | .tk _, _, _, _, h => by simp [evs] at h
  | .bin _ _ _, _, _, _, h => by simp [evs] at h
  | .neg _, _, _, _, h => by simp [evs] at h
  | .not _, _, _, _, h => by simp [evs] at h
  | .and _ _, _, _, _, h => by simp [evs] at h
  | .or _ _, _, _, _, h => by simp [evs] at h
  | .cmp _ _ _, _, _, _, h => by simp [evs] at h
  | .chain _ _ _ _ _, _, _, _, h => by simp [evs] at h
  | .ite _ _ _, _, _, _, h => by simp [evs] at h
  | .tup _, _, _, _, h => by simp [evs] at h
  | .list _, _, _, _, h => by simp [evs] at h
  | .sub _ _, _, _, _, h => by simp [evs] at h
  | .cut _ _ _, _, _, _, h => by simp [evs] at h
  | .bi _ _, _, _, _, h => by simp [evs] at h
  | .meth _ _ _, _, _, _, h => by simp [evs] at h
  | .isi _ _, _, _, _, h => by simp [evs] at h
  | .call _ _, _, _, _, h => by simp [evs] at h
  | .app _ _, _, _, _, h => by simp [evs] at h
  | .ext _ _, _, _, _, h => by simp [evs] at h
  | .pop _, _, _, _, h => by simp [evs] at h
  | .popAt _ _, _, _, _, h => by simp [evs] at h
  | .lc _ _ _ _ _ _, _, _, _, h => by simp [evs] at h
def isNil : E → Bool
  | .nil => true
  | _ => false
def isTup : Expr → Bool
  | .Tuple .. => true
  | _ => false
theorem not_nil {x : E} (h : isNil x = false) : x ≠ .nil := fun e => by subst e; cases h
/-- the tail of and, or -/
def tailB (op : PySem.BoolOp) (y : Expr) (rest : List Expr) (p : Pos) : Expr := match rest with
  | [] => y
  | r :: rs => .BoolOp op (y :: r :: rs) p
/-- the test lies open -/
def tOk : E → Expr → Bool
  | .not a, e => match e with
    | .UnaryOp .Not x _ => tOk a x
    | _ => false
  | .and a b, e => match e with
    | .BoolOp .And (x :: y :: rest) p => tOk a x && tOk b (tailB .And y rest p)
    | _ => false
  | .or a b, e => match e with
    | .BoolOp .Or (x :: y :: rest) p => tOk a x && tOk b (tailB .Or y rest p)
    | _ => false
  | .cmp _ _ _, _ => true
  | .chain _ _ _ _ _, _ => true
  | _, e => plainT e
def ownL (N : List Str) (own : List Nat) : List (Str × Nat) := own.map fun i => ((N[i]?).getD ⟨#[]⟩, i)
theorem ownL_map {N : List Str} {own : List Nat} : (ownL N own).map (·.2) = own := by
  unfold ownL
  rw [List.map_map]
  show own.map (fun i => i) = own
  simp

mutual
def ckE : E → Ctx → Expr → Bool
  | .var i, ctx, e => match e with
    | .Name n _ => nmOk ctx i n
    | _ => false
  | .lit d, ctx, e => match e with
    | .Constant c _ _ => ckC d c
    | .Name n _ => glB ctx n && ctx.cns.any fun q => decide (q.1 = n) && litEq q.2 d
    | _ => false
  | .tk x, ctx, e => ckE x ctx e
  | .bin op a b, ctx, e => match e with
    | .BinOp l o r _ => opEq op o && ckE a ctx l && ckE b ctx r
    | _ => false
  | .neg a, ctx, e => match e with
    | .UnaryOp .USub x _ => ckE a ctx x
    | _ => false
  | .not a, ctx, e => match e with
    | .UnaryOp .Not x _ => ckE a ctx x
    | _ => false
  | .and a b, ctx, e => match e with
    | .BoolOp .And (x :: y :: rest) p => ckE a ctx x && ckE b ctx (tailB .And y rest p)
    | _ => false
  | .or a b, ctx, e => match e with
    | .BoolOp .Or (x :: y :: rest) p => ckE a ctx x && ckE b ctx (tailB .Or y rest p)
    | _ => false
  | .cmp op a b, ctx, e => match e with
    | .Compare l [o] [r] _ => cmEq op o && ckE a ctx l && ckE b ctx r && notSet r
    | _ => false
  | .chain o1 o2 a b c, ctx, e => match e with
    | .Compare l [p1, p2] [x, y] _ => cmEq o1 p1 && cmEq o2 p2 && ckE a ctx l && ckE b ctx x && ckE c ctx y && notSet y
    | _ => false
  | .ite c a b, ctx, e => match e with
    | .IfExp t x y _ => ckE c ctx t && tOk c t && ckE a ctx x && ckE b ctx y
    | _ => false
  | .tup es, ctx, e => match e with
    | .Tuple xs _ _ => ckL es ctx xs && decide (eN es ≤ 1000)
    | _ => false
  | .list es, ctx, e => match e with
    | .List xs _ => ckL es ctx xs && decide (eN es ≤ 1000)
    | _ => false
  | .sub a i, ctx, e => match e with
    | .Subscript x y _ => ckE a ctx x && ckE i ctx y && notSlice y
    | _ => false
  | .cut a lo hi, ctx, e => match e with
    | .Subscript x (.Slice l h none _) _ => ckE a ctx x && (match l with
        | none => isNil lo
        | some l => !isNil lo && ckE lo ctx l) && (match h with
        | none => isNil hi
        | some h => !isNil hi && ckE hi ctx h)
    | _ => false
  | .bi b ys, ctx, e => match e with
    | .Call (.Name n _) es [] _ => match b with
      | .lenset => decide (n = "len") && blB ctx n && (match es with
        | [.Call (.Name m _) [a] [] _] => decide (m = "set") && blB ctx m && ckL ys ctx [a]
        | _ => false)
      | .listrange => decide (n = "list") && blB ctx n && (match es with
        | [.Call (.Name m _) [a] [] _] => decide (m = "range") && blB ctx m && ckL ys ctx [a]
        | _ => false)
      | _ => biD b && decide (n = biN b) && blB ctx n && !es.isEmpty && ckL ys ctx es
    | _ => false
  | .isi x t, ctx, e => match e with
    | .Call (.Name n _) [a, .Name tn _] [] _ => decide (n = "isinstance") && blB ctx n && decide (tn = tyS t) && blB ctx tn && ckE x ctx a && notStar a
    | _ => false
  | .call f ys, ctx, e => match e with
    | .Call (.Name n _) es [] _ => decide (ctx.fns[f]? = some n) && glB ctx n && ckL ys ctx es
    | _ => false
  | .app i x, ctx, e => match e with
    | .Call (.Attribute (.Name n _) m apos) [a] [] cpos => decide (m = "append") && nmOk ctx i n && (apos.endLine == cpos.line) && ckE x ctx a && notStar a
    | _ => false
  | .ext i x, ctx, e => match e with
    | .Call (.Attribute (.Name n _) m apos) [a] [] cpos => decide (m = "extend") && nmOk ctx i n && (apos.endLine == cpos.line) && ckE x ctx a && notStar a
    | _ => false
  | .pop i, ctx, e => match e with
    | .Call (.Attribute (.Name n _) m apos) [] [] cpos => decide (m = "pop") && nmOk ctx i n && (apos.endLine == cpos.line)
    | _ => false
  | .popAt i x, ctx, e => match e with
    | .Call (.Attribute (.Name n _) m apos) [a] [] cpos => decide (m = "pop") && nmOk ctx i n && (apos.endLine == cpos.line) && ckE x ctx a && notStar a
    | _ => false
  | .lc t k es c x own, ctx, e => match e with
    | .ListComp elt [⟨tg, iter, ifs, a⟩] scope _ => decide (a = 0) && (match k with
        | .seq => ckL es ctx [iter]
        | .rng1 => (match iter with
          | .Call (.Name n _) [a] [] _ => decide (n = "range") && blB ctx n && ckL es ctx [a]
          | _ => false)
        | .rng2 => (match iter with
          | .Call (.Name n _) [a, b] [] _ => decide (n = "range") && blB ctx n && ckL es ctx [a, b]
          | _ => false)
        | .enum => (match iter with
          | .Call (.Name n _) [a] [] _ => decide (n = "enumerate") && blB ctx n && isTup tg && ckL es ctx [a]
          | _ => false)
        | .zip => (match iter with
          | .Call (.Name n _) [a, b] [] _ => decide (n = "zip") && blB ctx n && isTup tg && ckL es ctx [a, b]
          | _ => false)) && notSet iter && ckG (ctx.blk scope) t tg && (match ifs with
        | [] => litEq (match c with | .lit d => d | _ => .non) (.bl true)
        | [f] => ckE c (ctx.blk scope) f && tOk c f
        | _ => false) && ckE x (ctx.blk scope) elt && blkC ctx.N ctx.sc scope (ownL ctx.N own) && (tgS t).all (fun i => own.contains i)
    | _ => false
  | .meth _ _ _, _, _ => false
  | .nil, _, _ => false
  | .cons _ _, _, _ => false
def ckL : E → Ctx → List Expr → Bool
  | .nil, _, es => es.isEmpty
  | .cons x xs, ctx, es => match es with
    | e :: es => ckE x ctx e && notStar e && ckL xs ctx es
    | [] => false
  | _, _, _ => false
end
end MP

set_option maxHeartbeats 4000000
/-! The checker of expressions is right. -/
namespace MP
open PySem PySem.Spec PyProof.Rows L2

def Good (X : Cx) (C : CallF) (e : Expr) (x : E) : Prop := SE X C e x ∧ (tOk x e = true → ST X C e x)
def GL (X : Cx) (C : CallF) : E → List Expr → Prop
  | .nil, [] => True
  | .cons x xs, e :: es => Good X C e x ∧ NS e ∧ GL X C xs es
  | _, _ => False
section
variable {X : Cx} {C : CallF} {ctx : Ctx}
theorem GL.sa : ∀ {x : E} {es : List Expr}, GL X C x es → SA X C es x ∧ ∀ e ∈ es, NS e
  | .nil, [], _ => ⟨sa_nil, fun e h => by cases h⟩
  | .cons x xs, e :: es, h => by
    obtain ⟨g, n, t⟩ := h
    obtain ⟨a, b⟩ := GL.sa t
    exact ⟨sa_cons g.1 n a, fun e' he => by
      rcases List.mem_cons.mp he with z | z
      · rw [z]; exact n
      · exact b e' z⟩
theorem Good.val {e : Expr} {x : E} (h : SE X C e x) (ht : tOk x e = true → plainT e = true) : Good X C e x := ⟨h, fun z => st_val h (plain_t (ht z) _)⟩
theorem tail_se {op : PySem.BoolOp} {y : Expr} {rest : List Expr} {p : Pos} {b : E} (h : SE X C (tailB op y rest p) b) : SE X C (.BoolOp op (y :: rest) p) b := by
  cases rest with
  | nil => exact se_one h
  | cons r rs => exact h
/-- what the checker finds of a comprehension -/
structure LcOk (X : Cx) (C : CallF) (t : Tg) (k : Ik) (ys c x : E) (ow : List Nat) (elt tg iter : Expr) (ifs : List Expr) (scope : Scope) : Prop where
  hi : SI X C tg k iter ys
  ok : BlkOk X.N X.env.scope scope (ownL X.N ow)
  hg : ∀ (s : Shared) (H : Hp) (D : Addr) (cl : List (Str × Addr)) (fp : List Addr), SG (X.blk s H scope (compEnvC scope cl D X.env) fp) tg t
  ht : ∀ (s : Shared) (H : Hp) (D : Addr) (cl : List (Str × Addr)) (fp : List Addr), STs (X.blk s H scope (compEnvC scope cl D X.env) fp) C ifs c
  he : ∀ (s : Shared) (H : Hp) (D : Addr) (cl : List (Str × Addr)) (fp : List Addr), SE (X.blk s H scope (compEnvC scope cl D X.env) fp) C elt x
  hs : ∀ x, foldedSetIterable iter X.env x = pure x
  hown : ∀ i ∈ tgS t, i ∈ (ownL X.N ow).map (·.2)
theorem LcOk.se (O : CtxOk ctx X C) {t : Tg} {k : Ik} {ys c x : E} {ow : List Nat} {elt tg iter : Expr} {ifs : List Expr} {scope : Scope} {pos : Pos} (L : LcOk X C t k ys c x ow elt tg iter ifs scope) : SE X C (.ListComp elt [⟨tg, iter, ifs, 0⟩] scope pos) (.lc t k ys c x ow) := by
  have h := se_lc (pos := pos) O.calm O.nd L.hi L.ok L.hg L.ht L.he L.hs L.hown
  rwa [ownL_map] at h
/-- the walked thing -/
theorem it_ok (O : CtxOk ctx X C) {k : Ik} {es : E} {iter tg : Expr} (hL : ∀ {xs : List Expr}, ckL es ctx xs = true → GL X C es xs) (h : (match k with
        | .seq => ckL es ctx [iter]
        | .rng1 => (match iter with
          | .Call (.Name n _) [a] [] _ => decide (n = "range") && blB ctx n && ckL es ctx [a]
          | _ => false)
        | .rng2 => (match iter with
          | .Call (.Name n _) [a, b] [] _ => decide (n = "range") && blB ctx n && ckL es ctx [a, b]
          | _ => false)
        | .enum => (match iter with
          | .Call (.Name n _) [a] [] _ => decide (n = "enumerate") && blB ctx n && isTup tg && ckL es ctx [a]
          | _ => false)
        | .zip => (match iter with
          | .Call (.Name n _) [a, b] [] _ => decide (n = "zip") && blB ctx n && isTup tg && ckL es ctx [a, b]
          | _ => false)) = true) : SI X C tg k iter es := by
  cases k with
  | seq =>
    have g := hL h
    cases es <;> first | (cases g; done) | skip
    rename_i y ys
    obtain ⟨g1, g2, g3⟩ := g
    cases ys <;> first | (cases g3; done) | skip
    exact si_seq g1.1
  | rng1 =>
    dsimp only at h
    split at h
    · rw [Bool.and_eq_true, Bool.and_eq_true, decide_eq_true_eq] at h
      obtain ⟨⟨rfl, h2⟩, h3⟩ := h
      obtain ⟨g1, g2⟩ := O.bl h2
      obtain ⟨g3, g4⟩ := (hL h3).sa
      exact si_rng1 g1 g2 g3 (g4 _ (by simp))
    · cases h
  | rng2 =>
    dsimp only at h
    split at h
    · rw [Bool.and_eq_true, Bool.and_eq_true, decide_eq_true_eq] at h
      obtain ⟨⟨rfl, h2⟩, h3⟩ := h
      obtain ⟨g1, g2⟩ := O.bl h2
      obtain ⟨g3, g4⟩ := (hL h3).sa
      exact si_rng2 g1 g2 g3 (g4 _ (by simp)) (g4 _ (by simp))
    · cases h
  | enum =>
    dsimp only at h
    split at h
    · rw [Bool.and_eq_true, Bool.and_eq_true, Bool.and_eq_true, decide_eq_true_eq] at h
      obtain ⟨⟨⟨rfl, h2⟩, h4⟩, h3⟩ := h
      obtain ⟨g1, g2⟩ := O.bl h2
      obtain ⟨g3, g4⟩ := (hL h3).sa
      cases tg <;> first | (cases h4; done) | skip
      exact si_enum g1 g2 g3 (g4 _ (by simp))
    · cases h
  | zip =>
    dsimp only at h
    split at h
    · rw [Bool.and_eq_true, Bool.and_eq_true, Bool.and_eq_true, decide_eq_true_eq] at h
      obtain ⟨⟨⟨rfl, h2⟩, h4⟩, h3⟩ := h
      obtain ⟨g1, g2⟩ := O.bl h2
      obtain ⟨g3, g4⟩ := (hL h3).sa
      cases tg <;> first | (cases h4; done) | skip
      exact si_zip g1 g2 g3 (g4 _ (by simp)) (g4 _ (by simp))
    · cases h
theorem lc_litT {c : E} (h : litEq (match c with | .lit d => d | _ => .non) (.bl true) = true) : c = .lit (.bl true) := by
  have := lit_eq h
  cases c <;> first | (cases this; done) | skip
  dsimp only at this
  rw [this]
theorem sw_of {op : PySem.BoolOp} {es : List Expr} {p : Pos} {b : E} (h : ST X C (.BoolOp op es p) b) : SW X C (.BoolOp op es p) b := ⟨fun wh pins s σ H Q I hw => h.run pins s σ H Q I hw⟩
theorem sw_tailA {y : Expr} {rest : List Expr} {p : Pos} {b : E} (h : ST X C (tailB .And y rest p) b) : SW X C (.BoolOp .And (y :: rest) p) b := by
  cases rest with
  | nil => exact sw_and1 h
  | cons r rs => exact sw_of h
theorem sw_tailO {y : Expr} {rest : List Expr} {p : Pos} {b : E} (h : ST X C (tailB .Or y rest p) b) : SW X C (.BoolOp .Or (y :: rest) p) b := by
  cases rest with
  | nil => exact sw_or1 h
  | cons r rs => exact sw_of h
theorem lc_parts (O : CtxOk ctx X C) {t : Tg} {k : Ik} {es c x : E} {own : List Nat} {e : Expr} (hL : ∀ {xs : List Expr}, ckL es ctx xs = true → GL X C es xs)
    (hc : ∀ {ctx : Ctx} {X : Cx} (O : CtxOk ctx X C) {e : Expr}, ckE c ctx e = true → Good X C e c) (hx : ∀ {ctx : Ctx} {X : Cx} (O : CtxOk ctx X C) {e : Expr}, ckE x ctx e = true → Good X C e x)
    (h : ckE (.lc t k es c x own) ctx e = true) : ∃ elt tg iter ifs scope pos, e = .ListComp elt [⟨tg, iter, ifs, 0⟩] scope pos ∧ LcOk X C t k es c x own elt tg iter ifs scope := by
  unfold ckE at h
  split at h
  · rename_i elt tg iter ifs a scope pos
    rw [Bool.and_eq_true, Bool.and_eq_true, Bool.and_eq_true, Bool.and_eq_true, Bool.and_eq_true, Bool.and_eq_true, Bool.and_eq_true, decide_eq_true_eq] at h
    obtain ⟨⟨⟨⟨⟨⟨⟨rfl, h2⟩, h3⟩, h4⟩, h5⟩, h6⟩, h7⟩, h8⟩ := h
    refine ⟨elt, tg, iter, ifs, scope, pos, rfl, it_ok O hL h2, ?_, fun s H D cl fp => (ckG_ok (O.blk scope s H D cl fp) h4).1, fun s H D cl fp => ?_, fun s H D cl fp => (hx (O.blk scope s H D cl fp) h6).1, folded_of h3 _, fun i hi => ?_⟩
    · rw [O.N, O.sc]
      exact blkOk_by h7
    · have Ob := O.blk scope s H D cl fp
      split at h5
      · rw [lc_litT h5]
        exact sts_nil
      · rw [Bool.and_eq_true] at h5
        exact sts_one ((hc Ob h5.1).2 h5.2)
      · cases h5
    · rw [ownL_map]
      rw [List.all_eq_true] at h8
      have := h8 i hi
      rwa [List.contains_eq_mem, decide_eq_true_eq] at this
  · cases h
mutual
theorem ckE_ok : ∀ (x : E) {ctx : Ctx} {X : Cx} (O : CtxOk ctx X C) {e : Expr}, ckE x ctx e = true → Good X C e x
  | .var i, ctx, X, O, e, h => by
    unfold ckE at h
    split at h
    · obtain ⟨g1, g2, g3, g4⟩ := O.nm h
      exact .val (se_var g1 g2 g3 g4) fun _ => rfl
    · cases h
  | .lit d, ctx, X, O, e, h => by
    unfold ckE at h
    split at h
    · exact .val (ckC_ok h) fun _ => rfl
    · rw [Bool.and_eq_true, List.any_eq_true] at h
      obtain ⟨h1, q, h2, h3⟩ := h
      rw [Bool.and_eq_true, decide_eq_true_eq] at h3
      obtain ⟨h3, h4⟩ := h3
      have h4 := lit_eq h4
      obtain ⟨n', d'⟩ := q
      subst h3 h4
      obtain ⟨v, u, g1, g2, g3, g4⟩ := O.cns _ _ h2
      exact .val (se_const (pe_glob (O.gl h1) g1 g2 g3) g4) fun _ => rfl
    · cases h
  | .tk x, ctx, X, O, e, h => by
    unfold ckE at h
    exact .val (se_tk (ckE_ok x O h).1) fun z => z
  | .bin op a b, ctx, X, O, e, h => by
    unfold ckE at h
    split at h
    · rw [Bool.and_eq_true, Bool.and_eq_true] at h
      obtain ⟨⟨h1, h2⟩, h3⟩ := h
      have := op_eq h1
      subst this
      exact .val (se_bin (ckE_ok a O h2).1 (ckE_ok b O h3).1) fun _ => rfl
    · cases h
  | .neg a, ctx, X, O, e, h => by
    unfold ckE at h
    split at h
    · exact .val (se_neg (ckE_ok a O h).1) fun z => z
    · cases h
  | .not a, ctx, X, O, e, h => by
    unfold ckE at h
    split at h
    · have g := ckE_ok a O h
      exact ⟨se_not g.1, fun z => st_not (g.2 z)⟩
    · cases h
  | .and a b, ctx, X, O, e, h => by
    unfold ckE at h
    split at h
    · rename_i x y rest p
      rw [Bool.and_eq_true] at h
      have g1 := ckE_ok a O h.1
      have g2 := ckE_ok b O h.2
      refine ⟨se_and g1.1 (tail_se g2.1), fun z => ?_⟩
      replace z : (tOk a x && tOk b (tailB .And y rest p)) = true := z
      rw [Bool.and_eq_true] at z
      exact (sw_and (g1.2 z.1) (sw_tailA (g2.2 z.2))).pt
    · cases h
  | .or a b, ctx, X, O, e, h => by
    unfold ckE at h
    split at h
    · rename_i x y rest p
      rw [Bool.and_eq_true] at h
      have g1 := ckE_ok a O h.1
      have g2 := ckE_ok b O h.2
      refine ⟨se_or g1.1 (tail_se g2.1), fun z => ?_⟩
      replace z : (tOk a x && tOk b (tailB .Or y rest p)) = true := z
      rw [Bool.and_eq_true] at z
      exact (sw_or (g1.2 z.1) (sw_tailO (g2.2 z.2))).pt
    · cases h
  | .cmp op a b, ctx, X, O, e, h => by
    unfold ckE at h
    split at h
    · rw [Bool.and_eq_true, Bool.and_eq_true, Bool.and_eq_true] at h
      obtain ⟨⟨⟨h1, h2⟩, h3⟩, h4⟩ := h
      have := cm_eq h1
      subst this
      have g1 := (ckE_ok a O h2).1
      have g2 := (ckE_ok b O h3).1
      exact ⟨se_cmp O.hu g1 g2 (behind_of h4 _), fun _ => st_cmp O.hu g1 g2 (behind_of h4 _)⟩
    · cases h
  | .chain o1 o2 a b c, ctx, X, O, e, h => by
    unfold ckE at h
    split at h
    · rw [Bool.and_eq_true, Bool.and_eq_true, Bool.and_eq_true, Bool.and_eq_true, Bool.and_eq_true] at h
      obtain ⟨⟨⟨⟨⟨h1, h2⟩, h3⟩, h4⟩, h5⟩, h6⟩ := h
      have e1 := cm_eq h1
      have e2 := cm_eq h2
      subst e1 e2
      have g1 := (ckE_ok a O h3).1
      have g2 := (ckE_ok b O h4).1
      have g3 := (ckE_ok c O h5).1
      exact ⟨se_chain O.hu g1 g2 g3 (behind_of h6 _), fun _ => st_chain O.hu g1 g2 g3 (behind_of h6 _)⟩
    · cases h
  | .ite c a b, ctx, X, O, e, h => by
    unfold ckE at h
    split at h
    · rw [Bool.and_eq_true, Bool.and_eq_true, Bool.and_eq_true] at h
      obtain ⟨⟨⟨h1, h2⟩, h3⟩, h4⟩ := h
      exact .val (se_ite ((ckE_ok c O h1).2 h2) (ckE_ok a O h3).1 (ckE_ok b O h4).1) fun z => z
    · cases h
  | .tup es, ctx, X, O, e, h => by
    unfold ckE at h
    split at h
    · rw [Bool.and_eq_true, decide_eq_true_eq] at h
      exact .val (se_tup (ckL_ok es O h.1).sa.1 fun ws r r' z => by rw [evs_n z]; exact h.2) fun _ => rfl
    · cases h
  | .list es, ctx, X, O, e, h => by
    unfold ckE at h
    split at h
    · rw [Bool.and_eq_true, decide_eq_true_eq] at h
      exact .val (se_list (ckL_ok es O h.1).sa.1 fun ws r r' z => by rw [evs_n z]; exact h.2) fun _ => rfl
    · cases h
  | .sub a i, ctx, X, O, e, h => by
    unfold ckE at h
    split at h
    · rw [Bool.and_eq_true, Bool.and_eq_true] at h
      obtain ⟨⟨h1, h2⟩, h3⟩ := h
      exact .val (se_sub (ckE_ok a O h1).1 (ckE_ok i O h2).1 (plain_ix h3)) fun _ => rfl
    · cases h
  | .cut a lo hi, ctx, X, O, e, h => by
    unfold ckE at h
    split at h
    · rename_i x l hh p1 p2
      rw [Bool.and_eq_true, Bool.and_eq_true] at h
      obtain ⟨⟨h1, h2⟩, h3⟩ := h
      have part : ∀ (y : E) (o : Option Expr), (∀ {e : Expr}, ckE y ctx e = true → Good X C e y) → (match o with
        | none => isNil y
        | some l => !isNil y && ckE y ctx l) = true → SO X C o y := fun y o g hy => by
        cases o with
        | none =>
          dsimp only at hy
          cases y <;> first | (cases hy; done) | skip
          exact so_none
        | some l =>
          dsimp only at hy
          rw [Bool.and_eq_true, Bool.not_eq_true'] at hy
          exact so_some (g hy.2).1 (not_nil hy.1)
      exact .val (se_cut (ckE_ok a O h1).1 (part lo l (fun z => ckE_ok lo O z) h2) (part hi hh (fun z => ckE_ok hi O z) h3)) fun _ => rfl
    · cases h
  | .bi b ys, ctx, X, O, e, h => by
    unfold ckE at h
    split at h
    · rename_i n p es pos
      have gen : (biD b && decide (n = biN b) && blB ctx n && !es.isEmpty && ckL ys ctx es) = true → Good X C (.Call (.Name n p) es [] pos) (.bi b ys) := fun h => by
        rw [Bool.and_eq_true, Bool.and_eq_true, Bool.and_eq_true, Bool.and_eq_true, decide_eq_true_eq] at h
        obtain ⟨⟨⟨⟨h1, rfl⟩, h3⟩, h4⟩, h5⟩ := h
        obtain ⟨g1, g2⟩ := O.bl h3
        obtain ⟨g3, g4⟩ := (ckL_ok ys O h5).sa
        cases es with
        | nil => cases h4
        | cons e es => exact .val (se_bi h1 O.calm g1 g2 g3 (g4 e (by simp)) fun e' he => g4 e' (by simp [he])) fun _ => rfl
      split at h
      · rw [Bool.and_eq_true, Bool.and_eq_true, decide_eq_true_eq] at h
        obtain ⟨⟨rfl, h2⟩, h3⟩ := h
        split at h3
        · rw [Bool.and_eq_true, Bool.and_eq_true, decide_eq_true_eq] at h3
          obtain ⟨⟨rfl, h4⟩, h5⟩ := h3
          obtain ⟨g1, g2⟩ := O.bl h2
          obtain ⟨g3, g4⟩ := O.bl h4
          have g := ckL_ok ys O h5
          cases ys <;> first | (cases g; done) | skip
          rename_i y ys
          obtain ⟨k1, k2, k3⟩ := g
          cases ys <;> first | (cases k3; done) | skip
          exact .val (se_lenset O.calm g1 g2 g3 g4 k1.1 k2) fun _ => rfl
        · cases h3
      · rw [Bool.and_eq_true, Bool.and_eq_true, decide_eq_true_eq] at h
        obtain ⟨⟨rfl, h2⟩, h3⟩ := h
        split at h3
        · rw [Bool.and_eq_true, Bool.and_eq_true, decide_eq_true_eq] at h3
          obtain ⟨⟨rfl, h4⟩, h5⟩ := h3
          obtain ⟨g1, g2⟩ := O.bl h2
          obtain ⟨g3, g4⟩ := O.bl h4
          have g := ckL_ok ys O h5
          cases ys <;> first | (cases g; done) | skip
          rename_i y ys
          obtain ⟨k1, k2, k3⟩ := g
          cases ys <;> first | (cases k3; done) | skip
          exact .val (se_listrange O.calm g1 g2 g3 g4 k1.1 k2) fun _ => rfl
        · cases h3
      · exact gen h
    · cases h
  | .isi x t, ctx, X, O, e, h => by
    unfold ckE at h
    split at h
    · rw [Bool.and_eq_true, Bool.and_eq_true, Bool.and_eq_true, Bool.and_eq_true, Bool.and_eq_true, decide_eq_true_eq, decide_eq_true_eq] at h
      obtain ⟨⟨⟨⟨⟨rfl, h2⟩, h3⟩, h4⟩, h5⟩, h6⟩ := h
      obtain ⟨g1, g2⟩ := O.bl h2
      obtain ⟨g3, g4⟩ := O.bl h4
      exact .val (se_isi h3 g1 g2 g3 g4 (ckE_ok x O h5).1 (ns_of h6)) fun _ => rfl
    · cases h
  | .call f ys, ctx, X, O, e, h => by
    unfold ckE at h
    split at h
    · rename_i n p es pos
      rw [Bool.and_eq_true, Bool.and_eq_true, decide_eq_true_eq] at h
      obtain ⟨⟨h1, h2⟩, h3⟩ := h
      obtain ⟨m, k⟩ := O.fns f n h1
      have g := ckL_ok ys O h3
      cases es with
      | nil =>
        cases ys <;> first | (cases g; done) | skip
        exact .val (se_call0 k (O.gl h2)) fun _ => rfl
      | cons e es =>
        obtain ⟨g3, g4⟩ := g.sa
        exact .val (se_call k (O.gl h2) g3 (g4 e (by simp)) fun e' he => g4 e' (by simp [he])) fun _ => rfl
    · cases h
  | .app i x, ctx, X, O, e, h => by
    unfold ckE at h
    split at h
    · rw [Bool.and_eq_true, Bool.and_eq_true, Bool.and_eq_true, Bool.and_eq_true, decide_eq_true_eq] at h
      obtain ⟨⟨⟨⟨rfl, h2⟩, h3⟩, h4⟩, h5⟩ := h
      obtain ⟨g1, g2, g3, g4⟩ := O.nm h2
      exact .val (se_app g1 g2 g3 g4 (ckE_ok x O h4).1 (ns_of h5) h3 rfl) fun _ => rfl
    · cases h
  | .ext i x, ctx, X, O, e, h => by
    unfold ckE at h
    split at h
    · rw [Bool.and_eq_true, Bool.and_eq_true, Bool.and_eq_true, Bool.and_eq_true, decide_eq_true_eq] at h
      obtain ⟨⟨⟨⟨rfl, h2⟩, h3⟩, h4⟩, h5⟩ := h
      obtain ⟨g1, g2, g3, g4⟩ := O.nm h2
      exact .val (se_ext g1 g2 g3 g4 (ckE_ok x O h4).1 (ns_of h5) h3 rfl) fun _ => rfl
    · cases h
  | .pop i, ctx, X, O, e, h => by
    unfold ckE at h
    split at h
    · rw [Bool.and_eq_true, Bool.and_eq_true, decide_eq_true_eq] at h
      obtain ⟨⟨rfl, h2⟩, h3⟩ := h
      obtain ⟨g1, g2, g3, g4⟩ := O.nm h2
      exact .val (se_pop g1 g2 g3 g4 h3 rfl) fun _ => rfl
    · cases h
  | .popAt i x, ctx, X, O, e, h => by
    unfold ckE at h
    split at h
    · rw [Bool.and_eq_true, Bool.and_eq_true, Bool.and_eq_true, Bool.and_eq_true, decide_eq_true_eq] at h
      obtain ⟨⟨⟨⟨rfl, h2⟩, h3⟩, h4⟩, h5⟩ := h
      obtain ⟨g1, g2, g3, g4⟩ := O.nm h2
      exact .val (se_popAt g1 g2 g3 g4 (ckE_ok x O h4).1 (ns_of h5) h3 rfl) fun _ => rfl
    · cases h
  | .lc t k es c x own, ctx, X, O, e, h => by
    obtain ⟨elt, tg, iter, ifs, scope, pos, rfl, L⟩ := lc_parts O (fun z => ckL_ok es O z) (fun {_ _} O' {_} z => ckE_ok c O' z) (fun {_ _} O' {_} z => ckE_ok x O' z) h
    exact .val (L.se O) fun _ => rfl
  | .meth _ _ _, _, _, _, _, h => by rw [ckE] at h; cases h
  | .nil, _, _, _, _, h => by rw [ckE] at h; cases h
  | .cons _ _, _, _, _, _, h => by rw [ckE] at h; cases h
theorem ckL_ok : ∀ (x : E) {ctx : Ctx} {X : Cx} (O : CtxOk ctx X C) {es : List Expr}, ckL x ctx es = true → GL X C x es
  | .nil, ctx, X, O, es, h => by
    cases es with
    | nil => trivial
    | cons e es => rw [ckL] at h; cases h
  | .cons x xs, ctx, X, O, es, h => by
    cases es with
    | nil => rw [ckL] at h; cases h
    | cons e es =>
      rw [ckL, Bool.and_eq_true, Bool.and_eq_true] at h
      exact ⟨ckE_ok x O h.1.1, ns_of h.1.2, ckL_ok xs O h.2⟩
  | .var _, _, _, _, _, h => by simp [ckL] at h
  | .lit _, _, _, _, _, h => by simp [ckL] at h
  | .tk _, _, _, _, _, h => by simp [ckL] at h
  | .bin _ _ _, _, _, _, _, h => by simp [ckL] at h
  | .neg _, _, _, _, _, h => by simp [ckL] at h
  | .not _, _, _, _, _, h => by simp [ckL] at h
  | .and _ _, _, _, _, _, h => by simp [ckL] at h
  | .or _ _, _, _, _, _, h => by simp [ckL] at h
  | .cmp _ _ _, _, _, _, _, h => by simp [ckL] at h
  | .chain _ _ _ _ _, _, _, _, _, h => by simp [ckL] at h
  | .ite _ _ _, _, _, _, _, h => by simp [ckL] at h
  | .tup _, _, _, _, _, h => by simp [ckL] at h
  | .list _, _, _, _, _, h => by simp [ckL] at h
  | .sub _ _, _, _, _, _, h => by simp [ckL] at h
  | .cut _ _ _, _, _, _, _, h => by simp [ckL] at h
  | .bi _ _, _, _, _, _, h => by simp [ckL] at h
  | .meth _ _ _, _, _, _, _, h => by simp [ckL] at h
  | .isi _ _, _, _, _, _, h => by simp [ckL] at h
  | .call _ _, _, _, _, _, h => by simp [ckL] at h
  | .app _ _, _, _, _, _, h => by simp [ckL] at h
  | .ext _ _, _, _, _, _, h => by simp [ckL] at h
  | .pop _, _, _, _, _, h => by simp [ckL] at h
  | .popAt _ _, _, _, _, _, h => by simp [ckL] at h
  | .lc _ _ _ _ _ _, _, _, _, _, h => by simp [ckL] at h
end
theorem lc_full (O : CtxOk ctx X C) {t : Tg} {k : Ik} {es c x : E} {own : List Nat} {e : Expr} (h : ckE (.lc t k es c x own) ctx e = true) : ∃ elt tg iter ifs scope pos, e = .ListComp elt [⟨tg, iter, ifs, 0⟩] scope pos ∧ LcOk X C t k es c x own elt tg iter ifs scope :=
  lc_parts O (fun z => ckL_ok es O z) (fun {_ _} O' {_} z => ckE_ok c O' z) (fun {_ _} O' {_} z => ckE_ok x O' z) h
end
end MP

set_option maxHeartbeats 4000000
/-! Is the given text that MP term? Statements. -/
namespace MP
open PySem PySem.Spec PyProof.Rows L2

def notComp : Expr → Bool
  | .ListComp .. => false
  | .SetComp .. => false
  | .DictComp .. => false
  | _ => true
/-- does name = e store ahead of the comprehension's end -/
def swL (sc : Scope) (e : Expr) (n : Str) (px : Pos) : Bool :=
  let go (s : Scope) (p : Pos) : Bool := (if sc.kind.isAnnotationScope then ScopeKind.function else sc.kind) == .function && sc.names.lookup n == some .local && px.line == p.line && !(s.names.any fun (k, l) => k == n && (l == .local || l == .cell))
  match e with
  | .ListComp _ _ s p => go s p
  | .SetComp _ _ s p => go s p
  | .DictComp _ _ _ s p => go s p
  | _ => false
theorem sw_is {e : Expr} {n : Str} {px : Pos} {l : Nat} {env : PySem.Env} : swapsWith e (some (.Name n px)) l env = pure (swL env.scope e n px) := by
  cases e <;> rfl
theorem sw_none {e : Expr} {l : Nat} {env : PySem.Env} (h : notComp e = true) : swapsWith e none l env = pure false := by
  cases e <;> first | rfl | cases h
theorem sw_tup {e : Expr} {es : List Expr} {k : Nat} {p : Pos} {l : Nat} {env : PySem.Env} : swapsWithSole [.Tuple es k p] e l env = pure false := by
  cases e <;> rfl
theorem sw_sub {e o i : Expr} {p : Pos} {l : Nat} {env : PySem.Env} : swapsWithSole [.Subscript o i p] e l env = pure false := by
  cases e <;> rfl
theorem ss_subn {e o i : Expr} {p : Pos} {env : PySem.Env} : swappedStores [.Subscript o i p] e env = pure none := by
  cases e <;> rfl
theorem ss_tupn {e : Expr} {es : List Expr} {k : Nat} {p : Pos} {env : PySem.Env} (h : isTup e = false) : swappedStores [.Tuple es k p] e env = pure none := by
  cases e <;> first | rfl | cases h
def starE : Expr → Bool
  | .Starred .. => true
  | _ => false
/-- a, b = .. is stored name by name -/
def swS (sc : Scope) (vs : List Expr) : Bool := (if sc.kind.isAnnotationScope then ScopeKind.function else sc.kind) == .function && !(vs.any starE) && !(vs.all (foldedForSure 8)) && !(vs.all (constantsAlone 8))
theorem star_any (vs : List Expr) : (vs.any fun | .Starred .. => true | _ => false) = vs.any starE := rfl
theorem sws2 {env : PySem.Env} {n m : Str} {px py pt pt2 : Pos} {kt k2 : Nat} {a b : Expr} (h : swS env.scope [a, b] = true) (hn : env.scope.names.lookup n = some .local) (hm : env.scope.names.lookup m = some .local) (hl : (py.line == px.line) = true) (hne : n ≠ m) :
    swappedStores [.Tuple [.Name n px, .Name m py] kt pt] (.Tuple [a, b] k2 pt2) env = pure (some [n, m]) := by
  unfold swS at h
  simp only [Bool.and_eq_true, Bool.not_eq_true'] at h
  obtain ⟨⟨⟨h1, h2⟩, h3⟩, h4⟩ := h
  have k1 : (env.kindOf n == some .local) = true := by show (env.scope.names.lookup n == some .local) = true; rw [hn]; rfl
  have k2 : (env.kindOf m == some .local) = true := by show (env.scope.names.lookup m == some .local) = true; rw [hm]; rfl
  have hb : (env.blockKind != .function) = false := by
    show (!(env.blockKind == .function)) = false
    rw [show (env.blockKind == .function) = true from h1]; rfl
  have hd : ([n, m] : List Str).eraseDups = [n, m] := by
    rw [List.eraseDups_cons, List.filter_cons, if_pos (by simpa using fun z => hne z.symm), List.filter_nil, List.eraseDups_cons, List.filter_nil, List.eraseDups_nil]
  unfold swappedStores
  simp only [List.length_cons, List.length_nil, List.head?_cons, Option.map_some, Option.getD_some, List.filterMap_cons, List.filterMap_nil, Expr.pos, k1, k2, hl, hb, h3, h4, beq_self_eq_true, Bool.and_self, if_true, hd]
  rw [if_neg (by decide), if_neg (by rw [Bool.not_eq_true]; exact h2), if_neg (by decide), if_neg (by decide), if_neg (by decide)]
theorem sws3 {env : PySem.Env} {n m l : Str} {px py pz pt pt2 : Pos} {kt k2 : Nat} {a b c : Expr} (h : swS env.scope [a, b, c] = true) (hn : env.scope.names.lookup n = some .local) (hm : env.scope.names.lookup m = some .local) (hq : env.scope.names.lookup l = some .local)
    (hl : (py.line == px.line) = true) (hl2 : (pz.line == px.line) = true) (hne : n ≠ m) (hne2 : n ≠ l) (hne3 : m ≠ l) :
    swappedStores [.Tuple [.Name n px, .Name m py, .Name l pz] kt pt] (.Tuple [a, b, c] k2 pt2) env = pure (some [n, m, l]) := by
  unfold swS at h
  simp only [Bool.and_eq_true, Bool.not_eq_true'] at h
  obtain ⟨⟨⟨h1, h2⟩, h3⟩, h4⟩ := h
  have k1 : (env.kindOf n == some .local) = true := by show (env.scope.names.lookup n == some .local) = true; rw [hn]; rfl
  have k2 : (env.kindOf m == some .local) = true := by show (env.scope.names.lookup m == some .local) = true; rw [hm]; rfl
  have k3 : (env.kindOf l == some .local) = true := by show (env.scope.names.lookup l == some .local) = true; rw [hq]; rfl
  have hb : (env.blockKind != .function) = false := by
    show (!(env.blockKind == .function)) = false
    rw [show (env.blockKind == .function) = true from h1]; rfl
  have hd : ([n, m, l] : List Str).eraseDups = [n, m, l] := by
    rw [List.eraseDups_cons, List.filter_cons, if_pos (by simpa using fun z => hne z.symm), List.filter_cons, if_pos (by simpa using fun z => hne2 z.symm), List.filter_nil, List.eraseDups_cons, List.filter_cons, if_pos (by simpa using fun z => hne3 z.symm), List.filter_nil, List.eraseDups_cons, List.filter_nil, List.eraseDups_nil]
  unfold swappedStores
  simp only [List.length_cons, List.length_nil, List.head?_cons, Option.map_some, Option.getD_some, List.filterMap_cons, List.filterMap_nil, Expr.pos, k1, k2, k3, hl, hl2, hb, h3, h4, beq_self_eq_true, Bool.and_self, if_true, hd]
  rw [if_neg (by decide), if_neg (by rw [Bool.not_eq_true]; exact h2), if_neg (by decide), if_neg (by decide), if_neg (by decide)]
def swNames (sc : Scope) (ts : List Expr) (line : Nat) : List Str := ts.filterMap fun
  | .Name id pos => if sc.names.lookup id == some .local && pos.line == line then some id else none
  | _ => none
/-- a, b = .. goes by the tuple itself -/
def swN (sc : Scope) (ts vs : List Expr) : Bool :=
  let names := swNames sc ts ((ts.head?.map (·.pos.line)).getD 0)
  (!(ts.length == 2 || ts.length == 3) || vs.length != ts.length || (if sc.kind.isAnnotationScope then ScopeKind.function else sc.kind) != .function) || vs.any starE || (names.length != ts.length || names.eraseDups.length != names.length) || vs.all (foldedForSure 8)
theorem sw_no {env : PySem.Env} {ts vs : List Expr} {kt k2 : Nat} {pt pt2 : Pos} (h : swN env.scope ts vs = true) : swappedStores [.Tuple ts kt pt] (.Tuple vs k2 pt2) env = pure none := by
  show (if (!(ts.length == 2 || ts.length == 3) || vs.length != ts.length || env.blockKind != .function) = true then pure none else if vs.any starE = true then pure none else
    if ((swNames env.scope ts ((ts.head?.map (·.pos.line)).getD 0)).length != ts.length || (swNames env.scope ts ((ts.head?.map (·.pos.line)).getD 0)).eraseDups.length != (swNames env.scope ts ((ts.head?.map (·.pos.line)).getD 0)).length) = true then pure none else
    if vs.all (foldedForSure 8) = true then pure none else (_ : Sem (Option (List Str)))) = pure none
  split
  · rfl
  · rename_i h1
    split
    · rfl
    · rename_i h2
      split
      · rfl
      · rename_i h3
        split
        · rfl
        · rename_i h4
          exfalso
          rw [Bool.not_eq_true] at h1 h2 h3 h4
          unfold swN at h
          rw [show (!(ts.length == 2 || ts.length == 3) || vs.length != ts.length || (if env.scope.kind.isAnnotationScope then ScopeKind.function else env.scope.kind) != .function) = false from h1] at h
          simp only [h2, h3, h4] at h
          cases h
def isLc : E → Bool
  | .lc .. => true
  | _ => false
def loB (ctx : Ctx) (n : Str) : Bool := match ctx.sc.names.lookup n with
  | some .local => true
  | _ => false
theorem CtxOk.lo {ctx : Ctx} {X : Cx} {C : CallF} {n : Str} (O : CtxOk ctx X C) (h : loB ctx n = true) : X.env.scope.names.lookup n = some .local := by
  unfold loB at h
  rw [O.sc]
  split at h
  · assumption
  · cases h
mutual
def ckS : S → Ctx → Stmt → Bool
  | .skip, _, st => match st with
    | .Pass _ => true
    | .Expr (.Constant (.str _) _ _) _ => true
    | _ => false
  | .asn t x, ctx, st => match st with
    | .Assign [tg] e _ => match t with
      | .nm i => (match tg with
        | .Name n px => decide (ctx.N[i]? = some n) && ckE x ctx e && (match swL ctx.sc e n px with
          | true => isLc x && loB ctx n
          | false => stB ctx n)
        | _ => false)
      | .tp ts => (match tg with
        | .Tuple tl _ _ => ckE x ctx e && ckG ctx (.tp ts) tg && (match e with
          | .Tuple vs _ _ => swN ctx.sc tl vs
          | _ => true)
        | _ => false)
      | _ => false
    | _ => false
  | .par t ys, ctx, st => match st with
    | .Assign [.Tuple [.Name n px, .Name m py] _ _] (.Tuple [a, b] _ _) _ => match t with
      | .cons (.nm i) (.cons (.nm j) .nil) => ckL ys ctx [a, b] && swS ctx.sc [a, b] && decide (ctx.N[i]? = some n) && decide (ctx.N[j]? = some m) && loB ctx n && loB ctx m && (py.line == px.line) && decide (n ≠ m)
      | _ => false
    | .Assign [.Tuple [.Name n px, .Name m py, .Name l pz] _ _] (.Tuple [a, b, c] _ _) _ => match t with
      | .cons (.nm i) (.cons (.nm j) (.cons (.nm k) .nil)) => ckL ys ctx [a, b, c] && swS ctx.sc [a, b, c] && decide (ctx.N[i]? = some n) && decide (ctx.N[j]? = some m) && decide (ctx.N[k]? = some l) && loB ctx n && loB ctx m && loB ctx l
        && (py.line == px.line) && (pz.line == px.line) && decide (n ≠ m) && decide (n ≠ l) && decide (m ≠ l)
      | _ => false
    | _ => false
  | .setix i x v, ctx, st => match st with
    | .Assign [.Subscript (.Name n _) a _] e _ => nmOk ctx i n && ckE v ctx e && ckE x ctx a && notSlice a
    | _ => false
  | .expr x, ctx, st => match st with
    | .Expr e _ => ckE x ctx e && notComp e
    | _ => false
  | .ret x, ctx, st => match st with
    | .Return (some e) _ => ckE x ctx e
    | _ => false
  | .retn, _, st => match st with
    | .Return none _ => true
    | _ => false
  | .ite c a b, ctx, st => match st with
    | .If c' as bs _ => ckE c ctx c' && tOk c c' && ckB a ctx as && ckB b ctx bs
    | _ => false
  | .for_ t k es b, ctx, st => match st with
    | .For tg iter body [] _ => (match k with
        | .seq => ckL es ctx [iter]
        | .rng1 => (match iter with
          | .Call (.Name n _) [a] [] _ => decide (n = "range") && blB ctx n && ckL es ctx [a]
          | _ => false)
        | .rng2 => (match iter with
          | .Call (.Name n _) [a, b] [] _ => decide (n = "range") && blB ctx n && ckL es ctx [a, b]
          | _ => false)
        | .enum => (match iter with
          | .Call (.Name n _) [a] [] _ => decide (n = "enumerate") && blB ctx n && isTup tg && ckL es ctx [a]
          | _ => false)
        | .zip => (match iter with
          | .Call (.Name n _) [a, b] [] _ => decide (n = "zip") && blB ctx n && isTup tg && ckL es ctx [a, b]
          | _ => false)) && notSet iter && ckG ctx t tg && ckB b ctx body
    | _ => false
  | .wh c b, ctx, st => match st with
    | .While c' body [] _ => ckE c ctx c' && tOk c c' && ckB b ctx body
    | _ => false
  | .brk, _, st => match st with
    | .Break _ => true
    | _ => false
  | .dead, _, _ => true
  | .seq _ _, _, _ => false
def ckB : S → Ctx → List Stmt → Bool
  | .seq a b, ctx, sts => match sts with
    | st :: sts => ckS a ctx st && ckB b ctx sts
    | [] => false
  | .skip, _, sts => sts.isEmpty
  | .dead, _, _ => true
  | _, _, _ => false
end
section
variable {X : Cx} {C : CallF} {ctx : Ctx}
mutual
theorem ckS_ok (O : CtxOk ctx X C) (hp : PassesOwn (model X.prog X.w) X.A X.env X.xe) : ∀ (s : S) {st : Stmt}, ckS s ctx st = true → SS X C st s
  | .skip, st, h => by
    unfold ckS at h
    split at h
    · exact ss_pass
    · exact ss_doc
    · cases h
  | .asn t x, st, h => by
    unfold ckS at h
    split at h
    · split at h
      · split at h
        · rename_i i _ n px
          rw [Bool.and_eq_true, Bool.and_eq_true, decide_eq_true_eq] at h
          obtain ⟨⟨h1, h2⟩, h3⟩ := h
          have hi : X.N[i]? = some n := by rw [O.N]; exact h1
          split at h3
          · rename_i hsw
            rw [Bool.and_eq_true] at h3
            obtain ⟨h4, h5⟩ := h3
            cases x <;> first | (cases h4; done) | skip
            obtain ⟨elt, tg, iter, ifs, scope, pos, rfl, L⟩ := lc_full O h2
            have g := fun spos => ss_setLc (spos := spos) O.calm O.nd hi (O.lo h5) (sw_is.trans (by rw [O.sc, hsw])) L.hi L.ok L.hg L.ht L.he L.hs L.hown
            simp only [ownL_map] at g
            exact g _
          · rename_i hsw
            exact ss_set O.nd hi (O.st h3) (ckE_ok x O h2).1 (sw_is.trans (by rw [O.sc, hsw]))
        · cases h
      · split at h
        · rw [Bool.and_eq_true, Bool.and_eq_true] at h
          obtain ⟨⟨h1, h2⟩, h3⟩ := h
          refine ss_asgT (ckE_ok x O h1).1 (ckG_ok O h2).1 sw_tup ?_ rfl
          split at h3
          · exact sw_no (by rw [O.sc]; exact h3)
          · rename_i hne
            refine ss_tupn ?_
            rename_i e _ _ _ _ _ _ _
            unfold isTup
            split
            · exact (hne _ _ _ rfl).elim
            · rfl
        · cases h
      · cases h
    · cases h
  | .par t ys, st, h => by
    unfold ckS at h
    split at h
    · split at h
      · simp only [Bool.and_eq_true, decide_eq_true_eq] at h
        obtain ⟨⟨⟨⟨⟨⟨⟨h1, h2⟩, h3⟩, h4⟩, h5⟩, h6⟩, h7⟩, h8⟩ := h
        have hi := h3
        rw [← O.N] at hi
        have hj := h4
        rw [← O.N] at hj
        have hij := fun z => h8 (Option.some.inj (hi.symm.trans ((congrArg (X.N[·]?) z).trans hj)))
        exact ss_par O.calm O.nd hi hj hij (O.lo h5) (O.lo h6) (ckL_ok ys O h1).sa.1 (sws2 (by rw [O.sc]; exact h2) (O.lo h5) (O.lo h6) h7 h8)
      · cases h
    · split at h
      · simp only [Bool.and_eq_true, decide_eq_true_eq] at h
        obtain ⟨⟨⟨⟨⟨⟨⟨⟨⟨⟨⟨⟨h1, h2⟩, h3⟩, h4⟩, h5⟩, h6⟩, h7⟩, h8⟩, h9⟩, h10⟩, h11⟩, h12⟩, h13⟩ := h
        have hi := h3
        rw [← O.N] at hi
        have hj := h4
        rw [← O.N] at hj
        have hk := h5
        rw [← O.N] at hk
        have hij := fun z => h11 (Option.some.inj (hi.symm.trans ((congrArg (X.N[·]?) z).trans hj)))
        have hik := fun z => h12 (Option.some.inj (hi.symm.trans ((congrArg (X.N[·]?) z).trans hk)))
        have hjk := fun z => h13 (Option.some.inj (hj.symm.trans ((congrArg (X.N[·]?) z).trans hk)))
        exact ss_par3 O.calm O.nd hi hj hk hij hik hjk (O.lo h6) (O.lo h7) (O.lo h8) (ckL_ok ys O h1).sa.1 (sws3 (by rw [O.sc]; exact h2) (O.lo h6) (O.lo h7) (O.lo h8) h9 h10 h11 h12 h13)
      · cases h
    · cases h
  | .setix i x v, st, h => by
    unfold ckS at h
    split at h
    · rename_i n px a p2 e pos
      rw [Bool.and_eq_true, Bool.and_eq_true, Bool.and_eq_true] at h
      obtain ⟨⟨⟨h1, h2⟩, h3⟩, h4⟩ := h
      obtain ⟨g1, g2, g3, g4⟩ := O.nm h1
      exact ss_setix g1 g2 g3 g4 (ckE_ok v O h2).1 (ckE_ok x O h3).1 sw_sub ss_subn (by intro v; cases a <;> first | (cases h4; done) | rfl)
    · cases h
  | .expr x, st, h => by
    unfold ckS at h
    split at h
    · rw [Bool.and_eq_true] at h
      exact ss_expr (ckE_ok x O h.1).1 (sw_none h.2)
    · cases h
  | .ret x, st, h => by
    unfold ckS at h
    split at h
    · exact ss_ret (ckE_ok x O h).1
    · cases h
  | .retn, st, h => by
    unfold ckS at h
    split at h
    · exact ss_retn
    · cases h
  | .ite c a b, st, h => by
    unfold ckS at h
    split at h
    · rw [Bool.and_eq_true, Bool.and_eq_true, Bool.and_eq_true] at h
      obtain ⟨⟨⟨h1, h2⟩, h3⟩, h4⟩ := h
      exact ss_if ((ckE_ok c O h1).2 h2) (ckB_ok O hp a h3) (ckB_ok O hp b h4)
    · cases h
  | .for_ t k es b, st, h => by
    unfold ckS at h
    split at h
    · rw [Bool.and_eq_true, Bool.and_eq_true, Bool.and_eq_true] at h
      obtain ⟨⟨⟨h1, h2⟩, h3⟩, h4⟩ := h
      exact ss_for hp O.calm (it_ok O (fun z => ckL_ok es O z) h1) (ckG_ok O h3).1 (ckB_ok O hp b h4) (folded_of h2 _)
    · cases h
  | .wh c b, st, h => by
    unfold ckS at h
    split at h
    · rw [Bool.and_eq_true, Bool.and_eq_true] at h
      obtain ⟨⟨h1, h2⟩, h3⟩ := h
      exact ss_wh hp ((ckE_ok c O h1).2 h2) (ckB_ok O hp b h3)
    · cases h
  | .brk, st, h => by
    unfold ckS at h
    split at h
    · exact ss_brk
    · cases h
  | .dead, st, h => ss_dead
  | .seq _ _, st, h => by unfold ckS at h; cases h
theorem ckB_ok (O : CtxOk ctx X C) (hp : PassesOwn (model X.prog X.w) X.A X.env X.xe) : ∀ (s : S) {sts : List Stmt}, ckB s ctx sts = true → SSs X C sts s
  | .seq a b, sts, h => by
    unfold ckB at h
    split at h
    · rw [Bool.and_eq_true] at h
      exact ss_cons (ckS_ok O hp a h.1) (ckB_ok O hp b h.2)
    · cases h
  | .skip, sts, h => by
    unfold ckB at h
    cases sts with
    | nil => exact ss_nil
    | cons => cases h
  | .dead, sts, h => sss_dead
  | .asn _ _, _, h => by simp [ckB] at h
  | .par _ _, _, h => by simp [ckB] at h
  | .setix _ _ _, _, h => by simp [ckB] at h
  | .expr _, _, h => by simp [ckB] at h
  | .ret _, _, h => by simp [ckB] at h
  | .retn, _, h => by simp [ckB] at h
  | .ite _ _ _, _, h => by simp [ckB] at h
  | .for_ _ _ _ _, _, h => by simp [ckB] at h
  | .wh _ _, _, h => by simp [ckB] at h
  | .brk, _, h => by simp [ckB] at h
end
end
end MP

set_option maxHeartbeats 4000000
/-! All defs of a text. -/
namespace MP
open PySem PySem.Spec PyProof.Rows L2

section
variable {K : PySem.W.Frag} {H H' H1 H2 : Hp} {T T' : Addr → Prop} {σ σ' σ1 σ2 : L2.St} {r r' r1 r2 : Env} {vs : List V} {ss : List Sl}
theorem pad_at (hl : vs.length = ss.length) (k i : Nat) : gets (ss ++ List.replicate k .no) i = gets ss i ∧ ∀ v, (vs.map some ++ List.replicate k none : L2.St)[i]? = some (some v) ↔ (vs.map some : L2.St)[i]? = some (some v) := by
  by_cases h : i < ss.length
  · refine ⟨gets_app1 h, fun v => ?_⟩
    rw [List.getElem?_append_left (by rw [List.length_map, hl]; exact h)]
  · constructor
    · rw [gets_app2 (by omega)]
      cases q : gets ss i with
      | no => rfl
      | val d => exact absurd (gets_lt (by rw [q]; exact Sl.noConfusion)) h
      | acc m xs => exact absurd (gets_lt (by rw [q]; exact Sl.noConfusion)) h
    · intro v
      rw [List.getElem?_append_right (by rw [List.length_map, hl]; omega), List.getElem?_replicate, List.getElem?_eq_none (l := vs.map some) (by rw [List.length_map, hl]; omega)]
      constructor
      · intro z; split at z <;> cases z
      · intro z; cases z
theorem ER.pad (E : ER K H T (vs.map some) ss) (k : Nat) : ER K H T (vs.map some ++ List.replicate k none) (ss ++ List.replicate k .no) := by
  have hl : vs.length = ss.length := by have := E.len; rwa [List.length_map] at this
  have acc0 : ∀ b, Acc (vs.map some ++ List.replicate k none) (ss ++ List.replicate k .no) b → Acc (vs.map some) ss b := fun b ⟨i, m, xs, z1, z2⟩ => by
    rw [(pad_at hl k i).1] at z1
    exact ⟨i, m, xs, z1, ((pad_at hl k i).2 _).mp z2⟩
  have hN : ∀ b, (T b ∨ Acc (vs.map some ++ List.replicate k none) (ss ++ List.replicate k .no) b) → (T b ∨ Acc (vs.map some) ss b) := fun b z => z.imp id (acc0 b)
  refine ⟨by simp [hl], fun i d z => ?_, fun i m xs z => ?_, fun i j m m' xs ys a z1 z2 z3 z4 => ?_, E.tal⟩
  · rw [(pad_at hl k i).1] at z
    obtain ⟨v, e1, e2⟩ := E.val i d z
    exact ⟨v, ((pad_at hl k i).2 _).mpr e1, e2.anti hN⟩
  · rw [(pad_at hl k i).1] at z
    obtain ⟨a, us, e1, e2, e3, e4, e5⟩ := E.acc i m xs z
    exact ⟨a, us, ((pad_at hl k i).2 _).mpr e1, e2, e3, e4.anti hN, e5⟩
  · rw [(pad_at hl k i).1] at z1
    rw [(pad_at hl k j).1] at z2
    exact E.inj i j m m' xs ys a z1 z2 (((pad_at hl k i).2 _).mp z3) (((pad_at hl k j).2 _).mp z4)
end

/-- a row of the table: a def by its name, its statement, its slots, its MP form -/
structure Row where
  nm : Str
  st : Stmt
  N : List Str
  fn : Fn
def rowP (rows : List Row) : Nat → Option Fn := fun f => (rows[f]?).map (·.fn)
def Row.ps (w : Row) : List Str := w.N.take w.fn.n
/-- the checks of one row -/
def scB (N P : List Str) (sc : Scope) : Bool :=
  (match sc.kind with | .function => true | _ => false) && !sc.isCoroutine && !sc.isGenerator && decide (N.Nodup) && (P.all fun x => match sc.names.lookup x with
    | some .local => true
    | some .cell => true
    | _ => false) && (sc.names.all fun y => match y.2 with
    | .free => false
    | _ => true) && (N.all fun n => !(n == ("__debug__" : Str)) && !(n == ("__classdict__" : Str)))
theorem sc_ok {N : List Str} {k : Nat} {sc : Scope} (h : scB N (N.take k) sc = true) (hk : k ≤ N.length) : FnScope N (N.take k) sc ∧ ∀ (i : Nat) (n : Str), N[i]? = some n → (n == ("__debug__" : Str)) = false ∧ (n == ("__classdict__" : Str)) = false := by
  unfold scB at h
  simp only [Bool.and_eq_true, Bool.not_eq_true', decide_eq_true_eq, List.all_eq_true] at h
  obtain ⟨⟨⟨⟨⟨⟨h1, h2⟩, h3⟩, h4⟩, h5⟩, h6⟩, h7⟩ := h
  refine ⟨⟨?_, h2, h3, h4, ?_, fun x hx => ?_, fun y hy e => ?_⟩, fun i n e => h7 n (List.mem_of_getElem? e)⟩
  · split at h1
    · assumption
    · cases h1
  · rw [List.length_take, Nat.min_eq_left hk]
  · have := h5 x hx
    split at this
    · exact .inl (by assumption)
    · exact .inr (by assumption)
    · cases this
  · have := h6 y hy
    rw [e] at this
    cases this
/-- the defs' own parameters: positional, none with a default -/
def parB (st : Stmt) (ps : List Str) : Bool := match defArgs st with
  | ⟨[], as, none, [], [], none, []⟩ => decide (as.map (·.arg) = ps)
  | _ => false
def rowB (rows : List Row) (cns : List (Str × D)) (bls : List Str) (w : Row) : Bool :=
  decide (w.fn.n ≤ w.N.length) && decide (w.fn.m = w.N.length) && scB w.N (w.N.take w.fn.n) (defScope w.st) && ckB w.fn.b ⟨w.N, defScope w.st, none, rows.map (·.nm), cns, bls⟩ (defBody w.st)

/-- what is known of the table in the written part -/
structure TabOk (K : PySem.W.Frag) (mg : Str → Option Value) (rows : List Row) (cns : List (Str × D)) (bls : List Str) : Prop where
  fns : ∀ (f : Nat) (w : Row), rows[f]? = some w → ∃ a fd, Fun K w.nm w.nm w.st a fd ∧ mg w.nm = some (.ref a) ∧ (∀ us : List Value, us.length = w.ps.length → bindArgs fd ⟨us, []⟩ = pure (w.ps.zip us)) ∧ (w.nm == ("__debug__" : Str)) = false
  cns : ∀ n d, (n, d) ∈ cns → ∃ v u, mg n = some u ∧ RelV v u ∧ (n == ("__debug__" : Str)) = false ∧ ∀ H N, Rep K H N v d
  bls : ∀ n ∈ bls, mg n = none
section
variable {P : Program} {w : World} {K : PySem.W.Frag} {mg : Str → Option Value} {base : Heap} {rows : List Row} {cns : List (Str × D)} {bls : List Str}
theorem callF_len {f : Nat} {r : Row} (h : rows[f]? = some r) {n : Nat} {ss : List Sl} {u : W} {out : Env} (e : callF (rowP rows) n f ss = .ok u out) : ss.length = r.fn.n := by
  cases n with
  | zero => cases e
  | succ n =>
    unfold callF at e
    have hp : rowP rows f = some r.fn := by unfold rowP; rw [h]; rfl
    rw [hp] at e
    dsimp only at e
    split at e
    · assumption
    · cases e
theorem fin_inv {ss : List Sl} {x : R Fl} {u : W} {out : Env} (e : x.fin ss = .ok u out) : (∃ w0 r r', x = .ok (.ret w0) r ∧ outW w0 r = .ok u r' ∧ out = outs ss r') ∨ (∃ r, x = .ok .next r ∧ u = .val .non ∧ out = outs ss r) := by
  cases x with
  | ok f r =>
    cases f with
    | ret w0 =>
      obtain ⟨w', r', h1, h2⟩ := R.bind_inv (show (outW w0 r).bind (fun w' r' => R.ok w' (outs ss r')) = .ok u out from e)
      cases h2
      exact .inl ⟨w0, r, r', rfl, h1, rfl⟩
    | next => cases e; exact .inr ⟨r, rfl, rfl, rfl⟩
    | brk => cases e
  | exc _ _ => cases e
  | no => cases e
/-- every def of the table keeps what MP says, at every depth -/
theorem all_ok (TO : TabOk K mg rows cns bls) (ck : rows.all (rowB rows cns bls) = true) : ∀ (n f : Nat) (r : Row), rows[f]? = some r → ∀ a fd, Fun K r.nm r.nm r.st a fd → FnOk P w K mg base CX0 n a fd r.ps (spF K (callF (rowP rows) n) f r.fn.n)
  | 0, f, r, hr, a, fd, F => by
    refine ⟨fun vs H Q E h => ?_, fun A outer s H args us vs Q E _ _ _ _ h => ?_⟩
    · obtain ⟨_, T, ss, u, out, _, _, h, _⟩ := h; cases h
    · obtain ⟨_, T, ss, u, out, _, _, h, _⟩ := h; cases h
  | n + 1, f, r, hr, a, fd, F => by
    have hp : rowP rows f = some r.fn := by unfold rowP; rw [hr]; rfl
    have hb := List.all_eq_true.mp ck r (List.mem_of_getElem? hr)
    unfold rowB at hb
    rw [Bool.and_eq_true, Bool.and_eq_true, Bool.and_eq_true, decide_eq_true_eq, decide_eq_true_eq] at hb
    obtain ⟨⟨⟨b1, b2⟩, b3⟩, b4⟩ := hb
    obtain ⟨S, db⟩ := sc_ok b3 b1
    have hps : r.ps.length = r.fn.n := by unfold Row.ps; rw [List.length_take, Nat.min_eq_left b1]
    refine F.ok S (fun vs H Q E h => by rw [hps]; exact h.1) (fun cdv A outer s H vs Q E hR h => ?_)
    obtain ⟨hl, T, ss, u, out, E0, hfx, hC, hw, q⟩ := h
    refine ⟨rdS K (callF (rowP rows) n) r.fn.b, ?_, ?_⟩
    · refine ckB_ok ?_ PassesOwn.never r.fn.b b4
      refine ⟨rfl, S.nd, db, rfl, fun x => rfl, rfl, (by have := hR.un; show (A.deeper _).units + 200 < cLine; omega), fun f' nm hf => ?_, TO.cns, TO.bls⟩
      · have hf : (rows.map (·.nm))[f']? = some nm := hf
        rw [List.getElem?_map] at hf
        cases hf' : rows[f']? with
        | none => rw [hf'] at hf; cases hf
        | some r' =>
          rw [hf'] at hf
          cases hf
          obtain ⟨a', fd', F', mg', bd', db'⟩ := TO.fns f' r' hf'
          exact ⟨r'.fn.n, ⟨⟨a', fd', r'.ps, n, all_ok TO ck n f' r' hf' a' fd' F', hR, mg', F'.kp, .all bd'⟩, fun ss u out e => callF_len hf' e, db'⟩⟩
    · have hlen : ss.length = r.fn.n := by have := E0.len; rw [List.length_map] at this; rw [← this]; exact hl
      unfold callF at hC
      rw [hp] at hC
      dsimp only at hC
      rw [if_pos hlen] at hC
      have hk : r.N.length - vs.length = r.fn.m - r.fn.n := by rw [b2, hl]
      have hst : L2.start r.N vs = vs.map some ++ List.replicate (r.fn.m - r.fn.n) none := by unfold L2.start; rw [hk]
      rw [hst]
      have hf0 : ∀ i m xs, gets (ss ++ List.replicate (r.fn.m - r.fn.n) .no) i = .acc m xs → m = .fix := fun i m xs z => by
        rw [(pad_at (vs := vs) (by rw [hl, hlen]) _ i).1] at z
        exact hfx i m xs z
      rcases fin_inv hC with ⟨w0, r1, r2, h1, h2, rfl⟩ | ⟨r1, h1, rfl, rfl⟩
      · refine ⟨T, _, _, _, E0.pad _, h1, fun v σ' H' p => ?_⟩
        obtain ⟨p1, p2⟩ := p.out h2 hf0
        exact q v H' (Po.fin E0 hfx p1 p2)
      · exact ⟨T, _, _, _, E0.pad _, h1, fun σ' H' p => q _ H' (Po.fin E0 hfx p.non1 fun _ z => nomatch z)⟩
end
end MP

set_option maxHeartbeats 1000000
/-! From the table and the plain law to the law of the text. -/
namespace MP
open PySem PySem.Spec PyProof.Rows L2

/-- a def is known in the written part -/
def Known (K : PySem.W.Frag) (mg : Str → Option Value) (w : Row) : Prop := ∃ a fd, Fun K w.nm w.nm w.st a fd ∧ mg w.nm = some (.ref a) ∧ (∀ us : List Value, us.length = w.ps.length → bindArgs fd ⟨us, []⟩ = pure (w.ps.zip us)) ∧ (w.nm == ("__debug__" : Str)) = false
theorem known_of {K : PySem.W.Frag} {h : Heap} {mg : Str → Option Value} (X : K.In h) (G : h.Ns mainGlobals mg) {nm : Str} {st : Stmt} {N : List Str} {fn : Fn} {f : Addr} {oc : Value} {od an : Option Addr} {sl : Array (Option Value)} {kV dc pm cd ct : Value}
    (a : PySem.W.nsIn K mainGlobals nm = some (some (.ref f))) (l : K.lookup f = some ⟨oc, od, .func (PySem.W.fnOf nm nm (defArgs st) (defBody st) (defScope st) .none kV dc pm an cd ct), sl⟩)
    (c : PySem.W.codeIn K cd nm = true) (k : PySem.W.keepIn K (.ref f) = true) (db : (nm == ("__debug__" : Str)) = false)
    (b : ∀ (kV doc pm : Value) (an : Option Addr) (cdv ct : Value) (us : List Value), us.length = (N.take fn.n).length → bindArgs (PySem.W.fnOf nm nm (defArgs st) (defBody st) (defScope st) .none kV doc pm an cdv ct) ⟨us, []⟩ = pure ((N.take fn.n).zip us)) : Known K mg ⟨nm, st, N, fn⟩ := by
  have F := fun_mk (st := st) l c k
  exact ⟨f, _, F, PySem.W.mg_of X G a, b kV dc pm an cd ct, db⟩
theorem tab_of {K : PySem.W.Frag} {mg : Str → Option Value} {rows : List Row} {cns : List (Str × D)} {bls : List Str} (h : ∀ w ∈ rows, Known K mg w)
    (hc : ∀ n d, (n, d) ∈ cns → ∃ v u, mg n = some u ∧ RelV v u ∧ (n == ("__debug__" : Str)) = false ∧ ∀ H N, Rep K H N v d) (hb : ∀ n ∈ bls, mg n = none) : TabOk K mg rows cns bls :=
  ⟨fun f w e => h w (List.mem_of_getElem? e), hc, hb⟩
/-- a global int -/
theorem cn_int {K : PySem.W.Frag} {h : Heap} {mg : Str → Option Value} (X : K.In h) (G : h.Ns mainGlobals mg) {n : Str} {i : Int} {t : Tok} (a : PySem.W.nsIn K mainGlobals n = some (some (.int i t))) (db : (n == ("__debug__" : Str)) = false) :
    ∃ v u, mg n = some u ∧ RelV v u ∧ (n == ("__debug__" : Str)) = false ∧ ∀ H N, Rep K H N v (.int i) := ⟨.int i, _, PySem.W.mg_of X G a, ⟨t, rfl⟩, db, fun _ _ => .int i⟩
theorem cn_str {K : PySem.W.Frag} {h : Heap} {mg : Str → Option Value} (X : K.In h) (G : h.Ns mainGlobals mg) {n : Str} {s : List Nat} {t : Tok} (a : PySem.W.nsIn K mainGlobals n = some (some (.str ⟨s.toArray⟩ t))) (db : (n == ("__debug__" : Str)) = false) (hl : s.length ≤ LIM) :
    ∃ v u, mg n = some u ∧ RelV v u ∧ (n == ("__debug__" : Str)) = false ∧ ∀ H N, Rep K H N v (.str s) := ⟨.str ⟨s.toArray⟩, _, PySem.W.mg_of X G a, ⟨t, rfl⟩, db, fun _ _ => .str s hl⟩
/-- the law's promise, from the plain law -/
theorem sp_law {K : PySem.W.Frag} {C : CallF} {f m : Nat} (hl : ∀ ns : List Int, ns.length ≤ m → ∃ out, C f [.val (.scr ns)] = .ok (.val (.bl true)) out) (H : Hp) (a : Addr) (ns : List Int) (hn : ns.length ≤ m) (hm : m ≤ 63) (hO : Only H) (hS : SqL K H a (ns.map V.int)) (E : XK) :
    spF K C f 1 [.ref a] H (fun v _ => v = .bl true) E := by
  obtain ⟨out, h⟩ := hl ns hn
  have hz : ns.length ≤ sizeLine := by have : (63 : Nat) ≤ sizeLine := by rw [sizeLine_eq]; decide
                                       omega
  have g : ∀ i s, gets [Sl.val (.scr ns)] i = s → s ≠ .no → i = 0 ∧ s = .val (.scr ns) := fun i s e n => by
    match i, e with
    | 0, e => exact ⟨rfl, e.symm⟩
    | i + 1, e => exact (n (by rw [← e]; cases i <;> rfl)).elim
  refine ⟨rfl, fun _ => False, [.val (.scr ns)], .val (.bl true), out, ⟨rfl, fun i d e => ?_, fun i m xs e => ?_, fun i j m m' xs ys b e => ?_, fun b z => z.elim⟩, fun i m xs e => ?_, h, (fun _ => by intro z; cases z), fun v H' p => ?_⟩
  · obtain ⟨rfl, e2⟩ := g i _ e (fun z => nomatch z)
    cases e2
    exact ⟨.ref a, rfl, .scr (.of hO hS) hz⟩
  · obtain ⟨_, e2⟩ := g i _ e (fun z => nomatch z)
    cases e2
  · obtain ⟨_, e2⟩ := g i _ e (fun z => nomatch z)
    cases e2
  · obtain ⟨_, e2⟩ := g i _ e (fun z => nomatch z)
    cases e2
  · have := p.at0
    cases (show Rep _ _ _ v (.bl true) from this)
    rfl
/-- the whole of a law -/
theorem law_mk {P : Program} {w : World} {K : PySem.W.Frag} {mg : Str → Option Value} {rows : List Row} {cns : List (Str × D)} {bls : List Str} (TO : TabOk K mg rows cns bls) (ck : rows.all (rowB rows cns bls) = true) {f : Nat} {r : Row} (hr : rows[f]? = some r) (hps : r.ps = [("script" : Str)]) (hn : r.fn.n = 1) (hnm : r.nm = "law") (D : Nat) {fa : Addr} (hfa : mg "law" = some (.ref fa)) :
    ∃ fd : FuncData, (∀ (s : Shared) (u : Value), BindsTo s fd ⟨[u], []⟩ [(("script" : Str), u)]) ∧ ∀ base : Heap, FnOk P w K mg base CX0 D fa fd [("script" : Str)] (spF K (callF (rowP rows) D) f 1) := by
  obtain ⟨a, fd, F, g, b, _⟩ := TO.fns f r hr
  rw [hnm] at g
  cases hfa.symm.trans g
  refine ⟨fd, fun s u => .of_eq ?_, fun base => ?_⟩
  · have := b [u] (by rw [hps]; rfl)
    rw [hps] at this
    exact this
  · have := all_ok (P := P) (w := w) (base := base) TO ck D f r hr fa fd F
    rw [hps, hn] at this
    exact this
end MP

namespace MP
/-- is_integer(thing): 0 thing -/
def b_is_integer : S :=
  .seq (.ret (.and (.isi (.var 0) .int) (.not (.isi (.var 0) .bool)))) (.skip)
def f_is_integer : Fn := ⟨1, 1, b_is_integer⟩
/-- is_within(thing, low, high): 0 thing 1 low 2 high -/
def b_is_within : S :=
  .seq (.ret (.and (.call 0 (.cons (.tk (.var 0)) .nil)) (.chain .le .le (.var 1) (.var 0) (.var 2)))) (.skip)
def f_is_within : Fn := ⟨3, 3, b_is_within⟩
/-- is_tuple(thing, least, most): 0 thing 1 least 2 most -/
def b_is_tuple : S :=
  .seq (.ret (.and (.isi (.var 0) .tuple) (.chain .le .le (.var 1) (.bi .len (.cons (.var 0) .nil)) (.var 2)))) (.skip)
def f_is_tuple : Fn := ⟨3, 3, b_is_tuple⟩
/-- is_lot(thing, many): 0 thing 1 many 2 one 3 other -/
def b_is_lot : S :=
  .seq (.ite (.or (.not (.isi (.var 0) .tuple)) (.not (.bi .all (.cons (.lc (.nm 2) .seq (.cons (.var 0) .nil) (.lit (.bl true)) (.tk (.call 1 (.cons (.tk (.var 2)) (.cons (.lit (.int 0)) (.cons (.tk (.bin .sub (.var 1) (.lit (.int 1)))) .nil))))) [2]) .nil)))) (.seq (.ret (.lit (.bl false))) (.skip)) (.skip)) (.seq (.ret (.bi .all (.cons (.lc (.tp (.cons (.nm 2) (.cons (.nm 3) .nil))) .zip (.cons (.var 0) (.cons (.cut (.var 0) (.lit (.int 1)) .nil) .nil)) (.lit (.bl true)) (.cmp .lt (.var 2) (.var 3)) [2, 3]) .nil))) (.skip))
def f_is_lot : Fn := ⟨2, 4, b_is_lot⟩
/-- is_size(thing): 0 thing -/
def b_is_size : S :=
  .seq (.ret (.call 1 (.cons (.tk (.var 0)) (.cons (.lit (.int 1)) (.cons (.tk (.lit (.int 6))) .nil))))) (.skip)
def f_is_size : Fn := ⟨1, 1, b_is_size⟩
/-- check_size(size): 0 size -/
def b_check_size : S :=
  .seq (.ite (.not (.call 4 (.cons (.tk (.var 0)) .nil))) (.dead) (.skip)) (.skip)
def f_check_size : Fn := ⟨1, 1, b_check_size⟩
/-- is_ladder(size, a, thing): 0 size 1 a 2 thing 3 lot 4 met -/
def b_is_ladder : S :=
  .seq (.ite (.or (.not (.call 2 (.cons (.tk (.var 2)) (.cons (.lit (.int 1)) (.cons (.tk (.var 0)) .nil))))) (.not (.bi .all (.cons (.lc (.nm 3) .seq (.cons (.var 2) .nil) (.lit (.bl true)) (.tk (.and (.call 3 (.cons (.tk (.var 3)) (.cons (.tk (.var 0)) .nil))) (.cmp .gt (.bi .len (.cons (.var 3) .nil)) (.lit (.int 0))))) [3]) .nil)))) (.seq (.ret (.lit (.bl false))) (.skip)) (.skip)) (.seq (.asn (.nm 4) (.bi .sum2 (.cons (.lc (.nm 3) .seq (.cons (.var 2) .nil) (.lit (.bl true)) (.tk (.bi .list (.cons (.var 3) .nil))) [3]) (.cons (.list .nil) .nil)))) (.seq (.ret (.and (.cmp .eq (.sub (.var 2) (.lit (.int 0))) (.tup (.cons (.tk (.var 1)) .nil))) (.cmp .eq (.bi .lenset (.cons (.var 4) .nil)) (.bi .len (.cons (.var 4) .nil))))) (.skip)))
def f_is_ladder : Fn := ⟨3, 5, b_is_ladder⟩
/-- check_ladders(size, ladders): 0 size 1 ladders 2 a 3 one -/
def b_check_ladders : S :=
  .seq (.expr (.call 5 (.cons (.tk (.var 0)) .nil))) (.seq (.ite (.or (.not (.call 2 (.cons (.tk (.var 1)) (.cons (.tk (.var 0)) (.cons (.tk (.var 0)) .nil))))) (.not (.bi .all (.cons (.lc (.tp (.cons (.nm 2) (.cons (.nm 3) .nil))) .enum (.cons (.var 1) .nil) (.lit (.bl true)) (.tk (.call 6 (.cons (.tk (.var 0)) (.cons (.tk (.var 2)) (.cons (.tk (.var 3)) .nil))))) [2, 3]) .nil)))) (.dead) (.skip)) (.skip))
def f_check_ladders : Fn := ⟨2, 4, b_check_ladders⟩
/-- check_lots(size, lots): 0 size 1 lots 2 lot -/
def b_check_lots : S :=
  .seq (.for_ (.nm 2) .seq (.cons (.var 1) .nil) (.seq (.ite (.not (.call 3 (.cons (.tk (.var 2)) (.cons (.tk (.var 0)) .nil)))) (.dead) (.skip)) (.skip))) (.skip)
def f_check_lots : Fn := ⟨2, 3, b_check_lots⟩
/-- nearest_of(ladder, lot): 0 ladder 1 lot 2 one 3 some 4 b -/
def b_nearest_of : S :=
  .seq (.for_ (.nm 2) .seq (.cons (.var 0) .nil) (.seq (.asn (.nm 3) (.bi .tuple (.cons (.lc (.nm 4) .seq (.cons (.var 2) .nil) (.cmp .mem (.var 4) (.var 1)) (.tk (.var 4)) [4]) .nil))) (.seq (.ite (.cmp .gt (.bi .len (.cons (.var 3) .nil)) (.lit (.int 0))) (.seq (.ret (.var 3)) (.skip)) (.skip)) (.skip)))) (.seq (.ret (.tup .nil)) (.skip))
def f_nearest_of : Fn := ⟨2, 5, b_nearest_of⟩
/-- nearest(size, ladders, a, lot): 0 size 1 ladders 2 a 3 lot -/
def b_nearest : S :=
  .seq (.expr (.call 7 (.cons (.tk (.var 0)) (.cons (.tk (.var 1)) .nil)))) (.seq (.ite (.not (.call 1 (.cons (.tk (.var 2)) (.cons (.lit (.int 0)) (.cons (.tk (.bin .sub (.var 0) (.lit (.int 1)))) .nil))))) (.dead) (.skip)) (.seq (.expr (.call 8 (.cons (.tk (.var 0)) (.cons (.tk (.list (.cons (.tk (.var 3)) .nil))) .nil)))) (.seq (.ret (.call 9 (.cons (.tk (.sub (.var 1) (.var 2))) (.cons (.tk (.var 3)) .nil)))) (.skip))))
def f_nearest : Fn := ⟨4, 4, b_nearest⟩
/-- would(size, ladders, one, other): 0 size 1 ladders 2 one 3 other 4 a 5 b -/
def b_would : S :=
  .seq (.expr (.call 7 (.cons (.tk (.var 0)) (.cons (.tk (.var 1)) .nil)))) (.seq (.expr (.call 8 (.cons (.tk (.var 0)) (.cons (.tk (.list (.cons (.tk (.var 2)) (.cons (.tk (.var 3)) .nil)))) .nil)))) (.seq (.ret (.bi .tuple (.cons (.lc (.nm 4) .rng1 (.cons (.var 0) .nil) (.bi .all (.cons (.lc (.nm 5) .seq (.cons (.call 9 (.cons (.tk (.sub (.var 1) (.var 4))) (.cons (.tk (.var 2)) .nil))) .nil) (.lit (.bl true)) (.cmp .mem (.var 5) (.var 3)) [5]) .nil)) (.tk (.var 4)) [4]) .nil))) (.skip)))
def f_would : Fn := ⟨4, 6, b_would⟩
/-- might(size, ladders, one, other): 0 size 1 ladders 2 one 3 other 4 a 5 b -/
def b_might : S :=
  .seq (.expr (.call 7 (.cons (.tk (.var 0)) (.cons (.tk (.var 1)) .nil)))) (.seq (.expr (.call 8 (.cons (.tk (.var 0)) (.cons (.tk (.list (.cons (.tk (.var 2)) (.cons (.tk (.var 3)) .nil)))) .nil)))) (.seq (.ret (.bi .tuple (.cons (.lc (.nm 4) .rng1 (.cons (.var 0) .nil) (.bi .any (.cons (.lc (.nm 5) .seq (.cons (.call 9 (.cons (.tk (.sub (.var 1) (.var 4))) (.cons (.tk (.var 2)) .nil))) .nil) (.lit (.bl true)) (.cmp .mem (.var 5) (.var 3)) [5]) .nil)) (.tk (.var 4)) [4]) .nil))) (.skip)))
def f_might : Fn := ⟨4, 6, b_might⟩
/-- laws_of(size, ladders): 0 size 1 ladders 2 is_whole 3 lot 4 ladder 5 is_alone 6 word 7 flag -/
def b_laws_of : S :=
  .seq (.expr (.call 7 (.cons (.tk (.var 0)) (.cons (.tk (.var 1)) .nil)))) (.seq (.asn (.nm 2) (.bi .all (.cons (.lc (.nm 4) .seq (.cons (.var 1) .nil) (.lit (.bl true)) (.cmp .eq (.bi .sum (.cons (.lc (.nm 3) .seq (.cons (.var 4) .nil) (.lit (.bl true)) (.tk (.bi .len (.cons (.var 3) .nil))) [3]) .nil)) (.var 0)) [4]) .nil))) (.seq (.asn (.nm 5) (.bi .all (.cons (.lc (.nm 4) .seq (.cons (.var 1) .nil) (.lit (.bl true)) (.tk (.bi .all (.cons (.lc (.nm 3) .seq (.cons (.var 4) .nil) (.lit (.bl true)) (.cmp .eq (.bi .len (.cons (.var 3) .nil)) (.lit (.int 1))) [3]) .nil))) [4]) .nil))) (.seq (.ret (.bi .tuple (.cons (.lc (.tp (.cons (.nm 6) (.cons (.nm 7) .nil))) .seq (.cons (.tup (.cons (.tup (.cons (.lit (.str [119, 104, 111, 108, 101])) (.cons (.tk (.var 2)) .nil))) (.cons (.tup (.cons (.lit (.str [97, 108, 111, 110, 101])) (.cons (.tk (.var 5)) .nil))) .nil))) .nil) (.var 7) (.tk (.var 6)) [6, 7]) .nil))) (.skip))))
def f_laws_of : Fn := ⟨2, 8, b_laws_of⟩
/-- _law_hand(script): 0 script 1 cells 2 cell -/
def b__law_hand : S :=
  .seq (.asn (.nm 1) (.lc (.nm 2) .seq (.cons (.cut (.var 0) .nil (.lit (.int 63))) .nil) (.lit (.bl true)) (.tk (.bi .abs (.cons (.bi .int (.cons (.var 2) .nil)) .nil))) [2])) (.seq (.ret (.list (.cons (.tk (.var 1)) (.cons (.lit (.int 0)) (.cons (.lit (.int 0)) (.cons (.tk (.bin .add (.lit (.int 7)) (.bi .len (.cons (.var 1) .nil)))) (.cons (.lit (.int 0)) .nil))))))) (.skip))
def f__law_hand : Fn := ⟨1, 3, b__law_hand⟩
/-- _law_draw(hand, sides): 0 hand 1 sides 2 cell 3 digit 4 number; changes [0] -/
def b__law_draw : S :=
  .seq (.ite (.and (.cmp .eq (.sub (.var 0) (.lit (.int 2))) (.lit (.int 0))) (.cmp .lt (.sub (.var 0) (.lit (.int 1))) (.bi .len (.cons (.sub (.var 0) (.lit (.int 0))) .nil)))) (.seq (.asn (.nm 2) (.sub (.sub (.var 0) (.lit (.int 0))) (.sub (.var 0) (.lit (.int 1))))) (.seq (.setix 0 (.lit (.int 1)) (.tk (.bin .add (.sub (.var 0) (.lit (.int 1))) (.lit (.int 1))))) (.seq (.setix 0 (.lit (.int 3)) (.tk (.bin .mod (.bi .int (.cons (.bin .add (.bin .add (.bin .mul (.sub (.var 0) (.lit (.int 3))) (.lit (.int 69621))) (.bin .mul (.var 2) (.lit (.int 16)))) (.lit (.int 29))) .nil)) (.lit (.int 2147483629))))) (.seq (.ite (.cmp .ge (.var 2) (.bin .pow (.lit (.int 10)) (.lit (.int 18)))) (.seq (.setix 0 (.lit (.int 2)) (.tk (.var 2))) (.skip)) (.skip)) (.skip))))) (.skip)) (.seq (.ite (.cmp .gt (.sub (.var 0) (.lit (.int 2))) (.lit (.int 0))) (.seq (.asn (.nm 3) (.bin .mod (.bi .int (.cons (.sub (.var 0) (.lit (.int 2))) .nil)) (.var 1))) (.seq (.setix 0 (.lit (.int 2)) (.tk (.bin .fdiv (.sub (.var 0) (.lit (.int 2))) (.var 1)))) (.seq (.ret (.var 3)) (.skip)))) (.skip)) (.seq (.setix 0 (.lit (.int 4)) (.tk (.bin .add (.sub (.var 0) (.lit (.int 4))) (.lit (.int 1))))) (.seq (.asn (.nm 4) (.bin .mod (.bi .int (.cons (.bin .mul (.bi .int (.cons (.bin .add (.sub (.var 0) (.lit (.int 3))) (.bin .mul (.lit (.int 7919)) (.sub (.var 0) (.lit (.int 4))))) .nil)) (.lit (.int 48271))) .nil)) (.lit (.int 2147483647)))) (.seq (.asn (.nm 4) (.bin .mod (.bi .int (.cons (.bin .mul (.var 4) (.bin .add (.bin .fdiv (.var 4) (.lit (.int 1009))) (.lit (.int 69621)))) .nil)) (.lit (.int 2147483647)))) (.seq (.asn (.nm 4) (.bin .mod (.bi .int (.cons (.bin .mul (.var 4) (.bin .add (.bin .fdiv (.var 4) (.lit (.int 2003))) (.lit (.int 40692)))) .nil)) (.lit (.int 2147483399)))) (.seq (.ret (.bin .mod (.bi .int (.cons (.bin .fdiv (.var 4) (.lit (.int 16))) .nil)) (.var 1))) (.skip)))))))
def f__law_draw : Fn := ⟨2, 5, b__law_draw⟩
/-- _law_lot(hand, size): 0 hand 1 size 2 a; changes [0] -/
def b__law_lot : S :=
  .seq (.ret (.bi .tuple (.cons (.lc (.nm 2) .rng1 (.cons (.var 1) .nil) (.cmp .eq (.call 15 (.cons (.var 0) (.cons (.lit (.int 2)) .nil))) (.lit (.int 0))) (.tk (.var 2)) [2]) .nil))) (.skip)
def f__law_lot : Fn := ⟨2, 3, b__law_lot⟩
/-- _law_ladder(hand, size, a, kind): 0 hand 1 size 2 a 3 kind 4 left 5 found 6 b 7 many 8 lot 9 turn; changes [0] -/
def b__law_ladder : S :=
  .seq (.par (.cons (.nm 4) (.cons (.nm 5) .nil)) (.cons (.lc (.nm 6) .rng1 (.cons (.var 1) .nil) (.cmp .ne (.var 6) (.var 2)) (.tk (.var 6)) [6]) (.cons (.list (.cons (.tup (.cons (.tk (.var 2)) .nil)) .nil)) .nil))) (.seq (.wh (.and (.cmp .gt (.bi .len (.cons (.var 4) .nil)) (.lit (.int 0))) (.or (.cmp .gt (.var 3) (.lit (.int 0))) (.cmp .gt (.call 15 (.cons (.var 0) (.cons (.lit (.int 4)) .nil))) (.lit (.int 0))))) (.seq (.asn (.nm 7) (.ite (.cmp .eq (.var 3) (.lit (.int 2))) (.lit (.int 1)) (.bin .add (.lit (.int 1)) (.call 15 (.cons (.var 0) (.cons (.tk (.bi .len (.cons (.var 4) .nil))) .nil)))))) (.seq (.asn (.nm 8) (.list .nil)) (.seq (.for_ (.nm 9) .rng1 (.cons (.var 7) .nil) (.seq (.expr (.app 8 (.tk (.popAt 4 (.call 15 (.cons (.var 0) (.cons (.tk (.bi .len (.cons (.var 4) .nil))) .nil))))))) (.skip))) (.seq (.expr (.app 5 (.tk (.bi .tuple (.cons (.bi .sorted (.cons (.var 8) .nil)) .nil))))) (.skip)))))) (.seq (.ret (.bi .tuple (.cons (.var 5) .nil))) (.skip)))
def f__law_ladder : Fn := ⟨4, 10, b__law_ladder⟩
/-- _law_nearest(ladder, lot): 0 ladder 1 lot 2 step 3 some 4 b -/
def b__law_nearest : S :=
  .seq (.for_ (.nm 2) .seq (.cons (.var 0) .nil) (.seq (.asn (.nm 3) (.bi .tuple (.cons (.lc (.nm 4) .seq (.cons (.var 2) .nil) (.cmp .mem (.var 4) (.var 1)) (.tk (.var 4)) [4]) .nil))) (.seq (.ite (.cmp .gt (.bi .len (.cons (.var 3) .nil)) (.lit (.int 0))) (.seq (.ret (.var 3)) (.skip)) (.skip)) (.skip)))) (.seq (.ret (.tup .nil)) (.skip))
def f__law_nearest : Fn := ⟨2, 5, b__law_nearest⟩
/-- law(script): 0 script 1 hand 2 turn 3 size 4 kind 5 ladders 6 a 7 flags 8 ladder 9 step 10 words 11 one 12 other 13 third 14 near 15 told 16 b 17 common 18 due 19 rest -/
def b_law : S :=
  .seq (.asn (.nm 1) (.call 14 (.cons (.tk (.var 0)) .nil))) (.seq (.ite (.or (.cmp .ne (.call 11 (.cons (.lit (.int 2)) (.cons (.tup (.cons (.tup (.cons (.tup (.cons (.lit (.int 0)) .nil)) (.cons (.tup (.cons (.lit (.int 1)) .nil)) .nil))) (.cons (.tup (.cons (.tup (.cons (.lit (.int 1)) .nil)) .nil)) .nil))) (.cons (.tup (.cons (.lit (.int 1)) .nil)) (.cons (.tup (.cons (.lit (.int 1)) .nil)) .nil))))) (.tup (.cons (.lit (.int 0)) (.cons (.lit (.int 1)) .nil)))) (.cmp .ne (.call 10 (.cons (.lit (.int 2)) (.cons (.tup (.cons (.tup (.cons (.tup (.cons (.lit (.int 0)) .nil)) .nil)) (.cons (.tup (.cons (.tup (.cons (.lit (.int 1)) .nil)) .nil)) .nil))) (.cons (.lit (.int 0)) (.cons (.tup (.cons (.lit (.int 1)) .nil)) .nil))))) (.tup .nil))) (.seq (.ret (.lit (.bl false))) (.skip)) (.skip)) (.seq (.for_ (.nm 2) .rng1 (.cons (.lit (.int 5)) .nil) (.seq (.asn (.tp (.cons (.nm 3) (.cons (.nm 4) .nil))) (.tup (.cons (.tk (.bin .add (.lit (.int 1)) (.call 15 (.cons (.var 1) (.cons (.lit (.int 5)) .nil))))) (.cons (.tk (.call 15 (.cons (.var 1) (.cons (.lit (.int 3)) .nil)))) .nil)))) (.seq (.asn (.nm 5) (.bi .tuple (.cons (.lc (.nm 6) .rng1 (.cons (.var 3) .nil) (.lit (.bl true)) (.tk (.call 17 (.cons (.var 1) (.cons (.tk (.var 3)) (.cons (.tk (.var 6)) (.cons (.tk (.var 4)) .nil)))))) [6]) .nil))) (.seq (.asn (.nm 7) (.list .nil)) (.seq (.for_ (.nm 8) .seq (.cons (.var 5) .nil) (.seq (.expr (.app 7 (.cmp .eq (.bi .sum (.cons (.lc (.nm 9) .seq (.cons (.var 8) .nil) (.lit (.bl true)) (.tk (.bi .len (.cons (.var 9) .nil))) [9]) .nil)) (.var 3)))) (.skip))) (.seq (.asn (.nm 10) (.ite (.bi .all (.cons (.var 7) .nil)) (.list (.cons (.lit (.str [119, 104, 111, 108, 101])) .nil)) (.list .nil))) (.seq (.ite (.bi .all (.cons (.lc (.nm 8) .seq (.cons (.var 5) .nil) (.lit (.bl true)) (.tk (.bi .all (.cons (.lc (.nm 9) .seq (.cons (.var 8) .nil) (.lit (.bl true)) (.cmp .eq (.bi .len (.cons (.var 9) .nil)) (.lit (.int 1))) [9]) .nil))) [8]) .nil)) (.seq (.expr (.app 10 (.lit (.str [97, 108, 111, 110, 101])))) (.skip)) (.skip)) (.seq (.ite (.cmp .ne (.call 13 (.cons (.tk (.var 3)) (.cons (.tk (.var 5)) .nil))) (.bi .tuple (.cons (.var 10) .nil))) (.seq (.ret (.lit (.bl false))) (.skip)) (.skip)) (.seq (.asn (.tp (.cons (.nm 11) (.cons (.nm 12) (.cons (.nm 13) .nil)))) (.tup (.cons (.tk (.call 16 (.cons (.var 1) (.cons (.tk (.var 3)) .nil)))) (.cons (.tk (.call 16 (.cons (.var 1) (.cons (.tk (.var 3)) .nil)))) (.cons (.tk (.call 16 (.cons (.var 1) (.cons (.tk (.var 3)) .nil)))) .nil))))) (.seq (.asn (.nm 14) (.lc (.nm 8) .seq (.cons (.var 5) .nil) (.lit (.bl true)) (.tk (.call 18 (.cons (.tk (.var 8)) (.cons (.tk (.var 11)) .nil)))) [8])) (.seq (.ite (.cmp .ne (.lc (.nm 6) .rng1 (.cons (.var 3) .nil) (.lit (.bl true)) (.tk (.call 10 (.cons (.tk (.var 3)) (.cons (.tk (.var 5)) (.cons (.tk (.var 6)) (.cons (.tk (.var 11)) .nil)))))) [6]) (.var 14)) (.seq (.ret (.lit (.bl false))) (.skip)) (.skip)) (.seq (.asn (.nm 15) (.call 11 (.cons (.tk (.var 3)) (.cons (.tk (.var 5)) (.cons (.tk (.var 11)) (.cons (.tk (.var 12)) .nil)))))) (.seq (.ite (.cmp .ne (.var 15) (.bi .tuple (.cons (.lc (.nm 6) .rng1 (.cons (.var 3) .nil) (.bi .all (.cons (.lc (.nm 16) .seq (.cons (.sub (.var 14) (.var 6)) .nil) (.lit (.bl true)) (.cmp .mem (.var 16) (.var 12)) [16]) .nil)) (.tk (.var 6)) [6]) .nil))) (.seq (.ret (.lit (.bl false))) (.skip)) (.skip)) (.seq (.ite (.cmp .ne (.call 12 (.cons (.tk (.var 3)) (.cons (.tk (.var 5)) (.cons (.tk (.var 11)) (.cons (.tk (.var 12)) .nil))))) (.bi .tuple (.cons (.lc (.nm 6) .rng1 (.cons (.var 3) .nil) (.bi .any (.cons (.lc (.nm 16) .seq (.cons (.sub (.var 14) (.var 6)) .nil) (.lit (.bl true)) (.cmp .mem (.var 16) (.var 12)) [16]) .nil)) (.tk (.var 6)) [6]) .nil))) (.seq (.ret (.lit (.bl false))) (.skip)) (.skip)) (.seq (.ite (.bi .any (.cons (.lc (.nm 6) .seq (.cons (.var 11) .nil) (.lit (.bl true)) (.cmp .ne (.cmp .mem (.var 6) (.var 15)) (.cmp .mem (.var 6) (.var 12))) [6]) .nil)) (.seq (.ret (.lit (.bl false))) (.skip)) (.skip)) (.seq (.asn (.nm 17) (.bi .tuple (.cons (.lc (.nm 6) .seq (.cons (.var 12) .nil) (.cmp .mem (.var 6) (.var 13)) (.tk (.var 6)) [6]) .nil))) (.seq (.asn (.nm 18) (.bi .tuple (.cons (.lc (.nm 6) .seq (.cons (.var 15) .nil) (.cmp .mem (.var 6) (.call 11 (.cons (.tk (.var 3)) (.cons (.tk (.var 5)) (.cons (.tk (.var 11)) (.cons (.tk (.var 13)) .nil)))))) (.tk (.var 6)) [6]) .nil))) (.seq (.ite (.cmp .ne (.call 11 (.cons (.tk (.var 3)) (.cons (.tk (.var 5)) (.cons (.tk (.var 11)) (.cons (.tk (.var 17)) .nil))))) (.var 18)) (.seq (.ret (.lit (.bl false))) (.skip)) (.skip)) (.seq (.ite (.cmp .eq (.bi .len (.cons (.var 10) .nil)) (.lit (.int 2))) (.seq (.asn (.nm 19) (.call 11 (.cons (.tk (.var 3)) (.cons (.tk (.var 5)) (.cons (.tk (.var 11)) (.cons (.tk (.bi .tuple (.cons (.lc (.nm 6) .rng1 (.cons (.var 3) .nil) (.cmp .nomem (.var 6) (.var 12)) (.tk (.var 6)) [6]) .nil))) .nil)))))) (.seq (.ite (.bi .any (.cons (.lc (.nm 6) .rng1 (.cons (.var 3) .nil) (.lit (.bl true)) (.tk (.and (.cmp .nomem (.var 6) (.var 15)) (.cmp .nomem (.var 6) (.var 19)))) [6]) .nil)) (.seq (.ret (.lit (.bl false))) (.skip)) (.skip)) (.skip))) (.skip)) (.skip)))))))))))))))))))) (.seq (.ret (.lit (.bl true))) (.skip))))
def f_law : Fn := ⟨1, 20, b_law⟩
def prog : Nat → Option Fn
  | 0 => some f_is_integer
  | 1 => some f_is_within
  | 2 => some f_is_tuple
  | 3 => some f_is_lot
  | 4 => some f_is_size
  | 5 => some f_check_size
  | 6 => some f_is_ladder
  | 7 => some f_check_ladders
  | 8 => some f_check_lots
  | 9 => some f_nearest_of
  | 10 => some f_nearest
  | 11 => some f_would
  | 12 => some f_might
  | 13 => some f_laws_of
  | 14 => some f__law_hand
  | 15 => some f__law_draw
  | 16 => some f__law_lot
  | 17 => some f__law_ladder
  | 18 => some f__law_nearest
  | 19 => some f_law
  | _ => none
end MP

set_option maxHeartbeats 1000000
/-! Running MP texts by simp: the way of a value, head first. -/
namespace ML
open MP
abbrev Kt {β : Sort u} (_ : β) : Type := Unit
def Ok {α : Type} : R α → (Q : α → Env → Prop) → Kt Q → Prop
  | .ok a r, Q, _ => Q a r
  | _, _, _ => False
section
variable {α β : Type} {Q : α → Env → Prop} {t : Kt Q} {r : Env}
@[simp] theorem Ok_ok (a : α) : Ok (.ok a r) Q t = Q a r := rfl
@[simp] theorem Ok_no : Ok (.no : R α) Q t = False := rfl
@[simp] theorem Ok_exc (x : Exc) : Ok (.exc x r : R α) Q t = False := rfl
@[simp] theorem Ok_bind (x : R β) (f : β → Env → R α) : Ok (x.bind f) Q t = Ok x (fun a r => Ok (f a r) Q ()) () := by
  cases x <;> rfl
theorem Ok_ext {x : R α} {Q' : α → Env → Prop} {t' : Kt Q'} (h : ∀ a r, Q a r = Q' a r) : Ok x Q t = Ok x Q' t' := by
  have e : Q = Q' := funext fun a => funext fun r => h a r
  subst e
  cases t; cases t'; rfl
theorem Ok_beq (x : R β) (f : β → Env → R α) {Q' : β → Env → Prop} {t' : Kt Q'} (h : ∀ a r, Ok (f a r) Q () = Q' a r) : Ok (x.bind f) Q t = Ok x Q' t' := (Ok_bind x f).trans (Ok_ext h)
theorem Ok.mono {x : R α} {Q' : α → Env → Prop} {t' : Kt Q'} (h : Ok x Q t) (i : ∀ a r, Q a r → Q' a r) : Ok x Q' t' := by
  cases x with
  | ok a r => exact i a r h
  | exc _ _ => exact h
  | no => exact h
theorem Ok.use {x : R α} (h : Ok x Q t) : ∃ a r, x = .ok a r ∧ Q a r := by
  cases x with
  | ok a r => exact ⟨a, r, rfl, h⟩
  | exc _ _ => exact h.elim
  | no => exact h.elim
theorem Ok.of {x : R α} {a : α} (e : x = .ok a r) (h : Q a r) : Ok x Q t := by rw [e]; exact h
@[simp] theorem Ok_ofO_some (a : α) : Ok (R.ofO r (some a)) Q t = Q a r := rfl
@[simp] theorem Ok_ofO_none : Ok (R.ofO r (none : Option α)) Q t = False := rfl
end
/-! ### slots -/
section
variable {r : Env} {i n : Nat} {s x y : Sl}
@[simp] theorem gets_nil : gets [] n = .no := rfl
@[simp] theorem gets_0 : gets (x :: r) 0 = x := rfl
@[simp] theorem gets_s : gets (x :: r) (n + 1) = gets r n := rfl
@[simp] theorem sets_0 : sets (x :: r) 0 y = y :: r := rfl
@[simp] theorem sets_s : sets (x :: r) (n + 1) y = x :: sets r n y := rfl
@[simp] theorem put_0 : put (x :: r) 0 y = if held x then none else some (y :: r) := rfl
@[simp] theorem put_s : put (x :: r) (n + 1) y = (put r n y).map (x :: ·) := rfl
@[simp] theorem wipes_nil : wipes r [] = r := rfl
@[simp] theorem wipes_cons {is : List Nat} : wipes r (i :: is) = sets (wipes r is) i .no := rfl
@[simp] theorem backs_nil {r0 : Env} : backs r0 r [] = r := rfl
@[simp] theorem backs_cons {r0 : Env} {is : List Nat} : backs r0 r (i :: is) = sets (backs r0 r is) i (gets r0 i) := rfl
@[simp] theorem held_no : held .no = false := rfl
@[simp] theorem held_val {d : D} : held (.val d) = false := rfl
@[simp] theorem held_free {xs : List D} : held (.acc .free xs) = false := rfl
end
section
variable {C : CallF} {Q : W → Env → Prop} {t : Kt Q} {r : Env} {e a b c o : E} {i : Nat} {op : Op} {cm o1 o2 : Cm}
@[simp] theorem Ok_lit {d : D} : Ok (ev C (.lit d) r) Q t = Q (.val d) r := by rw [ev]; rfl
theorem Ok_var : Ok (ev C (.var i) r) Q t = Ok (match gets r i with | .val d => .ok (.val d) r | .acc _ _ => .ok (.slot i) r | .no => .no) Q t := by rw [ev] <;> cases gets r i <;> rfl
/-- the name's value -/
def vr (i : Nat) (r : Env) : Sl → R W
  | .val d => .ok (.val d) r
  | .acc _ _ => .ok (.slot i) r
  | .no => .no
@[simp] theorem vr_val {d : D} : vr i r (.val d) = .ok (.val d) r := rfl
@[simp] theorem vr_acc {m : Md} {xs : List D} : vr i r (.acc m xs) = .ok (.slot i) r := rfl
@[simp] theorem Ok_vr : Ok (ev C (.var i) r) Q t = Ok (vr i r (gets r i)) Q t := by rw [ev]; cases gets r i <;> rfl
@[simp] theorem Ok_tk : Ok (ev C (.tk e) r) Q t = Ok (ev C e r) (fun w r1 => Ok (take w r1) (fun d r2 => Q (.val d) r2) ()) () := by
  rw [ev]
  refine Ok_beq _ _ fun _ _ => ?_
  exact Ok_beq _ _ fun _ _ => rfl
/-- a value seen -/
def Sw (r : Env) (w : W) (k : D → Prop) (_ : Kt k) : Prop := match view r w with
  | some d => k d
  | none => False
@[simp] theorem Sw_val {k : D → Prop} {t : Kt k} {d : D} : Sw r (.val d) k t = k d := rfl
@[simp] theorem Sw_own {k : D → Prop} {t : Kt k} {xs : List D} : Sw r (.own xs) k t = k (.lst xs) := rfl
/-- the value of a slot -/
def Ss (k : D → Prop) (_ : Kt k) : Sl → Prop
  | .val d => k d
  | .acc _ xs => k (.lst xs)
  | .no => False
@[simp] theorem Ss_val {k : D → Prop} {t : Kt k} {d : D} : Ss k t (.val d) = k d := rfl
@[simp] theorem Ss_acc {k : D → Prop} {t : Kt k} {m : Md} {xs : List D} : Ss k t (.acc m xs) = k (.lst xs) := rfl
@[simp] theorem Sw_slot {k : D → Prop} {t : Kt k} : Sw r (.slot i) k t = Ss k t (gets r i) := by
  unfold Sw view
  dsimp only
  cases gets r i <;> rfl
theorem Sw_ext {k k' : D → Prop} {t : Kt k} {t' : Kt k'} {w : W} (h : ∀ d, k d = k' d) : Sw r w k t = Sw r w k' t' := by
  have e : k = k' := funext h
  subst e
  cases t; cases t'; rfl
theorem Ok_vw {β : Type} {f : D → R β} {w : W} {Q : β → Env → Prop} {t : Kt Q} : Ok (vw r w f) Q t = Sw r w (fun d => Ok (f d) Q ()) () := by
  unfold vw Sw
  cases view r w <;> rfl
theorem Ok_veq {β : Type} {f : D → R β} {w : W} {Q : β → Env → Prop} {t : Kt Q} {k : D → Prop} {t' : Kt k} (h : ∀ d, Ok (f d) Q () = k d) : Ok (vw r w f) Q t = Sw r w k t' := Ok_vw.trans (Sw_ext h)
@[simp] theorem Ok_bin : Ok (ev C (.bin op a b) r) Q t = Ok (ev C a r) (fun x r1 => Ok (ev C b r1) (fun y r2 => Sw r2 x (fun d => Sw r2 y (fun g => Ok (R.ofO r2 (binOp op d g)) Q ()) ()) ()) ()) () := by
  rw [ev]
  refine Ok_beq _ _ fun _ _ => ?_
  refine Ok_beq _ _ fun _ _ => ?_
  refine Ok_veq fun _ => ?_
  exact Ok_veq fun _ => rfl
@[simp] theorem Ok_cmp : Ok (ev C (.cmp cm a b) r) Q t = Ok (ev C a r) (fun x r1 => Ok (ev C b r1) (fun y r2 => Sw r2 x (fun d => Sw r2 y (fun g => Ok (R.ofO r2 (cmpOp cm d g)) (fun k r3 => Q (.val (.bl k)) r3) ()) ()) ()) ()) () := by
  rw [ev]
  refine Ok_beq _ _ fun _ _ => ?_
  refine Ok_beq _ _ fun _ _ => ?_
  refine Ok_veq fun _ => ?_
  refine Ok_veq fun _ => ?_
  exact Ok_beq _ _ fun _ _ => rfl
@[simp] theorem Ok_chain : Ok (ev C (.chain o1 o2 a b c) r) Q t = Ok (ev C a r) (fun x r1 => Ok (ev C b r1) (fun y r2 => Sw r2 x (fun d => Sw r2 y (fun g => Ok (R.ofO r2 (cmpOp o1 d g)) (fun k r3 => Ok (match k with
    | true => (ev C c r3).bind fun z r4 => vw r4 y fun e' => vw r4 z fun g => (R.ofO r4 (cmpOp o2 e' g)).bind fun t r5 => .ok (.val (.bl t)) r5
    | false => .ok (.val (.bl false)) r3) Q ()) ()) ()) ()) ()) () := by
  rw [ev]
  refine Ok_beq _ _ fun _ _ => ?_
  refine Ok_beq _ _ fun _ _ => ?_
  refine Ok_veq fun _ => ?_
  refine Ok_veq fun _ => ?_
  exact Ok_bind _ _
@[simp] theorem Ok_vw' {β : Type} {f : D → R β} {w : W} {Q : β → Env → Prop} {t : Kt Q} : Ok (vw r w f) Q t = Sw r w (fun d => Ok (f d) Q ()) () := Ok_vw
@[simp] theorem asB_bl {k : Bool} : asB (.val (.bl k)) r = .ok k r := rfl
@[simp] theorem Ok_neg : Ok (ev C (.neg a) r) Q t = Ok (ev C a r) (fun x r1 => Ok (match x with
    | .val (.int i) => .ok (.val (.int (-i))) r1
    | _ => .no) Q ()) () := by
  rw [ev]
  exact Ok_beq _ _ fun _ _ => rfl
@[simp] theorem Ok_not : Ok (ev C (.not a) r) Q t = Ok (ev C a r) (fun x r1 => Ok (asB x r1) (fun k r2 => Q (.val (.bl (!k))) r2) ()) () := by
  rw [ev]
  refine Ok_beq _ _ fun _ _ => ?_
  exact Ok_beq _ _ fun _ _ => rfl
@[simp] theorem Ok_and : Ok (ev C (.and a b) r) Q t = Ok (ev C a r) (fun x r1 => Ok (asB x r1) (fun k r2 => Ok (match k with | true => ev C b r2 | false => .ok (.val (.bl false)) r2) Q ()) ()) () := by
  rw [ev]
  refine Ok_beq _ _ fun _ _ => ?_
  exact Ok_bind _ _
@[simp] theorem Ok_or : Ok (ev C (.or a b) r) Q t = Ok (ev C a r) (fun x r1 => Ok (asB x r1) (fun k r2 => Ok (match k with | true => .ok (.val (.bl true)) r2 | false => ev C b r2) Q ()) ()) () := by
  rw [ev]
  refine Ok_beq _ _ fun _ _ => ?_
  exact Ok_bind _ _
@[simp] theorem Ok_eite : Ok (ev C (.ite c a b) r) Q t = Ok (ev C c r) (fun x r1 => Ok (asB x r1) (fun k r2 => Ok (match k with | true => ev C a r2 | false => ev C b r2) Q ()) ()) () := by
  rw [ev]
  refine Ok_beq _ _ fun _ _ => ?_
  exact Ok_bind _ _
@[simp] theorem Ok_tup : Ok (ev C (.tup e) r) Q t = Ok (evs C e r) (fun ws r1 => Ok (R.ofO r1 ((vals ws).map fun ds => .val (.tup ds))) Q ()) () := by rw [ev, Ok_bind]
@[simp] theorem Ok_list : Ok (ev C (.list e) r) Q t = Ok (evs C e r) (fun ws r1 => Ok (R.ofO r1 ((vals ws).map .own)) Q ()) () := by rw [ev, Ok_bind]
@[simp] theorem Ok_sub : Ok (ev C (.sub a b) r) Q t = Ok (ev C a r) (fun x r1 => Ok (ev C b r1) (fun y r2 => Sw r2 x (fun d => Sw r2 y (fun g => Ok (R.ofO r2 ((subOp d g).map .val)) Q ()) ()) ()) ()) () := by
  rw [ev]
  refine Ok_beq _ _ fun _ _ => ?_
  refine Ok_beq _ _ fun _ _ => ?_
  refine Ok_veq fun _ => ?_
  exact Ok_veq fun _ => rfl
@[simp] theorem Ok_cut : Ok (ev C (.cut a b c) r) Q t = Ok (ev C a r) (fun x r1 => Ok (R.part b (fun _ => ev C b r1) r1) (fun l r2 => Ok (R.part c (fun _ => ev C c r2) r2) (fun h r3 => Sw r3 x (fun d => Ok (R.ofO r3 (cutOp l h d)) Q ()) ()) ()) ()) () := by
  rw [ev]
  refine Ok_beq _ _ fun _ _ => ?_
  refine Ok_beq _ _ fun _ _ => ?_
  refine Ok_beq _ _ fun _ _ => ?_
  exact Ok_vw
@[simp] theorem part_nil {f : Unit → R W} : R.part .nil f r = .ok none r := rfl
@[simp] theorem part_lit {f : Unit → R W} {d : D} : R.part (.lit d) f r = (f ()).bind fun w r => match w with
    | .val (.int i) => .ok (some i) r
    | _ => .no := rfl
def biR (k : Bi) (r1 : Env) : Option (List D) → R W
  | some ds => R.ofO r1 (biOp k ds)
  | none => .no
@[simp] theorem biR_some {k : Bi} {ds : List D} : biR k r (some ds) = R.ofO r (biOp k ds) := rfl
@[simp] theorem Ok_bi {k : Bi} : Ok (ev C (.bi k e) r) Q t = Ok (evs C e r) (fun ws r1 => Ok (biR k r1 (views r1 ws)) Q ()) () := by
  rw [ev]
  refine Ok_beq _ _ fun ws r1 => ?_
  cases views r1 ws <;> rfl
@[simp] theorem Ok_isi {k : Ty} : Ok (ev C (.isi e k) r) Q t = Ok (ev C e r) (fun x r1 => Sw r1 x (fun d => Ok (R.ofO r1 ((isTy k d).map fun b => .val (.bl b))) Q ()) ()) () := by
  rw [ev]
  refine Ok_beq _ _ fun _ _ => ?_
  exact Ok_vw
def caR (C : CallF) (f : Nat) (ws : List W) (r1 : Env) : Option (List Sl) → R W
  | some ss => if nodupN (slotsOf ws) = true then (C f ss).back ws r1 else .no
  | none => .no
@[simp] theorem caR_some {f : Nat} {ws : List W} {ss : List Sl} : caR C f ws r (some ss) = if nodupN (slotsOf ws) = true then (C f ss).back ws r else .no := rfl
@[simp] theorem Ok_call {f : Nat} : Ok (ev C (.call f e) r) Q t = Ok (evs C e r) (fun ws r1 => Ok (caR C f ws r1 (argsS r1 ws)) Q ()) () := by
  rw [ev]
  refine Ok_beq _ _ fun ws r1 => ?_
  cases argsS r1 ws <;> rfl
@[simp] theorem Ok_ifno {α : Type} {Q : α → Env → Prop} {t : Kt Q} {p : Prop} [Decidable p] {x : R α} : Ok (if p then x else .no) Q t = (p ∧ Ok x Q t) := by
  by_cases h : p
  · rw [if_pos h]; exact propext ⟨fun z => ⟨h, z⟩, fun z => z.2⟩
  · rw [if_neg h]; exact propext ⟨fun z => z.elim, fun z => h z.1⟩
/-- no slot comes out of a call -/
def noSl : W → Prop
  | .slot _ => False
  | _ => True
@[simp] theorem noSl_val {d : D} : noSl (.val d) = True := rfl
@[simp] theorem noSl_own {xs : List D} : noSl (.own xs) = True := rfl
@[simp] theorem Ok_back {x : R W} {ws : List W} : Ok (x.back ws r) Q t = Ok x (fun w out => noSl w ∧ Q w (backArgs ws out r)) () := by
  cases x with
  | ok w out => cases w <;> simp [R.back, noSl]
  | exc _ _ => rfl
  | no => rfl
/-- the list of a slot -/
def mu {β : Type} (f : Md → List D → R β) : Sl → R β
  | .acc .free xs => f .free xs
  | .acc .fix xs => f .fix xs
  | _ => .no
@[simp] theorem mu_free {β : Type} {f : Md → List D → R β} {xs : List D} : mu f (.acc .free xs) = f .free xs := rfl
@[simp] theorem mu_fix {β : Type} {f : Md → List D → R β} {xs : List D} : mu f (.acc .fix xs) = f .fix xs := rfl
@[simp] theorem mutL_is {β : Type} {f : Md → List D → R β} : mutL r i f = mu f (gets r i) := by
  unfold mutL mu
  cases gets r i with
  | acc m xs => cases m <;> rfl
  | _ => rfl
def appR (i : Nat) (r1 : Env) : W → R W
  | .val d => mutL r1 i fun m xs => if xs.length < LIM then .ok (.val .non) (sets r1 i (.acc m (xs ++ [d]))) else .no
  | _ => .no
@[simp] theorem appR_val {d : D} : appR i r (.val d) = mutL r i fun m xs => if xs.length < LIM then .ok (.val .non) (sets r i (.acc m (xs ++ [d]))) else .no := rfl
@[simp] theorem Ok_app : Ok (ev C (.app i e) r) Q t = Ok (mutL r i fun _ _ => (ev C e r).bind fun x r1 => appR i r1 x) Q t := by
  have h : ∀ (x : W) (r1 : Env), appR i r1 x = match x with
    | .val d => mutL r1 i fun m xs => if xs.length < LIM then .ok (.val .non) (sets r1 i (.acc m (xs ++ [d]))) else .no
    | _ => .no := fun x r1 => by cases x <;> rfl
  rw [ev]
  simp only [h]
  all_goals (rfl)
def popK (i : Nat) (m : Md) (r1 : Env) (xs : List D) : Option (Nat × D) → R W
  | some (j, d) => .ok (.val d) (sets r1 i (.acc m (xs.eraseIdx j)))
  | none => .no
@[simp] theorem popK_some {m : Md} {xs : List D} {j : Nat} {d : D} : popK i m r xs (some (j, d)) = .ok (.val d) (sets r i (.acc m (xs.eraseIdx j))) := rfl
def popR (i : Nat) (r1 : Env) : W → R W
  | .val (.int k) => mutL r1 i fun m xs => popK i m r1 xs ((ixN xs.length k).bind fun j => (xs[j]?).map fun d => (j, d))
  | _ => .no
@[simp] theorem popR_int {k : Int} : popR i r (.val (.int k)) = mutL r i fun m xs => popK i m r xs ((ixN xs.length k).bind fun j => (xs[j]?).map fun d => (j, d)) := rfl
@[simp] theorem Ok_popAt : Ok (ev C (.popAt i e) r) Q t = Ok (mutL r i fun _ _ => (ev C e r).bind fun x r1 => popR i r1 x) Q t := by
  have h : ∀ (x : W) (r1 : Env), popR i r1 x = match x with
    | .val (.int k) => mutL r1 i fun m xs => match (ixN xs.length k).bind fun j => (xs[j]?).map fun d => (j, d) with
      | some (j, d) => .ok (.val d) (sets r1 i (.acc m (xs.eraseIdx j)))
      | none => .no
    | _ => .no := fun x r1 => by
      unfold popR
      split
      · congr
      · rfl
  rw [ev]
  simp only [h]
  all_goals (rfl)
end
section
variable {C : CallF} {Q : List W → Env → Prop} {t : Kt Q} {r : Env} {e es : E}
@[simp] theorem Ok_enil : Ok (evs C .nil r) Q t = Q [] r := by rw [evs]; rfl
@[simp] theorem Ok_econs : Ok (evs C (.cons e es) r) Q t = Ok (ev C e r) (fun w r1 => Ok (evs C es r1) (fun ws r2 => Q (w :: ws) r2) ()) () := by
  rw [evs]
  refine Ok_beq _ _ fun _ _ => ?_
  exact Ok_beq _ _ fun _ _ => rfl
@[simp] theorem vals_nil : vals [] = some [] := rfl
@[simp] theorem vals_val {d : D} {ws : List W} : vals (.val d :: ws) = (vals ws).map (d :: ·) := rfl
@[simp] theorem views_nil : views r [] = some [] := rfl
@[simp] theorem views_val {d : D} {ws : List W} : views r (.val d :: ws) = (views r ws).map (d :: ·) := by
  rw [views]
  cases views r ws <;> rfl
@[simp] theorem views_own {xs : List D} {ws : List W} : views r (.own xs :: ws) = (views r ws).map (.lst xs :: ·) := by
  rw [views]
  cases views r ws <;> rfl
/-- a slot's value -/
def sv : Sl → Option D
  | .val d => some d
  | .acc _ xs => some (.lst xs)
  | .no => none
@[simp] theorem sv_val {d : D} : sv (.val d) = some d := rfl
@[simp] theorem sv_acc {m : Md} {xs : List D} : sv (.acc m xs) = some (.lst xs) := rfl
@[simp] theorem views_slot {i : Nat} {ws : List W} : views r (.slot i :: ws) = (sv (gets r i)).bind fun d => (views r ws).map (d :: ·) := by
  rw [views]
  unfold view
  dsimp only
  cases gets r i <;> cases views r ws <;> rfl
@[simp] theorem take_val {d : D} : take (.val d) r = .ok d r := rfl
@[simp] theorem take_own {xs : List D} : take (.own xs) r = .ok (.lst xs) r := rfl
/-- a slot's list let go -/
def tkS (i : Nat) (r : Env) : Sl → R D
  | .val d => .ok d r
  | .acc .free xs => .ok (.lst xs) (sets r i (.val (.lst xs)))
  | _ => .no
@[simp] theorem tkS_val {i : Nat} {d : D} : tkS i r (.val d) = .ok d r := rfl
@[simp] theorem tkS_free {i : Nat} {xs : List D} : tkS i r (.acc .free xs) = .ok (.lst xs) (sets r i (.val (.lst xs))) := rfl
@[simp] theorem take_slot' {i : Nat} : take (.slot i) r = tkS i r (gets r i) := by
  unfold take tkS
  dsimp only
  all_goals (cases gets r i with
             | acc m xs => cases m <;> rfl
             | _ => rfl)
/-- an argument out of a slot -/
def agS : Sl → Option Sl
  | .acc .free xs => some (.acc .fix xs)
  | .acc .fix xs => some (.acc .fix xs)
  | _ => none
@[simp] theorem agS_free {xs : List D} : agS (.acc .free xs) = some (.acc .fix xs) := rfl
@[simp] theorem agS_fix {xs : List D} : agS (.acc .fix xs) = some (.acc .fix xs) := rfl
@[simp] theorem argsS_nil : argsS r [] = some [] := rfl
@[simp] theorem argsS_val {d : D} {ws : List W} : argsS r (.val d :: ws) = (argsS r ws).map (.val d :: ·) := by
  rw [argsS]
  unfold argS
  cases argsS r ws <;> rfl
@[simp] theorem argsS_slot {i : Nat} {ws : List W} : argsS r (.slot i :: ws) = (agS (gets r i)).bind fun s => (argsS r ws).map (s :: ·) := by
  rw [argsS]
  unfold argS agS
  dsimp only
  cases gets r i with
  | acc m xs => cases m <;> cases argsS r ws <;> rfl
  | _ => cases argsS r ws <;> rfl
@[simp] theorem slotsOf_nil : slotsOf [] = [] := rfl
@[simp] theorem slotsOf_val {d : D} {ws : List W} : slotsOf (.val d :: ws) = slotsOf ws := rfl
@[simp] theorem slotsOf_slot {i : Nat} {ws : List W} : slotsOf (.slot i :: ws) = i :: slotsOf ws := rfl
@[simp] theorem slotsOf_own {xs : List D} {ws : List W} : slotsOf (.own xs :: ws) = slotsOf ws := rfl
@[simp] theorem nodupN_nil : nodupN [] = true := rfl
@[simp] theorem nodupN_one {i : Nat} : nodupN [i] = true := rfl
@[simp] theorem backArgs_nil {ss : List Sl} : backArgs [] ss r = r := by cases ss <;> rfl
@[simp] theorem backArgs_val {d : D} {ws : List W} {s : Sl} {ss : List Sl} : backArgs (.val d :: ws) (s :: ss) r = backArgs ws ss r := rfl
/-- the caller's slot behind a call -/
def bkS (r : Env) (i : Nat) (xs : List D) : Sl → Env
  | .acc m _ => sets r i (.acc m xs)
  | _ => r
@[simp] theorem bkS_acc {i : Nat} {xs ys : List D} {m : Md} : bkS r i xs (.acc m ys) = sets r i (.acc m xs) := rfl
@[simp] theorem backArgs_slot {i : Nat} {ws : List W} {m : Md} {xs : List D} {ss : List Sl} : backArgs (.slot i :: ws) (.acc m xs :: ss) r = backArgs ws ss (bkS r i xs (gets r i)) := by
  rw [backArgs]
  unfold bkS
  cases gets r i <;> rfl
end
/-! ### statements -/
section
variable {C : CallF} {Q : Fl → Env → Prop} {t : Kt Q} {r : Env} {e c : E} {a b : S} {tg : Tg}
@[simp] theorem Ok_skip : Ok (ex C .skip r) Q t = Q .next r := by rw [ex]; rfl
/-- behind a statement -/
def thn' (C : CallF) (b : S) : Fl → Env → R Fl
  | .next, r1 => ex C b r1
  | .ret w, r1 => .ok (.ret w) r1
  | .brk, r1 => .ok .brk r1
@[simp] theorem thn_next : thn' C b .next r = ex C b r := rfl
@[simp] theorem thn_ret {w : W} : thn' C b (.ret w) r = .ok (.ret w) r := rfl
@[simp] theorem thn_brk : thn' C b .brk r = .ok .brk r := rfl
@[simp] theorem Ok_seq : Ok (ex C (.seq a b) r) Q t = Ok (ex C a r) (fun f r1 => Ok (thn' C b f r1) Q ()) () := by
  rw [ex]
  refine Ok_beq _ _ fun f r1 => ?_
  cases f <;> rfl
@[simp] theorem Ok_asn {i : Nat} : Ok (ex C (.asn (.nm i) e) r) Q t = Ok (ev C e r) (fun w r1 => Ok (putW r1 i w) (fun _ r2 => Q .next r2) ()) () := by
  rw [ex]
  refine Ok_beq _ _ fun _ _ => ?_
  exact Ok_beq _ _ fun _ _ => rfl
/-- a tuple to targets -/
def tpS (tg : Tg) (r1 : Env) (d : D) : R Fl := match d with
  | .tup ds => (R.ofO r1 (asgs tg ds r1)).bind fun r' _ => .ok .next r'
  | _ => .no
@[simp] theorem tpS_tup {ds : List D} : tpS tg r (.tup ds) = (R.ofO r (asgs tg ds r)).bind fun r' _ => .ok .next r' := rfl
@[simp] theorem Ok_asnT : Ok (ex C (.asn (.tp tg) e) r) Q t = Ok (ev C e r) (fun w r1 => Sw r1 w (fun d => Ok (tpS tg r1 d) Q ()) ()) () := by
  rw [ex]
  refine Ok_beq _ _ fun w r1 => ?_
  refine Ok_veq fun d => ?_
  cases d <;> rfl
@[simp] theorem Ok_par : Ok (ex C (.par tg e) r) Q t = Ok (evs C e r) (fun ws r1 => Ok (putWs tg ws r1) (fun _ r2 => Q .next r2) ()) () := by
  rw [ex]
  refine Ok_beq _ _ fun _ _ => ?_
  exact Ok_beq _ _ fun _ _ => rfl
def setK (i : Nat) (m : Md) (d : D) (r1 : Env) (xs : List D) : Option Nat → R Fl
  | some j => .ok .next (sets r1 i (.acc m (xs.set j d)))
  | none => .no
@[simp] theorem setK_some {i : Nat} {m : Md} {d : D} {xs : List D} {j : Nat} : setK i m d r xs (some j) = .ok .next (sets r i (.acc m (xs.set j d))) := rfl
def setR (i : Nat) (x : W) (r2 : Env) (y : W) : R Fl := match x, y with
  | .val d, .val (.int k) => mutL r2 i fun m xs => setK i m d r2 xs (ixN xs.length k)
  | _, _ => .no
@[simp] theorem setR_val {i : Nat} {d : D} {k : Int} : setR i (.val d) r (.val (.int k)) = mutL r i fun m xs => setK i m d r xs (ixN xs.length k) := rfl
@[simp] theorem Ok_setix {i : Nat} {v : E} : Ok (ex C (.setix i e v) r) Q t = Ok (ev C v r) (fun x r1 => Ok (mutL r1 i fun _ _ => (ev C e r1).bind fun y r2 => setR i x r2 y) Q ()) () := by
  have h : ∀ (x y : W) (r2 : Env), setR i x r2 y = match x, y with
    | .val d, .val (.int k) => mutL r2 i fun m xs => match ixN xs.length k with
      | some j => .ok .next (sets r2 i (.acc m (xs.set j d)))
      | none => .no
    | _, _ => .no := fun x y r2 => by
      unfold setR
      split
      · congr
      · rfl
  rw [ex]
  refine Ok_beq _ _ fun x r1 => ?_
  simp only [h]
  all_goals (rfl)
@[simp] theorem Ok_expr : Ok (ex C (.expr e) r) Q t = Ok (ev C e r) (fun _ r1 => Q .next r1) () := by
  rw [ex]
  exact Ok_beq _ _ fun _ _ => rfl
@[simp] theorem Ok_ret : Ok (ex C (.ret e) r) Q t = Ok (ev C e r) (fun w r1 => Q (.ret w) r1) () := by
  rw [ex]
  exact Ok_beq _ _ fun _ _ => rfl
@[simp] theorem Ok_retn : Ok (ex C .retn r) Q t = Q (.ret (.val .non)) r := by rw [ex]; rfl
@[simp] theorem Ok_brk : Ok (ex C .brk r) Q t = Q .brk r := by rw [ex]; rfl
@[simp] theorem Ok_ite : Ok (ex C (.ite c a b) r) Q t = Ok (ev C c r) (fun x r1 => Ok (asB x r1) (fun k r2 => Ok (match k with | true => ex C a r2 | false => ex C b r2) Q ()) ()) () := by
  rw [ex]
  unfold test
  refine (Ok_bind _ _).trans ?_
  refine (Ok_bind _ _).trans ?_
  exact Ok_ext fun _ _ => rfl
@[simp] theorem Ok_putW_val {i : Nat} {d : D} {Q : Unit → Env → Prop} {t : Kt Q} : Ok (putW r i (.val d)) Q t = Ok (R.ofO r (put r i (.val d))) (fun r' _ => Q () r') () := by
  unfold putW
  first | exact Ok_beq _ _ fun _ _ => rfl | (refine Ok_beq _ _ fun _ _ => ?_; exact Ok_beq _ _ fun _ _ => rfl)
@[simp] theorem Ok_putW_own {i : Nat} {xs : List D} {Q : Unit → Env → Prop} {t : Kt Q} : Ok (putW r i (.own xs)) Q t = Ok (R.ofO r (put r i (.acc .free xs))) (fun r' _ => Q () r') () := by
  unfold putW
  first | exact Ok_beq _ _ fun _ _ => rfl | (refine Ok_beq _ _ fun _ _ => ?_; exact Ok_beq _ _ fun _ _ => rfl)
@[simp] theorem Ok_putW_slot {i j : Nat} {Q : Unit → Env → Prop} {t : Kt Q} : Ok (putW r i (.slot j)) Q t = Ok (take (.slot j) r) (fun d r1 => Ok (R.ofO r1 (put r1 i (.val d))) (fun r' _ => Q () r') ()) () := by
  unfold putW
  first | exact Ok_beq _ _ fun _ _ => rfl | (refine Ok_beq _ _ fun _ _ => ?_; exact Ok_beq _ _ fun _ _ => rfl)
@[simp] theorem asg_nm {i : Nat} {d : D} : asg (.nm i) d r = put r i (.val d) := by rw [asg]
@[simp] theorem asg_tp {ds : List D} : asg (.tp tg) (.tup ds) r = asgs tg ds r := by rw [asg]
@[simp] theorem asgs_nil : asgs .nil [] r = some r := by rw [asgs]
@[simp] theorem asgs_cons {t ts : Tg} {d : D} {ds : List D} : asgs (.cons t ts) (d :: ds) r = (asg t d r).bind (asgs ts ds) := by
  rw [asgs]
  cases asg t d r <;> rfl
end
/-! ### a call -/
theorem callF_is {P : Nat → Option Fn} {n f : Nat} {fn : Fn} {ss : List Sl} (h : P f = some fn) (hl : ss.length = fn.n) : callF P (n + 1) f ss = (ex (callF P n) fn.b (ss ++ List.replicate (fn.m - fn.n) .no)).fin ss := by
  rw [callF]
  dsimp only
  rw [h]
  dsimp only
  rw [if_pos hl]
/-- the end of a def -/
def finS (ss : List Sl) (Q : W → Env → Prop) : Fl → Env → Prop
  | .ret w, r => Ok (outW w r) (fun w' r' => Q w' (outs ss r')) ()
  | .next, r => Q (.val .non) (outs ss r)
  | .brk, _ => False
theorem Ok_run {P : Nat → Option Fn} {n f : Nat} {fn : Fn} {ss : List Sl} {Q : W → Env → Prop} {t : Kt Q} (h : P f = some fn) (hl : ss.length = fn.n) (g : Ok (ex (callF P n) fn.b (ss ++ List.replicate (fn.m - fn.n) .no)) (finS ss Q) ()) : Ok (callF P (n + 1) f ss) Q t := by
  rw [callF_is h hl]
  obtain ⟨a, r, e, q⟩ := g.use
  rw [e]
  cases a with
  | ret w =>
    replace q : Ok (outW w r) (fun w' r' => Q w' (outs ss r')) () := q
    show Ok ((outW w r).bind fun w' r' => .ok w' (outs ss r')) Q t
    rw [Ok_bind]
    exact q
  | next => exact q
  | brk => exact q.elim
section
variable {Q : W → Env → Prop} {ss : List Sl} {r : Env}
@[simp] theorem finS_val {d : D} : finS ss Q (.ret (.val d)) r = Q (.val d) (outs ss r) := rfl
@[simp] theorem finS_own {xs : List D} : finS ss Q (.ret (.own xs)) r = Q (.own xs) (outs ss r) := rfl
@[simp] theorem finS_next : finS ss Q .next r = Q (.val .non) (outs ss r) := rfl
/-- the slot handed out -/
def outSl (i : Nat) (r : Env) : Sl → R W
  | .val d => .ok (.val d) r
  | .acc .free xs => .ok (.own xs) (sets r i .no)
  | _ => .no
@[simp] theorem outSl_val {i : Nat} {d : D} : outSl i r (.val d) = .ok (.val d) r := rfl
@[simp] theorem outSl_free {i : Nat} {xs : List D} : outSl i r (.acc .free xs) = .ok (.own xs) (sets r i .no) := rfl
@[simp] theorem finS_slot {i : Nat} : finS ss Q (.ret (.slot i)) r = Ok (outSl i r (gets r i)) (fun w' r' => Q w' (outs ss r')) () := by
  have e : outW (.slot i) r = outSl i r (gets r i) := by
    unfold outW outSl
    dsimp only
    all_goals (cases gets r i with
               | acc m xs => cases m <;> rfl
               | _ => rfl)
  show Ok (outW (.slot i) r) _ _ = _
  rw [e]
@[simp] theorem outs_is : outs ss r = outsF r 0 ss := rfl
@[simp] theorem outsF_nil {k : Nat} : outsF r k [] = [] := rfl
@[simp] theorem outsF_acc {k : Nat} {m : Md} {xs : List D} : outsF r k (.acc m xs :: ss) = gets r k :: outsF r (k + 1) ss := rfl
@[simp] theorem outsF_val {k : Nat} {d : D} : outsF r k (.val d :: ss) = .val d :: outsF r (k + 1) ss := rfl
end
end ML

set_option maxHeartbeats 1000000
/-! Running MP texts: operators, comprehensions, loops. -/
namespace ML
open MP
theorem eq_of {α : Type} {x : R α} {a : α} {r : Env} (h : ∀ (Q : α → Env → Prop) (t : Kt Q), Q a r → Ok x Q t) : x = .ok a r := by
  obtain ⟨b, r', e, rfl, rfl⟩ := (h (fun b r' => b = a ∧ r' = r) () ⟨rfl, rfl⟩).use
  exact e
section
variable {i j : Int} {xs ys ds : List D} {b c : Bool} {s z : List Nat} {r : Env}
@[simp] theorem isTy_int {t : Ty} : isTy t (.int i) = some (match t with | .int => true | _ => false) := by cases t <;> rfl
@[simp] theorem isTy_bl {t : Ty} : isTy t (.bl b) = some (match t with | .int => true | .bool => true | _ => false) := by cases t <;> rfl
@[simp] theorem isTy_str {t : Ty} : isTy t (.str s) = some (match t with | .str => true | _ => false) := by cases t <;> rfl
@[simp] theorem isTy_tup {t : Ty} : isTy t (.tup xs) = some (match t with | .tuple => true | _ => false) := by cases t <;> rfl
@[simp] theorem isTy_lst {t : Ty} : isTy t (.lst xs) = some (match t with | .list => true | _ => false) := by cases t <;> rfl
@[simp] theorem isTy_non {t : Ty} : isTy t .non = some false := by cases t <;> rfl
@[simp] theorem b_add : binOp .add (.int i) (.int j) = some (.val (.int (i + j))) := rfl
@[simp] theorem b_sub : binOp .sub (.int i) (.int j) = some (.val (.int (i - j))) := rfl
@[simp] theorem b_mul : binOp .mul (.int i) (.int j) = if mulOk i j then some (.val (.int (i * j))) else none := rfl
@[simp] theorem b_fdiv : binOp .fdiv (.int i) (.int j) = if 0 < j ∧ j < 1073741824 then some (.val (.int (i / j))) else none := rfl
@[simp] theorem b_mod : binOp .mod (.int i) (.int j) = if 0 < j then some (.val (.int (i % j))) else none := rfl
@[simp] theorem b_pow : binOp .pow (.int i) (.int j) = if 0 ≤ j ∧ j ≤ 1000 ∧ i.natAbs < 18446744073709551616 then some (.val (.int (i ^ j.toNat))) else none := rfl
@[simp] theorem b_addT : binOp .add (.tup xs) (.tup ys) = if xs.length + ys.length ≤ LIM then some (.val (.tup (xs ++ ys))) else none := rfl
@[simp] theorem b_addL : binOp .add (.lst xs) (.lst ys) = if xs.length + ys.length ≤ LIM then some (.own (xs ++ ys)) else none := rfl
@[simp] theorem b_addS : binOp .add (.str s) (.str z) = if s.length + z.length ≤ LIM then some (.val (.str (s ++ z))) else none := rfl
@[simp] theorem mulOk_r : mulOk i j = ((decide (-18446744073709551616 < i) && decide (i < 18446744073709551616)) || (decide (-18446744073709551616 < j) && decide (j < 18446744073709551616))) := rfl
@[simp] theorem c_lt : cmpOp .lt (.int i) (.int j) = some (decide (i < j)) := rfl
@[simp] theorem c_le : cmpOp .le (.int i) (.int j) = some (decide (i ≤ j)) := rfl
@[simp] theorem c_gt : cmpOp .gt (.int i) (.int j) = some (decide (j < i)) := rfl
@[simp] theorem c_ge : cmpOp .ge (.int i) (.int j) = some (decide (j ≤ i)) := rfl
theorem beq_dec {i j : Int} : (i == j) = decide (i = j) := by
  by_cases h : i = j
  · subst h; simp
  · rw [decide_eq_false h]; simpa using h
@[simp] theorem c_eqI : cmpOp .eq (.int i) (.int j) = some (decide (i = j)) := by rw [← beq_dec]; rfl
@[simp] theorem c_neI : cmpOp .ne (.int i) (.int j) = some (!decide (i = j)) := by rw [← beq_dec]; rfl
@[simp] theorem c_eqB : cmpOp .eq (.bl b) (.bl c) = some (b == c) := rfl
@[simp] theorem c_neB : cmpOp .ne (.bl b) (.bl c) = some (!(b == c)) := rfl
@[simp] theorem c_eqS : cmpOp .eq (.str s) (.str z) = some (s == z) := rfl
@[simp] theorem c_neS : cmpOp .ne (.str s) (.str z) = some (!(s == z)) := rfl
@[simp] theorem c_isN {d : D} : cmpOp .is_ d .non = some (isNon d) := by cases d <;> rfl
@[simp] theorem c_isnotN {d : D} : cmpOp .isnot d .non = some (!isNon d) := by cases d <;> rfl
@[simp] theorem bi_len : biOp .len [.lst xs] = some (.val (.int xs.length)) := rfl
@[simp] theorem bi_lenT : biOp .len [.tup xs] = some (.val (.int xs.length)) := rfl
@[simp] theorem bi_lenS : biOp .len [.str s] = some (.val (.int s.length)) := rfl
@[simp] theorem bi_tuple : biOp .tuple [.lst xs] = some (.val (.tup xs)) := rfl
@[simp] theorem bi_tupleT : biOp .tuple [.tup xs] = some (.val (.tup xs)) := rfl
@[simp] theorem bi_list : biOp .list [.lst xs] = some (.own xs) := rfl
@[simp] theorem bi_listT : biOp .list [.tup xs] = some (.own xs) := rfl
@[simp] theorem bi_abs : biOp .abs [.int i] = some (.val (.int (if i < 0 then -i else i))) := rfl
@[simp] theorem bi_int : biOp .int [.int i] = some (.val (.int i)) := rfl
@[simp] theorem bi_intB : biOp .int [.bl b] = some (.val (.int (b2i b))) := rfl
@[simp] theorem bi_min2 : biOp .min2 [.int i, .int j] = some (.val (.int (if j < i then j else i))) := rfl
@[simp] theorem bi_max2 : biOp .max2 [.int i, .int j] = some (.val (.int (if j > i then j else i))) := rfl
theorem getsI_map {α : Type} {f : α → Int} : ∀ {l : List α}, getsI (l.map fun x => .int (f x)) = some (l.map f)
  | [] => rfl
  | x :: l => by
    show (getsI (l.map fun x => .int (f x))).map (f x :: ·) = _
    rw [getsI_map]; rfl
theorem getsI_ints {l : List Int} : getsI (l.map .int) = some l := by
  have := getsI_map (f := fun x : Int => x) (l := l)
  simpa using this
theorem getsB_map {α : Type} {f : α → Bool} : ∀ {l : List α}, getsB (l.map fun x => .bl (f x)) = some (l.map f)
  | [] => rfl
  | x :: l => by
    show (getsB (l.map fun x => .bl (f x))).map (f x :: ·) = _
    rw [getsB_map]; rfl
@[simp] theorem bi_all {α : Type} {f : α → Bool} {l : List α} : biOp .all [.lst (l.map fun x => .bl (f x))] = some (.val (.bl (l.all f))) := by
  show (getsB _).map _ = _
  rw [getsB_map]
  simp [List.all_map]
@[simp] theorem bi_any {α : Type} {f : α → Bool} {l : List α} : biOp .any [.lst (l.map fun x => .bl (f x))] = some (.val (.bl (l.any f))) := by
  show (getsB _).map _ = _
  rw [getsB_map]
  simp [List.any_map]
@[simp] theorem bi_sum {α : Type} {f : α → Int} {l : List α} : biOp .sum [.lst (l.map fun x => .int (f x))] = some (.val (.int (l.map f).sum)) := by
  show (getsI _).map _ = _
  rw [getsI_map]
  rfl
@[simp] theorem bi_sorted {l : List Int} : biOp .sorted [.lst (l.map .int)] = some (.own ((sortI l).map .int)) := by
  show (getsI _).map _ = _
  rw [getsI_ints]
  rfl
end

/-! ### comprehensions -/
def stepC' (C : CallF) (t : Tg) (c x : E) (own : List Nat) (d : D) (r2 : Env) : R (Option D) := match asg t d r2 with
  | some r3 => (ev C c r3).bind fun y r4 => (asB y r4).bind fun b r5 => match b with
    | true => (ev C x r5).bind fun z r6 => match z with
      | .val d' => .ok (some d') (wipes r6 own)
      | _ => .no
    | false => .ok none (wipes r5 own)
  | none => .no
theorem ev_lc' {C : CallF} {t : Tg} {k : Ik} {es c x : E} {own : List Nat} {r : Env} : ev C (.lc t k es c x own) r = (evs C es r).bind fun ws r1 => match (views r1 ws).bind (itOp k) with
    | some ds => ((compL (stepC' C t c x own) ds [] (wipes (locks r1 ws) own)).bind fun out r7 => .ok (.own out) (backs (locks r1 ws) r7 own)).unlock r1 ws
    | none => .no := by
  rw [ev]
  rfl
theorem compL_pure {step : D → Env → R (Option D)} {r : Env} {g : D → Option D} : ∀ {ds out : List D}, (∀ d ∈ ds, step d r = .ok (g d) r) → compL step ds out r = .ok (out ++ ds.filterMap g) r
  | [], out, _ => by rw [compL]; simp
  | d :: ds, out, h => by
    rw [compL, h d List.mem_cons_self, R.bind_ok]
    cases e : g d with
    | some y =>
      dsimp only
      rw [compL_pure fun d' hd => h d' (List.mem_cons_of_mem _ hd), List.filterMap_cons, e]
      simp
    | none =>
      dsimp only
      rw [compL_pure fun d' hd => h d' (List.mem_cons_of_mem _ hd), List.filterMap_cons, e]
/-- a comprehension whose turns leave the names as they are -/
theorem Ok_lc {C : CallF} {t : Tg} {k : Ik} {es c x : E} {own : List Nat} {r : Env} {Q : W → Env → Prop} {q : Kt Q} (g : D → Option D)
    (h : Ok (evs C es r) (fun ws r1 => ∃ its, (views r1 ws).bind (itOp k) = some its ∧ (∀ d ∈ its, stepC' C t c x own d (wipes (locks r1 ws) own) = .ok (g d) (wipes (locks r1 ws) own)) ∧
      Q (.own (its.filterMap g)) (unlocks r1 (backs (locks r1 ws) (wipes (locks r1 ws) own) own) ws)) ()) : Ok (ev C (.lc t k es c x own) r) Q q := by
  obtain ⟨ws, r1, e, its, h1, h2, h3⟩ := h.use
  rw [ev_lc', e, R.bind_ok, h1]
  dsimp only
  rw [compL_pure h2, R.bind_ok]
  simpa [R.unlock] using h3
/-- the same over an encoded list -/
theorem Ok_lcm {α : Type} {C : CallF} {t : Tg} {k : Ik} {es c x : E} {own : List Nat} {r : Env} {Q : W → Env → Prop} {q : Kt Q} (l : List α) (enc : α → D) (p : α → Bool) (f : α → D)
    (h : Ok (evs C es r) (fun ws r1 => (views r1 ws).bind (itOp k) = some (l.map enc) ∧ (∀ a ∈ l, ∀ (Q' : Option D → Env → Prop), Q' (if p a then some (f a) else none) (wipes (locks r1 ws) own) → Ok (stepC' C t c x own (enc a) (wipes (locks r1 ws) own)) Q' ()) ∧
      Q (.own ((l.filter p).map f)) (unlocks r1 (backs (locks r1 ws) (wipes (locks r1 ws) own) own) ws)) ()) : Ok (ev C (.lc t k es c x own) r) Q q := by
  obtain ⟨ws, r1, e, h1, h2, h3⟩ := h.use
  rw [ev_lc', e, R.bind_ok, h1]
  dsimp only
  have key : ∀ (m : List α) (out : List D), (∀ a ∈ m, a ∈ l) → compL (stepC' C t c x own) (m.map enc) out (wipes (locks r1 ws) own) = .ok (out ++ (m.filter p).map f) (wipes (locks r1 ws) own) := fun m => by
    induction m with
    | nil => intro out _; rw [List.map_nil, compL]; simp
    | cons a m ih =>
      intro out hm
      rw [List.map_cons, compL, eq_of (fun Q' _ => h2 a (hm a List.mem_cons_self) Q'), R.bind_ok]
      by_cases hp : p a = true
      · rw [if_pos hp]
        dsimp only
        rw [ih _ fun b hb => hm b (List.mem_cons_of_mem _ hb), List.filter_cons, if_pos hp]
        simp
      · rw [if_neg hp]
        dsimp only
        rw [ih _ fun b hb => hm b (List.mem_cons_of_mem _ hb), List.filter_cons, if_neg hp]
  rw [key l [] fun a h => h, R.bind_ok]
  simpa [R.unlock] using h3
section
variable {C : CallF} {r : Env} {Q : Option D → Env → Prop} {q : Kt Q} {t : Tg} {c x : E} {own : List Nat} {d : D}
/-- a turn -/
def stA (C : CallF) (c x : E) (own : List Nat) : Option Env → R (Option D)
  | some r3 => (ev C c r3).bind fun y r4 => (asB y r4).bind fun b r5 => match b with
    | true => (ev C x r5).bind fun z r6 => match z with
      | .val d' => .ok (some d') (wipes r6 own)
      | _ => .no
    | false => .ok none (wipes r5 own)
  | none => .no
@[simp] theorem stepC_is : stepC' C t c x own d r = stA C c x own (asg t d r) := by
  unfold stepC' stA
  cases asg t d r <;> rfl
def stB (own : List Nat) (r6 : Env) : W → R (Option D)
  | .val d' => .ok (some d') (wipes r6 own)
  | _ => .no
@[simp] theorem stB_val : stB own r (.val d) = .ok (some d) (wipes r own) := rfl
def stF (C : CallF) (x : E) (own : List Nat) (r5 : Env) : Bool → R (Option D)
  | true => (ev C x r5).bind fun z r6 => stB own r6 z
  | false => .ok none (wipes r5 own)
@[simp] theorem stF_true : stF C x own r true = (ev C x r).bind fun z r6 => stB own r6 z := rfl
@[simp] theorem stF_false : stF C x own r false = .ok none (wipes r own) := rfl
@[simp] theorem stA_some : Ok (stA C c x own (some r)) Q q = Ok (ev C c r) (fun y r4 => Ok (asB y r4) (fun b r5 => Ok (stF C x own r5 b) Q ()) ()) () := by
  have h : ∀ (b : Bool) (r5 : Env), (match b with
    | true => (ev C x r5).bind fun z r6 => match z with
      | .val d' => .ok (some d') (wipes r6 own)
      | _ => .no
    | false => .ok none (wipes r5 own)) = stF C x own r5 b := fun b r5 => by
      cases b
      · rfl
      · show ((ev C x r5).bind fun z r6 => _) = (ev C x r5).bind fun z r6 => stB own r6 z
        congr
  show Ok ((ev C c r).bind fun y r4 => (asB y r4).bind fun b r5 => _) Q q = _
  refine Ok_beq _ _ fun y r4 => Ok_beq _ _ fun b r5 => ?_
  rw [h]
end
/-- an environment is locked for the walked -/
@[simp] theorem locks_nil {r : Env} : locks r [] = r := rfl
@[simp] theorem locks_val {r : Env} {d : D} {ws : List W} : locks r (.val d :: ws) = locks r ws := rfl
@[simp] theorem locks_own {r : Env} {xs : List D} {ws : List W} : locks r (.own xs :: ws) = locks r ws := rfl
def lk (r : Env) (i : Nat) : Sl → Env
  | .acc _ xs => sets r i (.acc .lck xs)
  | _ => r
@[simp] theorem lk_acc {r : Env} {i : Nat} {m : Md} {xs : List D} : lk r i (.acc m xs) = sets r i (.acc .lck xs) := rfl
@[simp] theorem lk_val {r : Env} {i : Nat} {d : D} : lk r i (.val d) = r := rfl
@[simp] theorem locks_slot {r : Env} {i : Nat} {ws : List W} : locks r (.slot i :: ws) = locks (lk r i (gets r i)) ws := by
  show locks (lock1 r (.slot i)) ws = _
  unfold lock1 lk
  dsimp only
  all_goals (cases gets r i <;> rfl)
@[simp] theorem unlocks_nil {r0 r : Env} : unlocks r0 r [] = r := rfl
@[simp] theorem unlocks_val {r0 r : Env} {d : D} {ws : List W} : unlocks r0 r (.val d :: ws) = unlocks r0 r ws := rfl
@[simp] theorem unlocks_own {r0 r : Env} {xs : List D} {ws : List W} : unlocks r0 r (.own xs :: ws) = unlocks r0 r ws := rfl
def uk (r : Env) (i : Nat) : Sl → Sl → Env
  | .acc m _, .acc .lck xs => sets r i (.acc m xs)
  | _, _ => r
@[simp] theorem uk_acc {r : Env} {i : Nat} {m : Md} {xs ys : List D} : uk r i (.acc m ys) (.acc .lck xs) = sets r i (.acc m xs) := rfl
@[simp] theorem uk_val {r : Env} {i : Nat} {d : D} {s : Sl} : uk r i (.val d) s = r := rfl
@[simp] theorem unlocks_slot {r0 r : Env} {i : Nat} {ws : List W} : unlocks r0 r (.slot i :: ws) = uk (unlocks r0 r ws) i (gets r0 i) (gets (unlocks r0 r ws) i) := by
  show unlock1 r0 (unlocks r0 r ws) (.slot i) = _
  unfold unlock1 uk
  dsimp only
  all_goals (cases gets r0 i <;> cases gets (unlocks r0 r ws) i <;> first | rfl | (rename_i m ys m' xs; cases m' <;> rfl))
@[simp] theorem it_lst {xs : List D} : itOp .seq [.lst xs] = some xs := rfl
@[simp] theorem it_tup {xs : List D} : itOp .seq [.tup xs] = some xs := rfl
theorem it_rng1 {n : Nat} (h : n ≤ 1000) : itOp .rng1 [.int (n : Int)] = some ((List.range n).map fun k => .int (k : Int)) := by
  show (if (n : Int) ≤ 1048576 ∧ -1073741824 ≤ (n : Int) then _ else _) = _
  rw [if_pos ⟨by omega, by omega⟩, Int.toNat_natCast]
  simp
end ML
namespace ML
open MP
theorem zip_enc {α β : Type} {f : α → D} {g : β → D} : ∀ {l : List α} {m : List β}, List.zipWith (fun x y => D.tup [x, y]) (l.map f) (m.map g) = (List.zip l m).map fun p => .tup [f p.1, g p.2]
  | [], _ => by simp
  | _ :: _, [] => by simp
  | x :: l, y :: m => by
    rw [List.map_cons, List.map_cons, List.zipWith_cons_cons, zip_enc, List.zip_cons_cons, List.map_cons]
@[simp] theorem it_zipT {α β : Type} {f : α → D} {g : β → D} {l : List α} {m : List β} : itOp .zip [.tup (l.map f), .tup (m.map g)] = some ((List.zip l m).map fun p => .tup [f p.1, g p.2]) := by
  rw [← zip_enc]; rfl
@[simp] theorem it_zipL {α β : Type} {f : α → D} {g : β → D} {l : List α} {m : List β} : itOp .zip [.lst (l.map f), .lst (m.map g)] = some ((List.zip l m).map fun p => .tup [f p.1, g p.2]) := by
  rw [← zip_enc]; rfl
theorem cut_map {α β : Type} {f : α → β} {l : List α} {a b : Option Int} : cut (l.map f) a b = (cut l a b).map f := by
  unfold cut
  rw [List.length_map, ← List.map_drop, ← List.map_take]
@[simp] theorem cut_tup {xs : List D} {a b : Option Int} : cutOp a b (.tup xs) = some (.val (.tup (cut xs a b))) := rfl
@[simp] theorem cut_lst {xs : List D} {a b : Option Int} : cutOp a b (.lst xs) = some (.own (cut xs a b)) := rfl
@[simp] theorem cut_scr {xs : List Int} {a b : Option Int} : cutOp a b (.scr xs) = some (.own ((cut xs a b).map .int)) := rfl
theorem sIx_n (n d k : Nat) : sIx n d (some (k : Int)) = min k n := by
  show (if (k : Int) < 0 then ((k : Int) + n).toNat else min (k : Int).toNat n) = _
  rw [if_neg (by omega), Int.toNat_natCast]
theorem sIx_no (n d : Nat) : sIx n d none = d := rfl
@[simp] theorem cut_from {α : Type} {l : List α} {k : Nat} : cut l (some (k : Int)) none = l.drop k := by
  unfold cut
  rw [sIx_n, sIx_no]
  by_cases h : k ≤ l.length
  · rw [Nat.min_eq_left h, List.take_of_length_le (by rw [List.length_drop]; omega)]
  · rw [Nat.min_eq_right (by omega), List.drop_of_length_le (Nat.le_refl _), List.drop_of_length_le (by omega)]
    simp
@[simp] theorem cut_one {α : Type} {l : List α} : cut l (some 1) none = l.drop 1 := cut_from (k := 1)
theorem cut_to {α : Type} {l : List α} {k : Nat} : cut l none (some (k : Int)) = l.take k := by
  unfold cut
  rw [sIx_n, sIx_no, List.drop_zero, Nat.sub_zero]
  by_cases h : k ≤ l.length
  · rw [Nat.min_eq_left h]
  · rw [Nat.min_eq_right (by omega), List.take_of_length_le (Nat.le_refl _), List.take_of_length_le (by omega)]
theorem pw_zip {R : Int → Int → Prop} : ∀ {l : List Int}, l.Pairwise R → ∀ p ∈ List.zip l (l.drop 1), R p.1 p.2
  | [], _, p, hp => by simp at hp
  | [x], _, p, hp => by simp at hp
  | x :: y :: l, h, p, hp => by
    rw [List.drop_succ_cons, List.drop_zero, List.zip_cons_cons] at hp
    rcases List.mem_cons.mp hp with e | hp
    · subst e
      exact List.rel_of_pairwise_cons h List.mem_cons_self
    · exact pw_zip (List.Pairwise.of_cons h) p (by simpa using hp)
end ML
namespace ML
open MP
mutual
theorem eqD_refl : ∀ {d : D}, pln d = true → eqD d d = true
  | .non, _ => rfl
  | .bl a, _ => by simp [eqD]
  | .int a, _ => by simp [eqD]
  | .str a, _ => by simp [eqD]
  | .tup xs, h => by rw [eqD]; rw [pln] at h; exact eqDs_refl h
  | .lst xs, h => by rw [eqD]; rw [pln] at h; exact eqDs_refl h
  | .dct _, h => by rw [pln] at h; cases h
  | .scr _, h => by rw [pln] at h; cases h
theorem eqDs_refl : ∀ {ds : List D}, plns ds = true → eqDs ds ds = true
  | [], _ => by rw [eqDs]
  | d :: ds, h => by
    rw [plns, Bool.and_eq_true] at h
    rw [eqDs, eqD_refl h.1, eqDs_refl h.2]; rfl
end
/-- small plain data -/
def smD (d : D) : Bool := pln d && decide (dep d ≤ 64)
theorem eqOk_sm {d e : D} (h : smD d = true) (h2 : smD e = true) : eqOk d e = true := by
  unfold smD at h h2
  rw [Bool.and_eq_true, decide_eq_true_eq] at h h2
  unfold eqOk
  rw [h.1, h2.1, decide_eq_true (Nat.le_trans (Nat.min_le_left _ _) h.2)]
  rfl
theorem c_same {d : D} (h : smD d = true) : cmpOp .eq d d = some true := by
  have hp : pln d = true := by unfold smD at h; rw [Bool.and_eq_true] at h; exact h.1
  show (if eqOk d d then some (eqD d d) else none) = _
  rw [eqOk_sm h h, eqD_refl hp]; rfl
theorem c_sameN {d : D} (h : smD d = true) : cmpOp .ne d d = some false := by
  have hp : pln d = true := by unfold smD at h; rw [Bool.and_eq_true] at h; exact h.1
  show (if eqOk d d then some (!eqD d d) else none) = _
  rw [eqOk_sm h h, eqD_refl hp]; rfl
theorem plns_map {α : Type} {f : α → D} (h : ∀ a, pln (f a) = true) : ∀ l : List α, plns (l.map f) = true
  | [] => rfl
  | a :: l => by rw [List.map_cons, plns, h a, plns_map h l]; rfl
theorem deps_map {α : Type} {f : α → D} {k : Nat} (h : ∀ a, dep (f a) ≤ k) : ∀ l : List α, deps (l.map f) ≤ k
  | [] => Nat.zero_le _
  | a :: l => by
    rw [List.map_cons, deps]
    exact Nat.max_le.mpr ⟨h a, deps_map h l⟩
theorem pln_tup {xs : List D} : pln (.tup xs) = plns xs := by rw [pln]
theorem pln_lst {xs : List D} : pln (.lst xs) = plns xs := by rw [pln]
theorem dep_tup {xs : List D} : dep (.tup xs) = deps xs + 1 := by rw [dep]
theorem dep_lst {xs : List D} : dep (.lst xs) = deps xs + 1 := by rw [dep]
@[simp] theorem sm_ints {l : List Int} : smD (.tup (l.map .int)) = true := by
  unfold smD
  rw [pln_tup, plns_map fun _ => rfl, dep_tup, decide_eq_true (by have := deps_map (f := D.int) (k := 0) (fun _ => Nat.le_refl _) l; omega)]
  rfl
@[simp] theorem sm_intsL {l : List Int} : smD (.lst (l.map .int)) = true := by
  unfold smD
  rw [pln_lst, plns_map fun _ => rfl, dep_lst, decide_eq_true (by have := deps_map (f := D.int) (k := 0) (fun _ => Nat.le_refl _) l; omega)]
  rfl
@[simp] theorem sm_lots {L : List (List Int)} : smD (.lst (L.map fun l => .tup (l.map .int))) = true := by
  unfold smD
  rw [pln_lst, plns_map fun l => by rw [pln_tup]; exact plns_map (fun _ => rfl) l, dep_lst, decide_eq_true]
  · rfl
  · have := deps_map (f := fun l : List Int => D.tup (l.map .int)) (k := 1) (fun l => by rw [dep_tup]; have := deps_map (f := D.int) (k := 0) (fun _ => Nat.le_refl _) l; omega) L
    omega
theorem eqDs_ints : ∀ {l m : List Int}, eqDs (l.map .int) (m.map .int) = decide (l = m)
  | [], [] => by simp [eqDs]
  | [], _ :: _ => by simp [eqDs]
  | _ :: _, [] => by simp [eqDs]
  | x :: l, y :: m => by
    rw [List.map_cons, List.map_cons, eqDs, eqDs_ints]
    show (x == y && _) = _
    rw [beq_dec]
    by_cases h : x = y <;> simp [h]
@[simp] theorem c_eqT {l m : List Int} : cmpOp .eq (.tup (l.map .int)) (.tup (m.map .int)) = some (decide (l = m)) := by
  show (if eqOk _ _ then some (eqD _ _) else none) = _
  rw [eqOk_sm sm_ints sm_ints, eqD, eqDs_ints]; rfl
@[simp] theorem c_neT {l m : List Int} : cmpOp .ne (.tup (l.map .int)) (.tup (m.map .int)) = some (!decide (l = m)) := by
  show (if eqOk _ _ then some (!eqD _ _) else none) = _
  rw [eqOk_sm sm_ints sm_ints, eqD, eqDs_ints]; rfl
theorem memD_ints {x : Int} : ∀ {l : List Int}, memD (.int x) (l.map .int) = l.contains x
  | [] => rfl
  | y :: l => by
    have ih := memD_ints (x := x) (l := l)
    unfold memD at ih ⊢
    rw [List.map_cons, List.any_cons, ih, List.contains_cons]
    show (y == x || _) = _
    rw [show (y == x) = (x == y) from Bool.beq_comm]
@[simp] theorem c_mem {x : Int} {l : List Int} : cmpOp .mem (.int x) (.tup (l.map .int)) = some (l.contains x) := by
  show (if eqOk _ _ then some (memD _ _) else none) = _
  rw [eqOk_sm (e := .tup [.int x]) sm_ints (sm_ints (l := [x])), memD_ints]; rfl
@[simp] theorem c_nomem {x : Int} {l : List Int} : cmpOp .nomem (.int x) (.tup (l.map .int)) = some (!l.contains x) := by
  show (if eqOk _ _ then some (!memD _ _) else none) = _
  rw [eqOk_sm (e := .tup [.int x]) sm_ints (sm_ints (l := [x])), memD_ints]; rfl
@[simp] theorem sub_t0 {x : D} {xs : List D} : subOp (.tup (x :: xs)) (.int 0) = some x := by
  show (ixN (xs.length + 1) 0).bind _ = _
  unfold ixN
  rw [if_pos (by omega), if_pos (by omega)]
  rfl
@[simp] theorem filter_tt {α : Type} {l : List α} : (l.filter fun _ => true) = l := List.filter_eq_self.mpr fun _ _ => rfl
@[simp] theorem all_tt {α : Type} {l : List α} : (l.all fun _ => true) = true := by
  rw [List.all_eq_true]; exact fun _ _ => rfl
@[simp] theorem any_ff {α : Type} {l : List α} : (l.any fun _ => false) = false := by
  rw [List.any_eq_false]; exact fun _ _ => by simp
@[simp] theorem sub_t1 {x y : D} {xs : List D} : subOp (.tup (x :: y :: xs)) (.int 1) = some y := by
  show (ixN (xs.length + 1 + 1) 1).bind _ = _
  unfold ixN
  rw [if_pos (by omega), if_pos (by omega)]
  rfl
theorem ixN_nat {n k : Nat} (h : k < n) : ixN n (k : Int) = some k := by
  unfold ixN
  rw [if_pos (by omega), if_pos (by omega), Int.toNat_natCast]
theorem sub_t {xs : List D} {k : Nat} {d : D} (h : xs[k]? = some d) : subOp (.tup xs) (.int (k : Int)) = some d := by
  show (ixN xs.length k).bind _ = _
  rw [ixN_nat (List.getElem?_eq_some_iff.mp h).1]; exact h
theorem sub_l {xs : List D} {k : Nat} {d : D} (h : xs[k]? = some d) : subOp (.lst xs) (.int (k : Int)) = some d := by
  show (ixN xs.length k).bind _ = _
  rw [ixN_nat (List.getElem?_eq_some_iff.mp h).1]; exact h
theorem sumL_lots : ∀ {L : List (List Int)} {acc : List Int}, acc.length + L.flatten.length ≤ LIM → sumL (acc.map .int) (L.map fun l => .lst (l.map .int)) = some ((acc ++ L.flatten).map .int)
  | [], acc, _ => by simp [sumL]
  | l :: L, acc, h => by
    rw [List.flatten_cons, List.length_append] at h
    rw [List.map_cons, sumL, List.length_map, List.length_map, if_pos (by omega), ← List.map_append, sumL_lots (by rw [List.length_append]; omega), List.flatten_cons, List.append_assoc]
theorem bi_sum2 {L : List (List Int)} (hL : L ≠ []) (h : L.flatten.length ≤ LIM) : biOp .sum2 [.lst (L.map fun l => .lst (l.map .int)), .lst []] = some (.own (L.flatten.map .int)) := by
  cases L with
  | nil => exact (hL rfl).elim
  | cons l L =>
    have := sumL_lots (L := l :: L) (acc := []) (by simpa using h)
    exact congrArg (Option.map W.own) this
theorem nodupI_of : ∀ {l : List Int}, l.Nodup → nodupI l = true
  | [], _ => rfl
  | x :: l, h => by
    obtain ⟨h1, h2⟩ := List.nodup_cons.mp h
    rw [nodupI, nodupI_of h2]
    simp [h1]
theorem bi_lenset {l : List Int} (h : l.Nodup) (hl : l.length ≤ 4000) : biOp .lenset [.lst (l.map .int)] = some (.val (.int l.length)) := by
  show (getsI _).bind _ = _
  rw [getsI_ints]
  show (if nodupI l && decide (l.length ≤ 4000) then _ else _) = _
  rw [nodupI_of h, decide_eq_true hl]; rfl
end ML
namespace ML
open MP
theorem enumD_map {α : Type} {f : α → D} : ∀ {l : List α} {k : Nat}, enumD k (l.map f) = (l.zipIdx k).map fun p => .tup [.int (p.2 : Int), f p.1]
  | [], _ => rfl
  | x :: l, k => by
    rw [List.map_cons, enumD, enumD_map, List.zipIdx_cons, List.map_cons]
@[simp] theorem it_enumT {α : Type} {f : α → D} {l : List α} : itOp .enum [.tup (l.map f)] = some (l.zipIdx.map fun p => .tup [.int (p.2 : Int), f p.1]) := by
  rw [← enumD_map]; rfl
@[simp] theorem it_enumL {α : Type} {f : α → D} {l : List α} : itOp .enum [.lst (l.map f)] = some (l.zipIdx.map fun p => .tup [.int (p.2 : Int), f p.1]) := by
  rw [← enumD_map]; rfl
theorem zipIdx_at {α : Type} {l : List α} {p : α × Nat} (h : p ∈ l.zipIdx) : l[p.2]? = some p.1 := by
  obtain ⟨x, i⟩ := p
  have := List.mem_zipIdx_iff_getElem?.mp h
  simpa using this
/-- the end of a loop's turn -/
def frK (N : Env → Prop) (Q : Fl → Env → Prop) (u : Env → Env) : Fl → Env → Prop
  | .next, r => N r
  | .brk, r => Q .next (u r)
  | .ret w, r => Q (.ret w) (u r)
@[simp] theorem frK_next {N : Env → Prop} {Q : Fl → Env → Prop} {u : Env → Env} {r : Env} : frK N Q u .next r = N r := rfl
@[simp] theorem frK_brk {N : Env → Prop} {Q : Fl → Env → Prop} {u : Env → Env} {r : Env} : frK N Q u .brk r = Q .next (u r) := rfl
@[simp] theorem frK_ret {N : Env → Prop} {Q : Fl → Env → Prop} {u : Env → Env} {w : W} {r : Env} : frK N Q u (.ret w) r = Q (.ret w) (u r) := rfl
def frS (C : CallF) (t : Tg) (b : S) (d : D) (r2 : Env) : R Fl := match asg t d r2 with
  | some r3 => ex C b r3
  | none => .no
theorem ex_for {C : CallF} {t : Tg} {k : Ik} {es : E} {b : S} {r : Env} : ex C (.for_ t k es b) r = (evs C es r).bind fun ws r1 => match (views r1 ws).bind (itOp k) with
    | some ds => (forL (frS C t b) ds (locks r1 ws)).unlock r1 ws
    | none => .no := by
  rw [ex]
  rfl
/-- a for by its invariant: what holds ahead of turn i -/
theorem Ok_for {C : CallF} {t : Tg} {k : Ik} {es : E} {b : S} {r : Env} {Q : Fl → Env → Prop} {q : Kt Q}
    (h : Ok (evs C es r) (fun ws r1 => ∃ its, (views r1 ws).bind (itOp k) = some its ∧ ∃ I : Nat → Env → Prop, I 0 (locks r1 ws) ∧
      (∀ i d rc, its[i]? = some d → I i rc → ∃ r3, asg t d rc = some r3 ∧ Ok (ex C b r3) (frK (I (i + 1)) Q fun r' => unlocks r1 r' ws) ()) ∧ ∀ rc, I its.length rc → Q .next (unlocks r1 rc ws)) ()) : Ok (ex C (.for_ t k es b) r) Q q := by
  obtain ⟨ws, r1, e, its, h1, I, h2, h3, h4⟩ := h.use
  rw [ex_for, e, R.bind_ok, h1]
  dsimp only
  have key : ∀ (m i : Nat) (rc : Env), its.length - i = m → i ≤ its.length → I i rc → ∃ f r', forL (frS C t b) (its.drop i) rc = .ok f r' ∧ frK (fun r => Q .next (unlocks r1 r ws)) Q (fun r' => unlocks r1 r' ws) f r' ∧ f ≠ .brk := fun m => by
    induction m with
    | zero =>
      intro i rc hm hi hI
      have : i = its.length := by omega
      subst this
      rw [List.drop_length, forL]
      exact ⟨_, _, rfl, h4 rc hI, fun z => nomatch z⟩
    | succ m ih =>
      intro i rc hm hi hI
      have hlt : i < its.length := by omega
      obtain ⟨r3, g1, g2⟩ := h3 i its[i] rc (List.getElem?_eq_getElem hlt) hI
      obtain ⟨f, r', g3, g4⟩ := g2.use
      rw [List.drop_eq_getElem_cons hlt, forL]
      unfold frS
      rw [g1]
      dsimp only
      rw [g3, R.bind_ok]
      cases f with
      | next => exact ih (i + 1) r' (by omega) hlt g4
      | brk => exact ⟨_, _, rfl, g4, fun z => nomatch z⟩
      | ret w => exact ⟨_, _, rfl, g4, fun z => nomatch z⟩
  obtain ⟨f, r', g1, g2, g3⟩ := key its.length 0 _ (Nat.sub_zero _) (Nat.zero_le _) h2
  rw [List.drop_zero] at g1
  rw [g1]
  cases f with
  | next => exact g2
  | brk => exact (g3 rfl).elim
  | ret w => exact g2
/-- a while by its invariant and measure -/
theorem Ok_wh {C : CallF} {c : E} {b : S} {r : Env} {Q : Fl → Env → Prop} {q : Kt Q} (I : Nat → Env → Prop) {m : Nat} (hm : m < WN) (h0 : I m r)
    (h : ∀ m r, I m r → Ok (ev C c r) (fun x r1 => Ok (asB x r1) (fun k r2 => (k = true → Ok (ex C b r2) (frK (fun r' => ∃ m', m' < m ∧ I m' r') Q fun r' => r') ()) ∧ (k = false → Q .next r2)) ()) ()) : Ok (ex C (.wh c b) r) Q q := by
  have key : ∀ (n m : Nat) (r : Env), m < n → I m r → ∃ f r', whL (test C c) (ex C b) n r = .ok f r' ∧ frK (fun r => Q .next r) Q (fun r' => r') f r' ∧ f ≠ .brk := fun n => by
    induction n with
    | zero => intro m r h; omega
    | succ n ih =>
      intro m r hlt hI
      obtain ⟨x, r1, g1, g2⟩ := (h m r hI).use
      obtain ⟨k, r2, g3, g4, g5⟩ := g2.use
      rw [whL]
      unfold test
      rw [g1, R.bind_ok, g3, R.bind_ok]
      cases k with
      | false => exact ⟨_, _, rfl, g5 rfl, fun z => nomatch z⟩
      | true =>
        obtain ⟨f, r3, k1, k2⟩ := (g4 rfl).use
        dsimp only
        rw [k1, R.bind_ok]
        cases f with
        | next =>
          obtain ⟨m', hm', hI'⟩ := k2
          exact ih m' r3 (by omega) hI'
        | brk => exact ⟨_, _, rfl, k2, fun z => nomatch z⟩
        | ret w => exact ⟨_, _, rfl, k2, fun z => nomatch z⟩
  obtain ⟨f, r', g1, g2, g3⟩ := key WN m r hm h0
  rw [ex, g1]
  cases f with
  | next => exact g2
  | brk => exact (g3 rfl).elim
  | ret w => exact g2
/-- a comprehension whose turns change the names -/
theorem Ok_lci {C : CallF} {t : Tg} {k : Ik} {es c x : E} {own : List Nat} {r : Env} {Q : W → Env → Prop} {q : Kt Q}
    (h : Ok (evs C es r) (fun ws r1 => ∃ its, (views r1 ws).bind (itOp k) = some its ∧ ∃ I : Nat → List D → Env → Prop, I 0 [] (wipes (locks r1 ws) own) ∧
      (∀ i d out rc, its[i]? = some d → I i out rc → Ok (stepC' C t c x own d rc) (fun o r' => I (i + 1) (out ++ o.toList) r') ()) ∧
      ∀ out rc, I its.length out rc → Q (.own out) (unlocks r1 (backs (locks r1 ws) rc own) ws)) ()) : Ok (ev C (.lc t k es c x own) r) Q q := by
  obtain ⟨ws, r1, e, its, h1, I, h2, h3, h4⟩ := h.use
  rw [ev_lc', e, R.bind_ok, h1]
  dsimp only
  have key : ∀ (m i : Nat) (out : List D) (rc : Env), its.length - i = m → i ≤ its.length → I i out rc → ∃ out' r', compL (stepC' C t c x own) (its.drop i) out rc = .ok out' r' ∧ I its.length out' r' := fun m => by
    induction m with
    | zero =>
      intro i out rc hm hi hI
      have : i = its.length := by omega
      subst this
      rw [List.drop_length, compL]
      exact ⟨_, _, rfl, hI⟩
    | succ m ih =>
      intro i out rc hm hi hI
      have hlt : i < its.length := by omega
      obtain ⟨o, r', g1, g2⟩ := (h3 i its[i] out rc (List.getElem?_eq_getElem hlt) hI).use
      rw [List.drop_eq_getElem_cons hlt, compL, g1, R.bind_ok]
      cases o with
      | some d => exact ih (i + 1) _ r' (by omega) hlt g2
      | none => exact ih (i + 1) _ r' (by omega) hlt (by simpa using g2)
  obtain ⟨out, r', g1, g2⟩ := key its.length 0 [] _ (Nat.sub_zero _) (Nat.zero_le _) h2
  rw [List.drop_zero] at g1
  rw [g1, R.bind_ok]
  simpa [R.unlock] using h4 out r' g2
end ML
namespace ML
open MP
section
variable {a b c d e x : D} {xs : List D}
@[simp] theorem sub_l0 : subOp (.lst (x :: xs)) (.int 0) = some x := sub_l (k := 0) rfl
@[simp] theorem sub_l1 : subOp (.lst (a :: x :: xs)) (.int 1) = some x := sub_l (k := 1) rfl
@[simp] theorem sub_l2 : subOp (.lst (a :: b :: x :: xs)) (.int 2) = some x := sub_l (k := 2) rfl
@[simp] theorem sub_l3 : subOp (.lst (a :: b :: c :: x :: xs)) (.int 3) = some x := sub_l (k := 3) rfl
@[simp] theorem sub_l4 : subOp (.lst (a :: b :: c :: d :: x :: xs)) (.int 4) = some x := sub_l (k := 4) rfl
@[simp] theorem sub_t2 : subOp (.tup (a :: b :: x :: xs)) (.int 2) = some x := sub_t (k := 2) rfl
@[simp] theorem sub_t3 : subOp (.tup (a :: b :: c :: x :: xs)) (.int 3) = some x := sub_t (k := 3) rfl
@[simp] theorem ix50 : ixN 5 0 = some 0 := by decide
@[simp] theorem ix51 : ixN 5 1 = some 1 := by decide
@[simp] theorem ix52 : ixN 5 2 = some 2 := by decide
@[simp] theorem ix53 : ixN 5 3 = some 3 := by decide
@[simp] theorem ix54 : ixN 5 4 = some 4 := by decide
end
@[simp] theorem Ok_ofOif {α : Type} {Q : α → Env → Prop} {t : Kt Q} {r : Env} {p : Prop} [Decidable p] {o : Option α} : Ok (R.ofO r (if p then o else none)) Q t = (p ∧ Ok (R.ofO r o) Q t) := by
  by_cases h : p
  · rw [if_pos h]; exact propext ⟨fun z => ⟨h, z⟩, fun z => z.2⟩
  · rw [if_neg h]; exact propext ⟨fun z => z.elim, fun z => h z.1⟩
def fstOf : S → S
  | .seq a _ => a
  | s => s
def restOf : S → S
  | .seq _ b => b
  | s => s
theorem mod_in {i k : Int} (h : 0 < k) : 0 ≤ i % k ∧ i % k < k := ⟨Int.emod_nonneg _ (by omega), Int.emod_lt_of_pos _ h⟩
end ML
namespace ML
open MP
theorem p18 : binOp .pow (.int 10) (.int 18) = some (.val (.int 1000000000000000000)) := by
  show (if (0 : Int) ≤ 18 ∧ (18 : Int) ≤ 1000 ∧ (10 : Int).natAbs < 18446744073709551616 then some (W.val (D.int (10 ^ (18 : Int).toNat))) else none) = _
  rw [if_pos (by decide)]
  rfl
end ML
namespace ML
open MP
section
variable {Q : Unit → Env → Prop} {t : Kt Q} {r : Env}
@[simp] theorem Ok_pnil : Ok (putWs .nil [] r) Q t = Q () r := by rw [putWs]; rfl
@[simp] theorem Ok_pcons {i : Nat} {ts : Tg} {w : W} {ws : List W} : Ok (putWs (.cons (.nm i) ts) (w :: ws) r) Q t = ((slotsOf ws).contains i = false ∧ Ok (putW r i w) (fun _ r1 => Ok (putWs ts ws r1) Q ()) ()) := by
  rw [putWs]
  by_cases h : (slotsOf ws).contains i = true
  · rw [if_pos h]
    exact propext ⟨fun z => z.elim, fun z => by rw [h] at z; cases z.1⟩
  · rw [if_neg h]
    refine propext ⟨fun z => ⟨by simpa using h, ?_⟩, fun z => ?_⟩
    · exact (Ok_bind _ _).mp z
    · exact (Ok_bind _ _).mpr z.2
end
theorem erase_map {α β : Type} {f : α → β} : ∀ {l : List α} {j : Nat}, (l.map f).eraseIdx j = (l.eraseIdx j).map f
  | [], _ => rfl
  | x :: l, 0 => rfl
  | x :: l, j + 1 => by
    rw [List.map_cons, List.eraseIdx_cons_succ, List.eraseIdx_cons_succ, List.map_cons, erase_map]
end ML

set_option maxHeartbeats 1000000
namespace ML
open MP
abbrev lotD (l : List Int) : D := .tup (l.map .int)
abbrev ladD (L : List (List Int)) : D := .tup (L.map lotD)
abbrev ladsD (Ls : List (List (List Int))) : D := .tup (Ls.map ladD)
@[simp] theorem e_int (n : Nat) (i : Int) : callF prog (n + 1) 0 [.val (.int i)] = .ok (.val (.bl true)) [.val (.int i)] := eq_of fun Q t h => by
  refine Ok_run rfl rfl ?_
  simpa [f_is_integer, b_is_integer] using h
@[simp] theorem e_within (n : Nat) (i lo hi : Int) : callF prog (n + 2) 1 [.val (.int i), .val (.int lo), .val (.int hi)] = .ok (.val (.bl (decide (lo ≤ i) && decide (i ≤ hi)))) [.val (.int i), .val (.int lo), .val (.int hi)] := eq_of fun Q t h => by
  refine Ok_run rfl rfl ?_
  simp [f_is_within, b_is_within]
  by_cases h1 : lo ≤ i
  · simpa [h1] using h
  · simpa [h1] using h
@[simp] theorem e_tuple (n : Nat) (xs : List D) (lo hi : Int) : callF prog (n + 1) 2 [.val (.tup xs), .val (.int lo), .val (.int hi)] = .ok (.val (.bl (decide (lo ≤ xs.length) && decide ((xs.length : Int) ≤ hi)))) [.val (.tup xs), .val (.int lo), .val (.int hi)] := eq_of fun Q t h => by
  refine Ok_run rfl rfl ?_
  simp [f_is_tuple, b_is_tuple]
  by_cases h1 : lo ≤ xs.length
  · simpa [h1] using h
  · simpa [h1] using h
/-- ascending, within -/
def LotOk (m : Int) (l : List Int) : Prop := (∀ i ∈ l, 0 ≤ i ∧ i < m) ∧ l.Pairwise (· < ·)
theorem e_lot (n : Nat) (m : Int) (l : List Int) (h : LotOk m l) : callF prog (n + 3) 3 [.val (lotD l), .val (.int m)] = .ok (.val (.bl true)) [.val (lotD l), .val (.int m)] := eq_of fun Q t q => by
  refine Ok_run rfl rfl ?_
  simp [f_is_lot, b_is_lot]
  refine Ok_lcm l .int (fun _ => true) (fun i => .bl (decide (0 ≤ i) && decide (i ≤ m - 1))) ?_
  simp
  have h1 : (l.all fun x => decide (0 ≤ x) && decide (x ≤ m - 1)) = true := by
    rw [List.all_eq_true]
    intro x hx
    have := h.1 x hx
    simp
    omega
  rw [h1]
  simp
  refine Ok_lcm (List.zip l (l.drop 1)) (fun p => .tup [.int p.1, .int p.2]) (fun _ => true) (fun p => .bl (decide (p.1 < p.2))) ?_
  simp [cut_map]
  have h2 : ((List.zip l l.tail).all fun p => decide (p.1 < p.2)) = true := by
    rw [List.all_eq_true]
    intro p hp
    rw [decide_eq_true_eq]
    exact pw_zip h.2 p (by rw [List.drop_one]; exact hp)
  rw [h2]
  exact ⟨by rw [← List.map_tail]; exact it_zipT, q⟩
@[simp] theorem e_size (n : Nat) (m : Int) : callF prog (n + 3) 4 [.val (.int m)] = .ok (.val (.bl (decide (1 ≤ m) && decide (m ≤ 6)))) [.val (.int m)] := eq_of fun Q t h => by
  refine Ok_run rfl rfl ?_
  simpa [f_is_size, b_is_size] using h
theorem e_csize (n : Nat) (m : Int) (h1 : 1 ≤ m) (h6 : m ≤ 6) : callF prog (n + 4) 5 [.val (.int m)] = .ok (.val .non) [.val (.int m)] := eq_of fun Q t h => by
  refine Ok_run rfl rfl ?_
  simp [f_check_size, b_check_size, h1, h6]
  exact h
/-- a ladder: lots of 0..m-1, none empty, the first is a alone, nothing twice -/
structure LadOk (m a : Int) (L : List (List Int)) : Prop where
  pos : L ≠ []
  many : (L.length : Int) ≤ m
  lot : ∀ l ∈ L, LotOk m l ∧ l ≠ []
  one : ∃ r, L = [a] :: r
  nd : L.flatten.Nodup
  few : L.flatten.length ≤ 1000
theorem e_ladder (n : Nat) (m a : Int) (L : List (List Int)) (h : LadOk m a L) : callF prog (n + 4) 6 [.val (.int m), .val (.int a), .val (ladD L)] = .ok (.val (.bl true)) [.val (.int m), .val (.int a), .val (ladD L)] := eq_of fun Q t q => by
  refine Ok_run rfl rfl ?_
  have hp : 1 ≤ (L.length : Int) := by
    have := List.length_pos_iff.mpr h.pos
    omega
  simp [f_is_ladder, b_is_ladder, hp, h.many]
  refine Ok_lcm L lotD (fun _ => true) (fun l => .bl true) ?_
  simp
  refine ⟨fun l hl Q' hq => ?_, ?_⟩
  · obtain ⟨h1, h2⟩ := h.lot l hl
    have := List.length_pos_iff.mpr h2
    simpa [e_lot n m l h1, this] using hq
  refine Ok_lcm L lotD (fun _ => true) (fun l => .lst (l.map .int)) ?_
  simp
  have hl : L.flatten.length ≤ 4000 := Nat.le_trans h.few (by decide)
  have s0 : subOp (ladD L) (.int 0) = some (lotD [a]) := by
    obtain ⟨L', rfl⟩ := h.one
    simp [ladD]
  have c0 : cmpOp .eq (lotD [a]) (.tup [.int a]) = some true := by
    have := c_eqT (l := [a]) (m := [a])
    simpa [lotD] using this
  have s2 := bi_sum2 h.pos (Nat.le_trans h.few (by decide))
  have nd := h.nd
  generalize L.flatten = F at *
  rw [s2]
  simp [bi_lenset nd hl, s0, c0]
  exact q
theorem e_ladders (n : Nat) (m : Nat) (Ls : List (List (List Int))) (h1 : 1 ≤ m) (h6 : m ≤ 6) (hl : Ls.length = m) (h : ∀ (a : Nat) (L : List (List Int)), Ls[a]? = some L → LadOk m a L) :
    callF prog (n + 5) 7 [.val (.int m), .val (ladsD Ls)] = .ok (.val .non) [.val (.int m), .val (ladsD Ls)] := eq_of fun Q t q => by
  refine Ok_run rfl rfl ?_
  simp [f_check_ladders, b_check_ladders, e_csize (n := n) (m := (m : Int)) (by omega) (by omega), hl]
  refine Ok_lcm Ls.zipIdx (fun p => .tup [.int p.2, ladD p.1]) (fun _ => true) (fun _ => .bl true) ?_
  simp
  refine ⟨fun L a ha Q' hq => ?_, ?_⟩
  · have := h a L (zipIdx_at ha)
    simpa [e_ladder n m a L this] using hq
  · exact q
theorem e_lots (n : Nat) (m : Int) (ls : List (List Int)) (h : ∀ l ∈ ls, LotOk m l) : callF prog (n + 4) 8 [.val (.int m), .val (.lst (ls.map lotD))] = .ok (.val .non) [.val (.int m), .val (.lst (ls.map lotD))] := eq_of fun Q t q => by
  refine Ok_run rfl rfl ?_
  simp [f_check_lots, b_check_lots]
  refine Ok_for ?_
  simp
  refine ⟨fun _ rc => ∃ s, rc = [.val (.int m), .val (.lst (ls.map lotD)), s] ∧ held s = false, ⟨_, rfl, rfl⟩, ?_, fun rc hI => ?_⟩
  · rintro i d rc l' hl' rfl ⟨s, rfl, hs⟩
    refine ⟨[.val (.int m), .val (.lst (ls.map lotD)), .val (lotD l')], by simp [hs], ?_⟩
    simp [e_lot n m l' (h l' (List.mem_of_getElem? hl'))]
  · obtain ⟨s, rfl, hs⟩ := hI
    exact q
/-- the first step with some of the lot -/
def nearL (L : List (List Int)) (lot : List Int) : List Int := match L with
  | [] => []
  | one :: L => if (one.filter lot.contains).length > 0 then one.filter lot.contains else nearL L lot
theorem e_near (n : Nat) (L : List (List Int)) (lot : List Int) : callF prog (n + 1) 9 [.val (ladD L), .val (lotD lot)] = .ok (.val (lotD (nearL L lot))) [.val (ladD L), .val (lotD lot)] := eq_of fun Q t q => by
  refine Ok_run rfl rfl ?_
  simp [f_nearest_of, b_nearest_of]
  refine Ok_for ?_
  simp
  refine ⟨fun i rc => ∃ s3 s4 s5, rc = [.val (ladD L), .val (lotD lot), s3, s4, s5] ∧ held s3 = false ∧ held s4 = false ∧ s5 = .no ∧ nearL (L.drop i) lot = nearL L lot, ⟨_, _, _, rfl, rfl, rfl, rfl, rfl⟩, ?_, fun rc hI => ?_⟩
  · rintro i d rc l' hl' rfl ⟨s3, s4, s5, rfl, hs, hs4, rfl, hn⟩
    refine ⟨[.val (ladD L), .val (lotD lot), .val (lotD l'), s4, .no], by simp [hs], ?_⟩
    simp
    refine Ok_lcm l' .int lot.contains .int ?_
    simp [hs4]
    refine ⟨fun x hx Q' hq => ?_, ?_⟩
    · by_cases hm : x ∈ lot
      · simpa [hm] using hq
      · simpa [hm] using hq
    · have hd : L.drop i = l' :: L.drop (i + 1) := by
        have hlt := (List.getElem?_eq_some_iff.mp hl').1
        rw [List.drop_eq_getElem_cons hlt]
        congr 1
        rw [List.getElem?_eq_getElem hlt] at hl'
        exact Option.some.inj hl'
      rw [hd, nearL] at hn
      have k : (l'.filter lot.contains).length > 0 ↔ ∃ x, x ∈ l' ∧ x ∈ lot := by simp
      by_cases hp : (l'.filter lot.contains).length > 0
      · rw [if_pos hp] at hn
        rw [← hn] at q
        rw [decide_eq_true (k.mp hp)]
        simp
        exact q
      · rw [if_neg hp] at hn
        rw [decide_eq_false fun z => hp (k.mpr z)]
        simp
        exact ⟨_, _, _, ⟨rfl, rfl, rfl⟩, rfl, rfl, rfl, hn⟩
  · obtain ⟨s3, s4, s5, rfl, hs, hs4, rfl, hn⟩ := hI
    rw [List.drop_length] at hn
    rw [← hn] at q
    simpa [nearL, lotD] using q
theorem e_nearest (n m : Nat) (Ls : List (List (List Int))) (a : Nat) (L : List (List Int)) (lot : List Int) (h1 : 1 ≤ m) (h6 : m ≤ 6) (hl : Ls.length = m) (h : ∀ (a : Nat) (L : List (List Int)), Ls[a]? = some L → LadOk m a L) (hL : Ls[a]? = some L) (hlot : LotOk m lot) :
    callF prog (n + 6) 10 [.val (.int m), .val (ladsD Ls), .val (.int a), .val (lotD lot)] = .ok (.val (lotD (nearL L lot))) [.val (.int m), .val (ladsD Ls), .val (.int a), .val (lotD lot)] := eq_of fun Q t q => by
  refine Ok_run rfl rfl ?_
  have ha : a < m := by rw [← hl]; exact (List.getElem?_eq_some_iff.mp hL).1
  have el := e_lots (n + 1) m [lot] (by simpa using hlot)
  simp at el
  have c1 : (0 : Int) ≤ a := by omega
  have c2 : (a : Int) ≤ m - 1 := by omega
  have s0 : subOp (ladsD Ls) (.int a) = some (ladD L) := sub_t (by rw [List.getElem?_map, hL]; rfl)
  simp [f_nearest, b_nearest, e_ladders n m Ls h1 h6 hl h, c1, c2, el, s0, e_near]
  exact q
/-- where all of the nearest are in the other -/
def wouldL (Ls : List (List (List Int))) (one other : List Int) : List Nat := (List.range Ls.length).filter fun a => (nearL (Ls.getD a []) one).all other.contains
def mightL (Ls : List (List (List Int))) (one other : List Int) : List Nat := (List.range Ls.length).filter fun a => (nearL (Ls.getD a []) one).any other.contains
abbrev natsD (l : List Nat) : D := .tup (l.map fun (k : Nat) => .int (k : Int))
theorem e_would (n m : Nat) (Ls : List (List (List Int))) (one other : List Int) (h1 : 1 ≤ m) (h6 : m ≤ 6) (hl : Ls.length = m) (h : ∀ (a : Nat) (L : List (List Int)), Ls[a]? = some L → LadOk m a L) (ho : LotOk m one) (ho2 : LotOk m other) :
    callF prog (n + 6) 11 [.val (.int m), .val (ladsD Ls), .val (lotD one), .val (lotD other)] = .ok (.val (natsD (wouldL Ls one other))) [.val (.int m), .val (ladsD Ls), .val (lotD one), .val (lotD other)] := eq_of fun Q t q => by
  refine Ok_run rfl rfl ?_
  have el := e_lots (n + 1) m [one, other] (by simpa using ⟨ho, ho2⟩)
  simp at el
  simp [f_would, b_would, e_ladders n m Ls h1 h6 hl h, el]
  refine Ok_lcm (List.range m) (fun (k : Nat) => .int (k : Int)) (fun a => (nearL (Ls.getD a []) one).all other.contains) (fun (k : Nat) => .int (k : Int)) ?_
  simp [it_rng1 (show m ≤ 1000 by omega)]
  refine ⟨fun a ha Q' hq => ?_, ?_⟩
  · have hL : Ls[a]? = some (Ls.getD a []) := by rw [List.getD_eq_getElem?_getD, List.getElem?_eq_getElem (by omega)]; rfl
    have s0 : subOp (ladsD Ls) (.int a) = some (ladD (Ls.getD a [])) := sub_t (by rw [List.getElem?_map, hL]; rfl)
    refine Ok_lcm (nearL (Ls.getD a []) one) .int (fun _ => true) (fun b => .bl (other.contains b)) ?_
    simp [s0, e_near]
    by_cases hm : ∀ x, x ∈ nearL (Ls[a]?.getD []) one → x ∈ other
    · rw [show ((nearL (Ls[a]?.getD []) one).all fun x => decide (x ∈ other)) = true by simpa using hm]
      rw [if_pos hm] at hq
      simpa using hq
    · rw [show ((nearL (Ls[a]?.getD []) one).all fun x => decide (x ∈ other)) = false by simpa using hm]
      rw [if_neg hm] at hq
      simpa using hq
  · rw [wouldL, hl] at q
    simpa using q
theorem e_might (n m : Nat) (Ls : List (List (List Int))) (one other : List Int) (h1 : 1 ≤ m) (h6 : m ≤ 6) (hl : Ls.length = m) (h : ∀ (a : Nat) (L : List (List Int)), Ls[a]? = some L → LadOk m a L) (ho : LotOk m one) (ho2 : LotOk m other) :
    callF prog (n + 6) 12 [.val (.int m), .val (ladsD Ls), .val (lotD one), .val (lotD other)] = .ok (.val (natsD (mightL Ls one other))) [.val (.int m), .val (ladsD Ls), .val (lotD one), .val (lotD other)] := eq_of fun Q t q => by
  refine Ok_run rfl rfl ?_
  have el := e_lots (n + 1) m [one, other] (by simpa using ⟨ho, ho2⟩)
  simp at el
  simp [f_might, b_might, e_ladders n m Ls h1 h6 hl h, el]
  refine Ok_lcm (List.range m) (fun (k : Nat) => .int (k : Int)) (fun a => (nearL (Ls.getD a []) one).any other.contains) (fun (k : Nat) => .int (k : Int)) ?_
  simp [it_rng1 (show m ≤ 1000 by omega)]
  refine ⟨fun a ha Q' hq => ?_, ?_⟩
  · have hL : Ls[a]? = some (Ls.getD a []) := by rw [List.getD_eq_getElem?_getD, List.getElem?_eq_getElem (by omega)]; rfl
    have s0 : subOp (ladsD Ls) (.int a) = some (ladD (Ls.getD a [])) := sub_t (by rw [List.getElem?_map, hL]; rfl)
    refine Ok_lcm (nearL (Ls.getD a []) one) .int (fun _ => true) (fun b => .bl (other.contains b)) ?_
    simp [s0, e_near]
    by_cases hm : ∃ x, x ∈ nearL (Ls[a]?.getD []) one ∧ x ∈ other
    · rw [show ((nearL (Ls[a]?.getD []) one).any fun x => decide (x ∈ other)) = true by simpa using hm]
      rw [if_pos hm] at hq
      simpa using hq
    · rw [show ((nearL (Ls[a]?.getD []) one).any fun x => decide (x ∈ other)) = false by simpa using hm]
      rw [if_neg hm] at hq
      simpa using hq
  · rw [mightL, hl] at q
    simpa using q
def isWhole (m : Nat) (Ls : List (List (List Int))) : Bool := Ls.all fun L => decide (((L.map fun l => (l.length : Int)).sum) = m)
def isAlone (Ls : List (List (List Int))) : Bool := Ls.all fun L => L.all fun l => decide ((l.length : Int) = 1)
def wordsL (m : Nat) (Ls : List (List (List Int))) : List D := (if isWhole m Ls then [.str [119, 104, 111, 108, 101]] else []) ++ (if isAlone Ls then [.str [97, 108, 111, 110, 101]] else [])
theorem e_laws (n m : Nat) (Ls : List (List (List Int))) (h1 : 1 ≤ m) (h6 : m ≤ 6) (hl : Ls.length = m) (h : ∀ (a : Nat) (L : List (List Int)), Ls[a]? = some L → LadOk m a L) :
    callF prog (n + 6) 13 [.val (.int m), .val (ladsD Ls)] = .ok (.val (.tup (wordsL m Ls))) [.val (.int m), .val (ladsD Ls)] := eq_of fun Q t q => by
  refine Ok_run rfl rfl ?_
  simp [f_laws_of, b_laws_of, e_ladders n m Ls h1 h6 hl h]
  refine Ok_lcm Ls ladD (fun _ => true) (fun L => .bl (decide (((L.map fun l => (l.length : Int)).sum) = m))) ?_
  simp
  refine ⟨fun L hL Q' hq => ?_, ?_⟩
  · refine Ok_lcm L lotD (fun _ => true) (fun l => .int l.length) ?_
    simpa using hq
  refine Ok_lcm Ls ladD (fun _ => true) (fun L => .bl (L.all fun l => decide ((l.length : Int) = 1))) ?_
  simp
  refine ⟨fun L hL Q' hq => ?_, ?_⟩
  · refine Ok_lcm L lotD (fun _ => true) (fun l => .bl (decide ((l.length : Int) = 1))) ?_
    simp
    exact hq
  have w1 : (Ls.all fun x => decide ((List.map (fun l => (l.length : Int)) x).sum = m)) = isWhole m Ls := rfl
  have w2 : (Ls.all fun x => x.all fun l => decide ((l.length : Int) = 1)) = isAlone Ls := rfl
  rw [w1, w2]
  refine Ok_lcm [(([119, 104, 111, 108, 101] : List Nat), isWhole m Ls), ([97, 108, 111, 110, 101], isAlone Ls)] (fun p => .tup [.str p.1, .bl p.2]) (fun p => p.2) (fun p => .str p.1) ?_
  simp
  refine ⟨⟨fun Q' hq => ?_, fun Q' hq => ?_⟩, ?_⟩
  · cases hb : isWhole m Ls <;> simpa [hb] using hq
  · cases hb : isAlone Ls <;> simpa [hb] using hq
  · unfold wordsL at q
    cases hb : isWhole m Ls <;> cases hb2 : isAlone Ls <;> simpa [hb, hb2] using q

/-! ### the drawing hand -/
def handL (cs : List Int) (p d m c : Int) : List D := [.lst (cs.map .int), .int p, .int d, .int m, .int c]
def HandOk (xs : List D) : Prop := ∃ cs p d m c, xs = handL cs p d m c ∧ 0 ≤ p
theorem e_draw2 (C : CallF) (cs : List Int) (p d m c k : Int) (s2 : Sl) (hp : 0 ≤ p) (hk : 0 < k) (hk2 : k < 1073741824) {Q : W → Env → Prop} {xs : List D} {t : Kt (finS [.acc .fix xs, .val (.int k)] Q)}
    (q : ∀ (r : Int) (ys : List D), HandOk ys → 0 ≤ r → r < k → Q (.val (.int r)) [.acc .fix ys, .val (.int k)]) : Ok (ex C (restOf b__law_draw) [.acc .fix (handL cs p d m c), .val (.int k), s2, .no, .no]) (finS [.acc .fix xs, .val (.int k)] Q) t := by
  simp [restOf, b__law_draw, handL]
  by_cases hd : 0 < d
  · simp [hd, hk, hk2]
    obtain ⟨m1, m2⟩ := mod_in (i := d) hk
    exact q _ _ ⟨cs, p, d / k, m, c, rfl, hp⟩ m1 m2
  · simp [hd, hk]
    have big : ∀ i : Int, 0 ≤ i → i < 2147483647 → (-18446744073709551616 < i ∧ i < 18446744073709551616) := fun i h1 h2 => by omega
    exact ⟨.inl (big _ (mod_in (by decide)).1 (mod_in (by decide)).2), .inl (big _ (mod_in (by decide)).1 (mod_in (by decide)).2), q _ _ ⟨cs, p, d, m, c + 1, rfl, hp⟩ (mod_in hk).1 (mod_in hk).2⟩
theorem e_draw (n : Nat) (xs : List D) (k : Int) (hx : HandOk xs) (hk : 0 < k) (hk2 : k < 1073741824) {Q : W → Env → Prop} {t : Kt Q}
    (q : ∀ (r : Int) (ys : List D), HandOk ys → 0 ≤ r → r < k → Q (.val (.int r)) [.acc .fix ys, .val (.int k)]) : Ok (callF prog (n + 1) 15 [.acc .fix xs, .val (.int k)]) Q t := by
  refine Ok_run rfl rfl ?_
  obtain ⟨cs, p, d, m, c, rfl, hp⟩ := hx
  show Ok (ex (callF prog n) (.seq (fstOf b__law_draw) (restOf b__law_draw)) _) _ _
  have h2 := fun d' m' p' hp' s2 => e_draw2 (callF prog n) cs p' d' m' c k s2 hp' hk hk2 (xs := handL cs p d m c) (t := ()) q
  generalize restOf b__law_draw = R at *
  simp [fstOf, b__law_draw, handL, f__law_draw]
  by_cases hd : d = 0
  · by_cases hp2 : p < cs.length
    · have s0 : subOp (.lst (cs.map .int)) (.int p) = some (.int cs[p.toNat]) := by
        have := sub_l (xs := cs.map .int) (k := p.toNat) (d := .int cs[p.toNat]) (by rw [List.getElem?_map, List.getElem?_eq_getElem (by omega)]; rfl)
        rwa [Int.toNat_of_nonneg hp] at this
      simp [hd, hp2, s0]
      by_cases hc : 1000000000000000000 ≤ cs[p.toNat]
      · simp [hc]
        exact h2 _ _ _ (by omega) _
      · simp [hc]
        have := h2 d ((m * 69621 + cs[p.toNat] * 16 + 29) % 2147483629) (p + 1) (by omega) (.val (.int cs[p.toNat]))
        rwa [hd] at this
    · simp [hd, hp2]
      exact h2 _ _ _ hp _
  · simp [hd]
    exact h2 _ _ _ hp _
theorem e_hand (n : Nat) (ns : List Int) {Q : W → Env → Prop} {t : Kt Q} (q : ∀ ys, HandOk ys → Q (.own ys) [.val (.scr ns)]) : Ok (callF prog (n + 1) 14 [.val (.scr ns)]) Q t := by
  refine Ok_run rfl rfl ?_
  simp [f__law_hand, b__law_hand]
  refine Ok_lcm (cut ns none (some 63)) .int (fun _ => true) (fun i => .int (if i < 0 then -i else i)) ?_
  simp
  refine q _ ⟨(cut ns none (some 63)).map fun i => if i < 0 then -i else i, 0, 0, 7 + ((cut ns none (some 63)).length : Int), 0, ?_, by decide⟩
  simp [handL]
theorem LotOk.nil {m : Int} : LotOk m [] := ⟨fun _ h => (by cases h), List.Pairwise.nil⟩
def LotI (m : Nat) (i : Nat) (out : List D) (rc : Env) : Prop := ∃ (l : List Int) (ys : List D), out = l.map .int ∧ HandOk ys ∧ LotOk i l ∧ rc = [.acc .fix ys, .val (.int m), .no]
/-- a drawn lot -/
theorem e_lotdraw (n : Nat) (xs : List D) (m : Nat) (hx : HandOk xs) (hm : m ≤ 6) {Q : W → Env → Prop} {t : Kt Q}
    (q : ∀ (l : List Int) (ys : List D), HandOk ys → LotOk m l → Q (.val (lotD l)) [.acc .fix ys, .val (.int m)]) : Ok (callF prog (n + 2) 16 [.acc .fix xs, .val (.int m)]) Q t := by
  refine Ok_run rfl rfl ?_
  simp [f__law_lot, b__law_lot]
  refine Ok_lci ?_
  simp [it_rng1 (show m ≤ 1000 by omega)]
  refine ⟨LotI m, ⟨[], xs, rfl, hx, .nil, rfl⟩, ?_, ?_⟩
  · rintro i d out rc x hx' rfl ⟨l, ys, rfl, hy, hl, rfl⟩
    have hi : i < m ∧ x = i := by
      obtain ⟨h1, h2⟩ := List.getElem?_eq_some_iff.mp hx'
      rw [List.length_range] at h1
      rw [List.getElem_range] at h2
      exact ⟨h1, h2.symm⟩
    obtain ⟨hi, rfl⟩ := hi
    simp
    refine e_draw n ys 2 hy (by decide) (by decide) fun r zs hz h0 h1 => ?_
    simp
    have up : LotOk ((x : Int) + 1) l := ⟨fun y hy => by have := hl.1 y hy; omega, hl.2⟩
    by_cases hr : r = 0
    · simp [hr]
      refine ⟨l ++ [(x : Int)], zs, by simp, hz, ⟨fun y hy => ?_, ?_⟩, rfl⟩
      · rcases List.mem_append.mp hy with h | h
        · exact up.1 y h
        · rw [List.mem_singleton] at h; omega
      · rw [List.pairwise_append]
        refine ⟨hl.2, List.pairwise_singleton _ _, fun a ha b hb => ?_⟩
        rw [List.mem_singleton] at hb
        have := hl.1 a ha
        omega
    · simp [hr]
      exact ⟨l, zs, rfl, hz, up, rfl⟩
  · rintro out rc ⟨l, ys, rfl, hy, hl, rfl⟩
    simp
    exact q l ys hy (by simpa using hl)
end ML

set_option maxHeartbeats 1000000
namespace ML
open MP
/-- in the inner loop: left, lot, found; U all there is -/
def Pool (U left lot : List Int) (found : List (List Int)) : Prop := (left ++ (lot ++ found.flatten)).Perm U
def InI (U : List Int) (m a kind many : Int) (k : Nat) (found : List (List Int)) (i : Nat) (rc : Env) : Prop := ∃ (left lot : List Int) (ys : List D) (s9 : Sl), HandOk ys ∧ Pool U left lot found ∧ left.length + i = k ∧ lot.length = i ∧ held s9 = false ∧
  rc = [.acc .fix ys, .val (.int m), .val (.int a), .val (.int kind), .acc .free (left.map .int), .acc .free (found.map lotD), .no, .val (.int many), .acc .free (lot.map .int), s9]
def OutI (U : List Int) (m a kind : Int) (k : Nat) (rc : Env) : Prop := ∃ (left : List Int) (found : List (List Int)) (ys : List D) (s7 s8 s9 : Sl), HandOk ys ∧ Pool U left [] found ∧ left.length = k ∧ (∀ l ∈ found, l ≠ [] ∧ l.Pairwise (· < ·)) ∧ (∃ r, found = [a] :: r) ∧
  held s7 = false ∧ held s8 = false ∧ held s9 = false ∧
  rc = [.acc .fix ys, .val (.int m), .val (.int a), .val (.int kind), .acc .free (left.map .int), .acc .free (found.map lotD), .no, s7, s8, s9]
theorem erase_perm : ∀ {l : List Int} {j : Nat} {x : Int}, l[j]? = some x → (x :: l.eraseIdx j).Perm l
  | [], _, _, h => by simp at h
  | y :: l, 0, x, h => by simp at h; subst h; exact List.Perm.refl _
  | y :: l, j + 1, x, h => by
    have ih := erase_perm (l := l) (j := j) (x := x) (by simpa using h)
    rw [List.eraseIdx_cons_succ]
    exact (List.Perm.swap _ _ _).trans (ih.cons y)
theorem Pool.pop {U left lot : List Int} {found : List (List Int)} {j : Nat} {x : Int} (h : Pool U left lot found) (e : left[j]? = some x) : Pool U (left.eraseIdx j) (lot ++ [x]) found := by
  refine List.Perm.trans ?_ h
  have p := erase_perm e
  have : (left.eraseIdx j ++ (lot ++ [x] ++ found.flatten)).Perm (x :: left.eraseIdx j ++ (lot ++ found.flatten)) := by
    rw [List.append_assoc, List.singleton_append, List.cons_append]
    have q : (left.eraseIdx j ++ (lot ++ x :: found.flatten)).Perm (left.eraseIdx j ++ (x :: (lot ++ found.flatten))) := (List.perm_middle).append_left _
    exact q.trans List.perm_middle
  exact this.trans (p.append_right _)
theorem Pool.sort {U left lot : List Int} {found : List (List Int)} (h : Pool U left lot found) : Pool U left [] (found ++ [sortI lot]) := by
  refine List.Perm.trans ?_ h
  unfold Pool at *
  rw [List.nil_append, List.flatten_append]
  simp only [List.flatten_cons, List.flatten_nil, List.append_nil]
  refine List.Perm.append_left _ ?_
  exact List.perm_append_comm.trans ((sortI_perm lot).append_right _)
theorem Pool.nd {U left lot : List Int} {found : List (List Int)} (h : Pool U left lot found) (n : U.Nodup) : lot.Nodup := by
  have := (h.nodup_iff).mpr n
  exact (List.nodup_append.mp (List.nodup_append.mp this).2.1).1
theorem sort_lt {l : List Int} (n : l.Nodup) : (sortI l).Pairwise (· < ·) := by
  have h1 := sortI_sorted l
  have h2 : (sortI l).Nodup := ((sortI_perm l).nodup_iff).mpr n
  have h3 := List.Pairwise.and h1 h2
  exact h3.imp fun ⟨a, b⟩ => by omega
/-- the body of the while: the inner for -/
theorem e_inner (n : Nat) (U : List Int) (m a kind many : Int) (k : Nat) (found : List (List Int)) (hm : many.toNat ≤ k) (hk : k ≤ 1000) (hm0 : 0 ≤ many) (b : S) (hb : b = .seq (.expr (.app 8 (.tk (.popAt 4 (.call 15 (.cons (.var 0) (.cons (.tk (.bi .len (.cons (.var 4) .nil))) .nil))))))) .skip) {rc : Env} (h : InI U m a kind many k found 0 rc)
    {Q : Fl → Env → Prop} {t : Kt Q} (q : ∀ rc, InI U m a kind many k found many.toNat rc → Q .next rc) : Ok (ex (callF prog (n + 1)) (.for_ (.nm 9) .rng1 (.cons (.var 7) .nil) b) rc) Q t := by
  subst hb
  refine Ok_for ?_
  obtain ⟨left, lot, ys, s9, hy, hp, hl, hlot, hs, rfl⟩ := h
  have it := it_rng1 (show many.toNat ≤ 1000 by omega)
  rw [Int.toNat_of_nonneg hm0] at it
  simp [it]
  refine ⟨InI U m a kind many k found, ⟨left, lot, ys, s9, hy, hp, hl, hlot, hs, rfl⟩, ?_, q⟩
  rintro i d rc x hx rfl ⟨left, lot, ys, s9, hy, hp, hl, hlot, hs, rfl⟩
  have hi : i < many.toNat := by
    have := (List.getElem?_eq_some_iff.mp hx).1
    rwa [List.length_range] at this
  have hpos : 0 < left.length := by omega
  refine ⟨[.acc .fix ys, .val (.int m), .val (.int a), .val (.int kind), .acc .free (left.map .int), .acc .free (found.map lotD), .no, .val (.int many), .acc .free (lot.map .int), .val (.int x)], by simp [hs], ?_⟩
  simp
  refine e_draw n ys left.length hy (by omega) (by omega) fun r zs hz h0 h1 => ?_
  have hj : r.toNat < left.length := by omega
  have ix : ixN left.length r = some r.toNat := by
    have := ixN_nat hj
    rwa [Int.toNat_of_nonneg h0] at this
  have gx : left[r.toNat]? = some left[r.toNat] := List.getElem?_eq_getElem hj
  have lim : lot.length < LIM := by show lot.length < 1048576; omega
  simp [ix, gx, lim]
  refine ⟨left.eraseIdx r.toNat, lot ++ [left[r.toNat]], zs, .val (.int x), hz, hp.pop gx, ?_, by simp [hlot], rfl, ?_⟩
  · rw [List.length_eraseIdx, if_pos hj]; omega
  · have e1 : (List.map D.int left).eraseIdx r.toNat = (left.eraseIdx r.toNat).map D.int := erase_map
    simp [e1]
/-- U of a ladder -/
def allOf (m a : Nat) : List Int := ((List.range m).filter fun b => b != a).map (fun (k : Nat) => (k : Int)) ++ [(a : Int)]
theorem allOf_mem {m a : Nat} (ha : a < m) {x : Int} (h : x ∈ allOf m a) : 0 ≤ x ∧ x < m := by
  unfold allOf at h
  rcases List.mem_append.mp h with h | h
  · obtain ⟨k, h1, rfl⟩ := List.mem_map.mp h
    have := List.mem_range.mp (List.mem_filter.mp h1).1
    omega
  · rw [List.mem_singleton] at h; omega
theorem allOf_nd {m a : Nat} : (allOf m a).Nodup := by
  unfold allOf
  refine List.nodup_append.mpr ⟨?_, by simp, fun x hx y hy e => ?_⟩
  · have h : ((List.range m).filter fun b => b != a).Nodup := List.nodup_range.filter _
    refine List.Pairwise.map _ (fun x y hxy => ?_) h
    omega
  · subst e
    rw [List.mem_singleton] at hy
    obtain ⟨k, h1, rfl⟩ := List.mem_map.mp hx
    have := (List.mem_filter.mp h1).2
    simp at this
    omega
theorem allOf_len {m a : Nat} (ha : a < m) : (allOf m a).length ≤ m := by
  unfold allOf
  have : ((List.range m).filter fun b => b != a).length < (List.range m).length := List.length_filter_lt_length_iff_exists.mpr ⟨a, List.mem_range.mpr ha, by simp⟩
  rw [List.length_range] at this
  simp only [List.length_append, List.length_map, List.length_singleton]
  omega
theorem flat_len : ∀ {L : List (List Int)}, (∀ l ∈ L, l ≠ []) → L.length ≤ L.flatten.length
  | [], _ => Nat.le_refl _
  | l :: L, h => by
    have h1 := List.length_pos_iff.mpr (h l List.mem_cons_self)
    have := flat_len fun l' hl => h l' (List.mem_cons_of_mem _ hl)
    rw [List.length_cons, List.flatten_cons, List.length_append]
    omega
theorem OutI.lad {m a : Nat} {left : List Int} {found : List (List Int)} (hm : m ≤ 6) (ha : a < m) (hp : Pool (allOf m a) left [] found) (hl : ∀ l ∈ found, l ≠ [] ∧ l.Pairwise (· < ·)) (ho : ∃ r, found = [(a : Int)] :: r) : LadOk m a found := by
  have hp' : (left ++ found.flatten).Perm (allOf m a) := hp
  have nd : found.flatten.Nodup := (List.nodup_append.mp ((hp'.nodup_iff).mpr allOf_nd)).2.1
  have inn : ∀ x ∈ found.flatten, 0 ≤ x ∧ x < m := fun x hx => allOf_mem ha (hp'.subset (List.mem_append_right _ hx))
  have len : found.flatten.length ≤ m := by
    have := hp'.length_eq
    rw [List.length_append] at this
    have := allOf_len ha
    omega
  have fl := flat_len fun l h => (hl l h).1
  refine ⟨?_, by omega, fun l h => ⟨⟨fun x hx => inn x (List.mem_flatten.mpr ⟨l, h, hx⟩), (hl l h).2⟩, (hl l h).1⟩, ho, nd, by omega⟩
  obtain ⟨r, rfl⟩ := ho
  exact fun z => nomatch z
/-- the body of the while -/
def restW : S → S
  | .seq _ (.seq (.wh _ b) _) => b
  | s => s
theorem e_ladderdraw (n m a : Nat) (kind : Int) (xs : List D) (hx : HandOk xs) (hm : m ≤ 6) (ha : a < m) {Q : W → Env → Prop} {t : Kt Q}
    (q : ∀ (L : List (List Int)) (ys : List D), HandOk ys → LadOk m a L → Q (.val (ladD L)) [.acc .fix ys, .val (.int m), .val (.int a), .val (.int kind)]) :
    Ok (callF prog (n + 2) 17 [.acc .fix xs, .val (.int m), .val (.int a), .val (.int kind)]) Q t := by
  refine Ok_run rfl rfl ?_
  simp [f__law_ladder, b__law_ladder]
  refine Ok_lcm (List.range m) (fun (k : Nat) => .int (k : Int)) (fun b => b != a) (fun (k : Nat) => .int (k : Int)) ?_
  simp [it_rng1 (show m ≤ 1000 by omega)]
  refine ⟨fun b hb Q' hq => ?_, ?_⟩
  · by_cases h : b = a
    · rw [if_pos h] at hq
      rw [show decide ((b : Int) = a) = true by simp [h]]
      simpa using hq
    · rw [if_neg h] at hq
      rw [show decide ((b : Int) = a) = false by simp; omega]
      simpa using hq
  refine Ok_wh (OutI (allOf m a) m a kind) (m := ((List.range m).filter fun b => b != a).length) ?_ ?_ ?_
  · have := List.length_filter_le (fun b => b != a) (List.range m)
    rw [List.length_range] at this
    show _ < 100000
    omega
  · exact ⟨((List.range m).filter fun b => b != a).map (fun (k : Nat) => (k : Int)), [[(a : Int)]], xs, .no, .no, .no, hx, by simp [Pool, allOf], by simp, by simp, ⟨[], rfl⟩, rfl, rfl, rfl, by simp [lotD]⟩
  rintro k r ⟨left, found, ys, s7, s8, s9, hy, hp, hl, hlots, hone, h7, h8, h9, rfl⟩
  simp
  have fin : ∀ zs, HandOk zs → Q (.val (ladD found)) [.acc .fix zs, .val (.int m), .val (.int a), .val (.int kind)] := fun zs hz => q found zs hz (OutI.lad hm ha hp hlots hone)
  have len : left.length ≤ m := by
    have := (show (left ++ found.flatten).Perm (allOf m a) from hp).length_eq
    rw [List.length_append] at this
    have := allOf_len ha
    omega
  by_cases h0 : 0 < left.length
  · have body : ∀ zs, HandOk zs → Ok (ex (callF prog (n + 1)) (restW b__law_ladder) [.acc .fix zs, .val (.int m), .val (.int a), .val (.int kind), .acc .free (left.map .int), .acc .free (found.map lotD), .no, s7, s8, s9]) (frK (fun r' => ∃ m', m' < k ∧ OutI (allOf m a) m a kind m' r') (fun f r1 => Ok (thn' (callF prog (n + 1)) ((S.ret (E.bi Bi.tuple ((E.var 5).cons E.nil))).seq S.skip) f r1) (finS [.acc .fix xs, .val (.int m), .val (.int a), .val (.int kind)] Q) ()) fun r' => r') () := fun zs hz => by
      have tail : ∀ (many : Int) (ws : List D), HandOk ws → 1 ≤ many → many ≤ left.length → Ok (ex (callF prog (n + 1)) (restOf (restW b__law_ladder)) [.acc .fix ws, .val (.int m), .val (.int a), .val (.int kind), .acc .free (left.map .int), .acc .free (found.map lotD), .no, .val (.int many), s8, s9]) (frK (fun r' => ∃ m', m' < k ∧ OutI (allOf m a) m a kind m' r') (fun f r1 => Ok (thn' (callF prog (n + 1)) ((S.ret (E.bi Bi.tuple ((E.var 5).cons E.nil))).seq S.skip) f r1) (finS [.acc .fix xs, .val (.int m), .val (.int a), .val (.int kind)] Q) ()) fun r' => r') () := fun many ws hw g1 g2 => by
        simp [restOf, restW, b__law_ladder, h8]
        refine e_inner n (allOf m a) m a kind many k found (by omega) (by omega) (by omega) _ rfl ⟨left, [], ws, s9, hw, hp, by omega, rfl, h9, by simp⟩ ?_
        rintro rc ⟨left', lot, us, s9', hu, hp', hl', hlot, h9', rfl⟩
        have lim : found.length < LIM := by
          have := flat_len fun l h => (hlots l h).1
          have := (show (left ++ found.flatten).Perm (allOf m a) from hp).length_eq
          rw [List.length_append] at this
          have := allOf_len ha
          show _ < 1048576
          omega
        simp [lim]
        refine ⟨left'.length, by omega, left', found ++ [sortI lot], us, .val (.int many), .acc .free (lot.map .int), s9', hu, hp'.sort, rfl, fun l hl => ?_, ?_, rfl, rfl, h9', by simp [lotD]⟩
        · rcases List.mem_append.mp hl with h | h
          · exact hlots l h
          · rw [List.mem_singleton] at h
            subst h
            refine ⟨fun z => ?_, sort_lt (hp'.nd allOf_nd)⟩
            have := (sortI_perm lot).length_eq
            rw [z, hlot] at this
            simp at this
            omega
        · obtain ⟨r, rfl⟩ := hone
          exact ⟨r ++ [sortI lot], rfl⟩
      show Ok (ex (callF prog (n + 1)) (.seq (fstOf (restW b__law_ladder)) (restOf (restW b__law_ladder))) _) _ _
      generalize restOf (restW b__law_ladder) = R at *
      simp [fstOf, restW, b__law_ladder]
      by_cases k2 : kind = 2
      · subst k2
        simp [h7]
        exact tail 1 zs hz (by omega) (by omega)
      · simp [k2]
        refine e_draw n zs left.length hz (by omega) (by omega) fun r us hu r0 r1 => ?_
        simp [h7]
        exact tail _ us hu (by omega) (by omega)
    simp [h0]
    by_cases hk : 0 < kind
    · simp [hk]
      have b1 := body ys hy
      simp [restW, b__law_ladder] at b1
      exact b1
    · simp [hk]
      refine e_draw n ys 4 hy (by decide) (by decide) fun r zs hz r0 r1 => ?_
      simp
      have b1 := body zs hz
      simp [restW, b__law_ladder] at b1
      exact ⟨fun _ => b1, fun _ => fin zs hz⟩
  · simp [h0]
    exact fin ys hy
end ML

set_option maxHeartbeats 4000000
namespace ML
open MP
theorem e_lnear (n : Nat) (L : List (List Int)) (lot : List Int) : callF prog (n + 1) 18 [.val (ladD L), .val (lotD lot)] = .ok (.val (lotD (nearL L lot))) [.val (ladD L), .val (lotD lot)] := e_near n L lot
/-- ahead of a turn -/
def TopI (ns : List Int) (_ : Nat) (rc : Env) : Prop := ∃ ys s2 s3 s4 s5 s6 s7 s8 s9 s10 s11 s12 s13 s14 s15 s16 s17 s18 s19, HandOk ys ∧ (held s2 = false ∧ held s3 = false ∧ held s4 = false ∧ held s5 = false ∧ held s6 = false ∧ held s7 = false ∧ held s8 = false ∧ held s9 = false ∧ held s10 = false ∧ held s11 = false ∧ held s12 = false ∧ held s13 = false ∧ held s14 = false ∧ held s15 = false ∧ held s16 = false ∧ held s17 = false ∧ held s18 = false ∧ held s19 = false) ∧
  rc = [.val (.scr ns), .acc .free ys, s2, s3, s4, s5, s6, s7, s8, s9, s10, s11, s12, s13, s14, s15, s16, s17, s18, s19]
/-- the ladders drawn so far -/
def LadsI (m : Nat) (kind : Int) (ns : List Int) (tl : List Sl) (s2 s6 : Sl) (i : Nat) (out : List D) (rc : Env) : Prop := ∃ (Ls : List (List (List Int))) (ys : List D), out = Ls.map ladD ∧ Ls.length = i ∧ HandOk ys ∧ (∀ (a : Nat) (L : List (List Int)), Ls[a]? = some L → LadOk m a L) ∧
  rc = [.val (.scr ns), .acc .free ys, s2, .val (.int m), .val (.int kind)] ++ s6 :: .no :: tl
/-- the body of the turn -/
def turnB : S := match restOf (restOf b_law) with | .seq (.for_ _ _ _ b) _ => b | s => s
theorem law_tail (n : Nat) (ns : List Int) (i m : Nat) (k kind : Int) (Ls : List (List (List Int))) (zs : List D) (s6 s7 s8 s9 s11 s12 s13 s14 s15 s16 s17 s18 s19 : Sl) (Q : Fl → Env → Prop) (hm1 : 1 ≤ m) (hm6 : m ≤ 6) (hl : Ls.length = m) (hz : HandOk zs) (hL : ∀ (a : Nat) (L : List (List Int)), Ls[a]? = some L → LadOk m a L)
    (h6 : held s6 = false) (h7 : held s7 = false) (h8 : held s8 = false) (h9 : held s9 = false) (h11 : held s11 = false) (h12 : held s12 = false) (h13 : held s13 = false) (h14 : held s14 = false) (h15 : held s15 = false) (h16 : held s16 = false) (h17 : held s17 = false) (h18 : held s18 = false) (h19 : held s19 = false) :
    Ok (ex (callF prog (n + 9)) (restOf (restOf (restOf (restOf (restOf (restOf turnB)))))) [.val (.scr ns), .acc .free zs, .val (.int k), .val (.int m), .val (.int kind), .val (.tup (Ls.map ladD)), s6, s7, s8, s9, .acc .free (wordsL m Ls), s11, s12, s13, s14, s15, s16, s17, s18, s19]) (frK (TopI ns (i + 1)) Q fun r' => r') () := by
  have smW : smD (.tup (wordsL m Ls)) = true := by
    unfold wordsL
    cases isWhole m Ls <;> cases isAlone Ls <;> decide
  simp [restOf, turnB, b_law, e_laws (n + 3) m Ls hm1 hm6 hl hL, c_sameN smW]
  refine e_lotdraw (n + 7) zs m hz hm6 fun one z1 hz1 ho1 => ?_
  simp
  refine e_lotdraw (n + 7) z1 m hz1 hm6 fun other z2 hz2 ho2 => ?_
  simp
  refine e_lotdraw (n + 7) z2 m hz2 hm6 fun third z3 hz3 ho3 => ?_
  simp [h11, h12, h13]
  refine Ok_lcm Ls ladD (fun _ => true) (fun L => lotD (nearL L one)) ?_
  simp [e_lnear, h14]
  refine Ok_lcm (List.range m) (fun (k : Nat) => .int (k : Int)) (fun _ => true) (fun a => lotD (nearL (Ls.getD a []) one)) ?_
  simp [it_rng1 (show m ≤ 1000 by omega)]
  have getL : ∀ a, a < m → Ls[a]? = some (Ls[a]?.getD []) := fun a ha => by rw [List.getElem?_eq_getElem (by omega)]; rfl
  have eqN : (List.range m).map (fun a => lotD (nearL (Ls[a]?.getD []) one)) = Ls.map fun L => lotD (nearL L one) := by
    refine List.ext_getElem? fun j => ?_
    rw [List.getElem?_map, List.getElem?_map]
    by_cases hj : j < m
    · rw [List.getElem?_range hj, getL j hj]; rfl
    · rw [List.getElem?_eq_none (by rw [List.length_range]; omega), List.getElem?_eq_none (by omega)]; rfl
  have smN : smD (.lst (Ls.map fun L => lotD (nearL L one))) = true := by
    have := sm_lots (L := Ls.map fun L => nearL L one)
    rwa [List.map_map] at this
  have smT : ∀ l : List Nat, smD (natsD l) = true := fun l => by
    have := sm_ints (l := l.map fun (k : Nat) => (k : Int))
    rwa [List.map_map] at this
  refine ⟨fun a ha Q' hq => ?_, ?_⟩
  · have := e_nearest (n + 3) m Ls a _ one hm1 hm6 hl hL (getL a ha) ho1
    rw [show callF prog (n + 9) 10 [Sl.val (D.int m), Sl.val (D.tup (List.map ladD Ls)), Sl.val (D.int a), Sl.val (lotD one)] = _ from this]
    simpa using hq
  rw [eqN, c_sameN smN]
  simp [e_would (n + 3) m Ls one other hm1 hm6 hl hL ho1 ho2, h15]
  refine Ok_lcm (List.range m) (fun (k : Nat) => .int (k : Int)) (fun a => (nearL (Ls.getD a []) one).all other.contains) (fun (k : Nat) => .int (k : Int)) ?_
  simp [it_rng1 (show m ≤ 1000 by omega)]
  have subN : ∀ a, a < m → subOp (.lst (Ls.map fun L => lotD (nearL L one))) (.int (a : Int)) = some (lotD (nearL (Ls[a]?.getD []) one)) := fun a ha => sub_l (by rw [List.getElem?_map, getL a ha]; rfl)
  refine ⟨fun a ha Q' hq => ?_, ?_⟩
  · refine Ok_lcm (nearL (Ls[a]?.getD []) one) .int (fun _ => true) (fun b => .bl (other.contains b)) ?_
    simp [subN a ha]
    by_cases hm : ∀ x, x ∈ nearL (Ls[a]?.getD []) one → x ∈ other
    · rw [show ((nearL (Ls[a]?.getD []) one).all fun x => decide (x ∈ other)) = true by simpa using hm]
      rw [if_pos hm] at hq
      simpa using hq
    · rw [show ((nearL (Ls[a]?.getD []) one).all fun x => decide (x ∈ other)) = false by simpa using hm]
      rw [if_neg hm] at hq
      simpa using hq
  have eW : ∀ u v, (List.range m).filter (fun a => (nearL (Ls[a]?.getD []) u).all v.contains) = wouldL Ls u v := fun u v => by
    unfold wouldL
    rw [hl]
    simp
  have eM : ∀ u v, (List.range m).filter (fun a => (nearL (Ls[a]?.getD []) u).any v.contains) = mightL Ls u v := fun u v => by
    unfold mightL
    rw [hl]
    simp
  have eT : ∀ l : List Nat, natsD l = lotD (l.map fun (k : Nat) => (k : Int)) := fun l => by simp [natsD, lotD]
  rw [eW, c_sameN (smT _)]
  simp [e_might (n + 3) m Ls one other hm1 hm6 hl hL ho1 ho2]
  refine Ok_lcm (List.range m) (fun (k : Nat) => .int (k : Int)) (fun a => (nearL (Ls.getD a []) one).any other.contains) (fun (k : Nat) => .int (k : Int)) ?_
  simp [it_rng1 (show m ≤ 1000 by omega)]
  refine ⟨fun a ha Q' hq => ?_, ?_⟩
  · refine Ok_lcm (nearL (Ls[a]?.getD []) one) .int (fun _ => true) (fun b => .bl (other.contains b)) ?_
    simp [subN a ha]
    by_cases hm : ∃ x, x ∈ nearL (Ls[a]?.getD []) one ∧ x ∈ other
    · rw [show ((nearL (Ls[a]?.getD []) one).any fun x => decide (x ∈ other)) = true by simpa using hm]
      rw [if_pos hm] at hq
      simpa using hq
    · rw [show ((nearL (Ls[a]?.getD []) one).any fun x => decide (x ∈ other)) = false by simpa using hm]
      rw [if_neg hm] at hq
      simpa using hq
  rw [eM, c_sameN (smT _), eT]
  simp
  generalize hW : (wouldL Ls one other).map (fun (k : Nat) => (k : Int)) = W
  refine Ok_lcm one .int (fun _ => true) (fun a => .bl (!(W.contains a == other.contains a))) ?_
  simp
  have memW : ∀ (u v : List Int) (x : Nat), x < m → ((x : Int) ∈ (wouldL Ls u v).map (fun (k : Nat) => (k : Int)) ↔ ∀ y, y ∈ nearL (Ls[x]?.getD []) u → y ∈ v) := fun u v x hx => by
    rw [← eW]
    simp only [List.mem_map, List.mem_filter, List.mem_range, List.all_eq_true, List.contains_iff_mem]
    constructor
    · rintro ⟨k, ⟨_, h⟩, e⟩
      have : k = x := by omega
      subst this
      exact h
    · intro h
      exact ⟨x, ⟨hx, h⟩, rfl⟩
  have near1 : ∀ x : Nat, x < m → (x : Int) ∈ one → nearL (Ls[x]?.getD []) one = [(x : Int)] := fun x hx ho => by
    obtain ⟨r, hr⟩ := (hL x _ (getL x hx)).one
    rw [hr, nearL]
    simp [ho]
  have any1 : (one.any fun x => !decide (x ∈ W) == decide (x ∈ other)) = false := by
    rw [List.any_eq_false]
    intro x hx
    have hb := ho1.1 x hx
    obtain ⟨y, rfl⟩ : ∃ y : Nat, x = y := ⟨x.toNat, by omega⟩
    have := memW one other y (by omega)
    rw [hW, near1 y (by omega) hx] at this
    simp at this
    by_cases h : (y : Int) ∈ other <;> simp [this, h]
  rw [any1]
  simp
  refine Ok_lcm other .int third.contains .int ?_
  simp [h17]
  refine ⟨fun x hx Q' hq => ?_, ?_⟩
  · by_cases ht : x ∈ third
    · simpa [ht] using hq
    · simpa [ht] using hq
  have hc : LotOk m (other.filter third.contains) := ⟨fun x hx => ho2.1 x (List.mem_filter.mp hx).1, ho2.2.sublist List.filter_sublist⟩
  have memT : ∀ (x : Int) (l : List Nat), cmpOp .mem (.int x) (natsD l) = some ((l.map fun (k : Nat) => (k : Int)).contains x) := fun x l => by rw [eT]; exact c_mem
  have nomT : ∀ (x : Int) (l : List Nat), cmpOp .nomem (.int x) (natsD l) = some (!(l.map fun (k : Nat) => (k : Int)).contains x) := fun x l => by rw [eT]; exact c_nomem
  refine Ok_lcm W .int (((wouldL Ls one third).map fun (k : Nat) => (k : Int)).contains) .int ?_
  simp [h18]
  refine ⟨fun x hx Q' hq => ?_, ?_⟩
  · have ew := e_would (n + 3) m Ls one third hm1 hm6 hl hL ho1 ho3
    simp [ew, memT]
    by_cases hm : ∃ a, a ∈ wouldL Ls one third ∧ (a : Int) = x
    · rw [decide_eq_true hm]
      rw [if_pos hm] at hq
      simpa using hq
    · rw [decide_eq_false hm]
      rw [if_neg hm] at hq
      simpa using hq
  have ec := e_would (n + 3) m Ls one (other.filter third.contains) hm1 hm6 hl hL ho1 hc
  have eqD : natsD (wouldL Ls one (other.filter third.contains)) = .tup ((W.filter (((wouldL Ls one third).map fun (k : Nat) => (k : Int)).contains)).map .int) := by
    rw [eT]
    show D.tup (List.map D.int _) = _
    congr 2
    rw [← hW, ← eW one other, ← eW one (other.filter third.contains), List.filter_map, List.filter_filter]
    congr 1
    refine List.filter_congr fun x hx => ?_
    have h1 := memW one third x (List.mem_range.mp hx)
    have h2 := h1
    rw [Bool.eq_iff_iff]
    simp only [Function.comp, Bool.and_eq_true, List.contains_iff_mem, List.all_eq_true]
    rw [h1]
    simp only [List.mem_filter, List.contains_iff_mem]
    constructor
    · exact fun h => ⟨fun y hy => (h y hy).2, fun y hy => (h y hy).1⟩
    · exact fun h y hy => ⟨h.2 y hy, h.1 y hy⟩
  simp [ec]
  rw [eqD, c_sameN sm_ints]
  simp
  have endI : ∀ e6 e16 e18 e19, held e6 = false → held e16 = false → held e18 = false → held e19 = false → TopI ns (i + 1) [.val (.scr ns), .acc .free z3, .val (.int k), .val (.int m), .val (.int kind), .val (.tup (Ls.map ladD)), e6, s7, s8, s9, .acc .free (wordsL m Ls), .val (lotD one), .val (lotD other), .val (lotD third), .acc .free (Ls.map fun L => lotD (nearL L one)), .val (lotD W), e16, .val (.tup ((other.filter third.contains).map .int)), e18, e19] := fun e6 e16 e18 e19 g6 g16 g18 g19 =>
    ⟨z3, _, _, _, _, _, _, _, _, _, _, _, _, _, _, _, _, _, _, hz3, ⟨rfl, rfl, rfl, rfl, g6, h7, h8, h9, rfl, rfl, rfl, rfl, rfl, rfl, g16, rfl, g18, g19⟩, rfl⟩
  by_cases hw : ((wordsL m Ls).length : Int) = 2
  · have alone : isAlone Ls = true := by
      unfold wordsL at hw
      cases h : isAlone Ls
      · rw [h] at hw
        split at hw <;> simp at hw
      · rfl
    rw [decide_eq_true hw]
    simp
    refine Ok_lcm (List.range m) (fun (k : Nat) => .int (k : Int)) (fun a => !other.contains (a : Int)) (fun (k : Nat) => .int (k : Int)) ?_
    simp [it_rng1 (show m ≤ 1000 by omega)]
    refine ⟨fun x hx Q' hq => ?_, ?_⟩
    · by_cases ht : (x : Int) ∈ other
      · simpa [ht] using hq
      · simpa [ht] using hq
    generalize hF : (List.range m).filter (fun (a : Nat) => !decide ((a : Int) ∈ other)) = F
    have eF : D.tup (F.map fun (k : Nat) => .int (k : Int)) = lotD (F.map fun (k : Nat) => (k : Int)) := eT F
    have hFm : LotOk m (F.map fun (k : Nat) => (k : Int)) := by
      rw [← hF]
      refine ⟨fun x hx => ?_, ?_⟩
      · obtain ⟨y, h1, rfl⟩ := List.mem_map.mp hx
        have := List.mem_range.mp (List.mem_filter.mp h1).1
        omega
      · refine List.Pairwise.map (R := (· < ·)) _ (fun x y hxy => by omega) ?_
        exact List.pairwise_lt_range.sublist List.filter_sublist
    have e4 := e_would (n + 3) m Ls one (F.map fun (k : Nat) => (k : Int)) hm1 hm6 hl hL ho1 hFm
    rw [eF]
    simp [e4, h19]
    have comp : ∀ x : Nat, x < m → ¬ (x : Int) ∈ W → (x : Int) ∈ (wouldL Ls one (F.map fun (k : Nat) => (k : Int))).map (fun (k : Nat) => (k : Int)) := fun x hx hn => by
      rw [memW one _ x hx]
      rw [← hW, memW one other x hx] at hn
      intro y hy
      -- a lot of one
      have hone : (nearL (Ls[x]?.getD []) one).length ≤ 1 := by
        have hx2 := List.all_eq_true.mp alone _ (List.mem_of_getElem? (getL x hx))
        have : ∀ L : List (List Int), (∀ l ∈ L, l.length = 1) → (nearL L one).length ≤ 1 := fun L => by
          induction L with
          | nil => intro _; simp [nearL]
          | cons l L ih =>
            intro h
            rw [nearL]
            split
            · have := List.length_filter_le one.contains l
              have := h l List.mem_cons_self
              omega
            · exact ih fun l' hl' => h l' (List.mem_cons_of_mem _ hl')
        refine this _ fun l hl => ?_
        have := of_decide_eq_true (List.all_eq_true.mp hx2 l hl)
        omega
      have hy1 : nearL (Ls[x]?.getD []) one = [y] := by
        match hq : nearL (Ls[x]?.getD []) one, hone, hy with
        | [z], _, hy => rw [List.mem_singleton] at hy; rw [hy]
      have hyo : ¬ y ∈ other := fun h => hn fun z hz => by
        rw [hy1, List.mem_singleton] at hz
        rw [hz]; exact h
      have hyb : 0 ≤ y ∧ y < m := by
        have hin : ∀ L : List (List Int), ∀ z ∈ nearL L one, z ∈ one := fun L => by
          induction L with
          | nil => intro z hz; simp [nearL] at hz
          | cons l L ih =>
            intro z hz
            rw [nearL] at hz
            split at hz
            · have := (List.mem_filter.mp hz).2
              simpa using this
            · exact ih z hz
        exact ho1.1 y (hin _ y hy)
      obtain ⟨z, rfl⟩ : ∃ z : Nat, y = z := ⟨y.toNat, by omega⟩
      refine List.mem_map.mpr ⟨z, ?_, rfl⟩
      rw [← hF]
      exact List.mem_filter.mpr ⟨List.mem_range.mpr (by omega), by simpa using hyo⟩
    rw [eT] 
    generalize hV : (wouldL Ls one (F.map fun (k : Nat) => (k : Int))).map (fun (k : Nat) => (k : Int)) = V at *
    refine Ok_lcm (List.range m) (fun (k : Nat) => .int (k : Int)) (fun _ => true) (fun a => .bl (!W.contains (a : Int) && !V.contains (a : Int))) ?_
    simp [it_rng1 (show m ≤ 1000 by omega)]
    refine ⟨fun x hx Q' hq => ?_, ?_⟩
    · by_cases hx2 : (x : Int) ∈ W
      · simpa [hx2] using hq
      · simpa [hx2] using hq
    have none1 : ((List.range m).any fun x => !decide ((x : Int) ∈ W) && !decide ((x : Int) ∈ V)) = false := by
      rw [List.any_eq_false]
      intro x hx
      by_cases hx2 : (x : Int) ∈ W
      · simp [hx2]
      · simp [hx2, comp x (List.mem_range.mp hx) hx2]
    rw [none1]
    simp
    exact endI _ _ _ _ h6 h16 rfl rfl
  · rw [decide_eq_false hw]
    simp
    exact endI _ _ _ _ h6 h16 rfl h19
def sumLen (L : List (List Int)) : Int := (L.map fun l => (l.length : Int)).sum
/-- the flags so far -/
def FlagI (m : Nat) (Ls : List (List (List Int))) (pre tl : List Sl) (i : Nat) (rc : Env) : Prop := ∃ s8 s9, held s8 = false ∧ held s9 = false ∧ rc = pre ++ .acc .free ((Ls.take i).map fun L => .bl (decide (sumLen L = m))) :: s8 :: s9 :: tl
theorem law_body (n : Nat) (ns : List Int) (i : Nat) (d : D) (rc : Env) (Q : Fl → Env → Prop) (h : TopI ns i rc) (hd : ∃ k : Int, d = .int k) : ∃ r3, asg (.nm 2) d rc = some r3 ∧
    Ok (ex (callF prog (n + 9)) turnB r3) (frK (TopI ns (i + 1)) Q fun r' => r') () := by
  obtain ⟨ys, s2, s3, s4, s5, s6, s7, s8, s9, s10, s11, s12, s13, s14, s15, s16, s17, s18, s19, hy, ⟨h2, h3, h4, h5, h6, h7, h8, h9, h10, h11, h12, h13, h14, h15, h16, h17, h18, h19⟩, rfl⟩ := h
  obtain ⟨k, rfl⟩ := hd
  refine ⟨[.val (.scr ns), .acc .free ys, .val (.int k), s3, s4, s5, s6, s7, s8, s9, s10, s11, s12, s13, s14, s15, s16, s17, s18, s19], by simp [h2], ?_⟩
  simp [turnB, restOf, b_law]
  refine e_draw (n + 8) ys 5 hy (by decide) (by decide) fun r5 ys1 hy1 r50 r51 => ?_
  simp
  refine e_draw (n + 8) ys1 3 hy1 (by decide) (by decide) fun kind ys2 hy2 kd0 kd1 => ?_
  obtain ⟨m, hm⟩ : ∃ m : Nat, 1 + r5 = (m : Int) := ⟨(1 + r5).toNat, by omega⟩
  have hm1 : 1 ≤ m := by omega
  have hm6 : m ≤ 6 := by omega
  simp [hm, h3, h4]
  refine Ok_lci ?_
  simp [it_rng1 (show m ≤ 1000 by omega)]
  refine ⟨LadsI m kind ns [s7, s8, s9, s10, s11, s12, s13, s14, s15, s16, s17, s18, s19] (.val (.int k)) s5, ⟨[], ys2, rfl, rfl, hy2, fun a L e => by simp at e, by simp⟩, ?_, ?_⟩
  · rintro i d out rc x hx rfl ⟨Ls, zs, rfl, hl, hz, hL, rfl⟩
    have hxi : i < m ∧ x = i := by
      obtain ⟨g1, g2⟩ := List.getElem?_eq_some_iff.mp hx
      rw [List.length_range] at g1
      rw [List.getElem_range] at g2
      exact ⟨g1, g2.symm⟩
    obtain ⟨hi, rfl⟩ := hxi
    simp
    refine e_ladderdraw (n + 7) m x kind zs hz hm6 hi fun L us hu hLad => ?_
    simp
    refine ⟨Ls ++ [L], us, by simp, by simp [hl], hu, fun a L' e => ?_, by simp⟩
    by_cases ha : a < Ls.length
    · rw [List.getElem?_append_left ha] at e
      exact hL a L' e
    · rw [List.getElem?_append_right (by omega)] at e
      have : a - Ls.length = 0 := by
        have := (List.getElem?_eq_some_iff.mp e).1
        simp at this; omega
      rw [this] at e
      simp at e
      subst e
      have : a = x := by omega
      subst this
      exact hLad
  · rintro out rc ⟨Ls, zs, rfl, hl, hz, hL, rfl⟩
    simp [h5, h7]
    refine Ok_for ?_
    simp
    refine ⟨FlagI m Ls [.val (.scr ns), .acc .free zs, .val (.int k), .val (.int m), .val (.int kind), .val (.tup (Ls.map ladD)), s6] [s10, s11, s12, s13, s14, s15, s16, s17, s18, s19], ⟨s8, s9, h8, h9, by simp⟩, ?_, ?_⟩
    · rintro i d rc L hx rfl ⟨t8, t9, k8, k9, rfl⟩
      refine ⟨_, by simp [k8]; rfl, ?_⟩
      simp
      refine Ok_lcm L lotD (fun _ => true) (fun l => .int l.length) ?_
      simp
      refine ⟨?_, .val (ladD L), t9, rfl, k9, ?_⟩
      · show _ < 1048576
        omega
      · have e : Ls.take (i + 1) = Ls.take i ++ [L] := by rw [List.take_add_one, hx]; rfl
        simp [e, sumLen, List.map_take]
        rfl
    · rintro rc ⟨t8, t9, k8, k9, rfl⟩
      simp
      have w1 : (Ls.all fun x => decide (sumLen x = m)) = isWhole m Ls := rfl
      rw [w1]
      have two : ∀ (wl : List D), wl = (if isWhole m Ls then [.str [119, 104, 111, 108, 101]] else []) → Ok (ex (callF prog (n + 9)) (restOf (restOf (restOf (restOf (restOf turnB))))) [.val (.scr ns), .acc .free zs, .val (.int k), .val (.int m), .val (.int kind), .val (.tup (Ls.map ladD)), s6, .acc .free (Ls.map fun L => .bl (decide (sumLen L = m))), t8, t9, .acc .free wl, s11, s12, s13, s14, s15, s16, s17, s18, s19]) (frK (TopI ns (i + 1)) Q fun r' => r') () := fun wl hwl => by
        have tl := law_tail n ns i m k kind Ls zs s6 (.acc .free (Ls.map fun L => .bl (decide (sumLen L = m)))) t8 t9 s11 s12 s13 s14 s15 s16 s17 s18 s19 Q hm1 hm6 hl hz hL h6 rfl k8 k9 h11 h12 h13 h14 h15 h16 h17 h18 h19
        show Ok (ex (callF prog (n + 9)) (.seq (fstOf (restOf (restOf (restOf (restOf (restOf turnB)))))) (restOf (restOf (restOf (restOf (restOf (restOf turnB))))))) _) _ _
        generalize restOf (restOf (restOf (restOf (restOf (restOf turnB))))) = R at *
        simp [fstOf, restOf, turnB, b_law]
        refine Ok_lcm Ls ladD (fun _ => true) (fun L => .bl (L.all fun l => decide ((l.length : Int) = 1))) ?_
        simp
        refine ⟨fun L hL Q' hq => ?_, ?_⟩
        · refine Ok_lcm L lotD (fun _ => true) (fun l => .bl (decide ((l.length : Int) = 1))) ?_
          simp
          exact hq
        have w2 : (Ls.all fun x => x.all fun l => decide ((l.length : Int) = 1)) = isAlone Ls := rfl
        rw [w2]
        unfold wordsL at tl
        subst hwl
        have lim : (if isWhole m Ls = true then [D.str [119, 104, 111, 108, 101]] else []).length < LIM := by
          show _ < 1048576
          split <;> simp
        cases ha : isAlone Ls
        · rw [ha] at tl
          simpa using tl
        · rw [ha] at tl
          simp [lim]
          simpa using tl
      cases hw : isWhole m Ls
      · have := two [] (by simp [hw])
        simp [restOf, turnB, b_law] at this
        simp [h10]
        exact this
      · have := two [.str [119, 104, 111, 108, 101]] (by simp [hw])
        simp [restOf, turnB, b_law] at this
        simp [h10]
        exact this
end ML

set_option maxHeartbeats 4000000
namespace ML
open MP
theorem lad2 : ∀ (a : Nat) (L : List (List Int)), [[[(0 : Int)], [1]], [[1]]][a]? = some L → LadOk (2 : Nat) a L := fun a L e => by
  match a, e with
  | 0, e => cases e; exact ⟨by simp, by simp, fun l hl => by simp at hl; rcases hl with rfl | rfl <;> simp [LotOk], ⟨_, rfl⟩, by simp, by simp⟩
  | 1, e => cases e; exact ⟨by simp, by simp, fun l hl => by simp at hl; subst hl; simp [LotOk], ⟨_, rfl⟩, by simp, by simp⟩
theorem lad2b : ∀ (a : Nat) (L : List (List Int)), [[[(0 : Int)]], [[1]]][a]? = some L → LadOk (2 : Nat) a L := fun a L e => by
  match a, e with
  | 0, e => cases e; exact ⟨by simp, by simp, fun l hl => by simp at hl; subst hl; simp [LotOk], ⟨_, rfl⟩, by simp, by simp⟩
  | 1, e => cases e; exact ⟨by simp, by simp, fun l hl => by simp at hl; subst hl; simp [LotOk], ⟨_, rfl⟩, by simp, by simp⟩
theorem lot1 : LotOk (2 : Nat) [1] := by simp [LotOk]
theorem law_ok (n : Nat) (ns : List Int) : Ok (callF prog (n + 10) 19 [.val (.scr ns)]) (fun w _ => w = .val (.bl true)) () := by
  refine Ok_run rfl rfl ?_
  have tb : b_law = .seq (fstOf b_law) (.seq (fstOf (restOf b_law)) (.seq (.for_ (.nm 2) .rng1 (.cons (.lit (.int 5)) .nil) turnB) (.seq (.ret (.lit (.bl true))) .skip))) := rfl
  show Ok (ex (callF prog (n + 9)) b_law _) _ _
  rw [tb]
  have body := law_body n ns
  generalize turnB = B at *
  simp [fstOf, restOf, b_law, f_law]
  refine e_hand (n + 8) ns fun ys hy => ?_
  simp
  have w := e_would (n + 3) 2 _ [1] [1] (by decide) (by decide) rfl lad2 lot1 lot1
  have w2 := e_nearest (n + 3) 2 _ 0 _ [1] (by decide) (by decide) rfl lad2b rfl lot1
  simp [ladsD, ladD, lotD] at w w2
  have v1 : wouldL [[[0], [1]], [[1]]] [1] [1] = [0, 1] := by decide
  have v2 : nearL [[0]] [1] = [] := by decide
  have c1 : cmpOp .ne (.tup [.int 0, .int 1]) (.tup [.int 0, .int 1]) = some false := c_sameN (by decide)
  have c2 : cmpOp .ne (.tup []) (.tup []) = some false := c_sameN (by decide)
  rw [v1] at w
  rw [v2] at w2
  simp [natsD] at w w2
  simp [w, w2, c1, c2]
  refine Ok_for ?_
  have it := it_rng1 (n := 5) (by decide)
  simp at it
  simp [it]
  refine ⟨TopI ns, ?_⟩
  have h0 : TopI ns 0 [.val (.scr ns), .acc .free ys, .no, .no, .no, .no, .no, .no, .no, .no, .no, .no, .no, .no, .no, .no, .no, .no, .no, .no] := ⟨ys, _, _, _, _, _, _, _, _, _, _, _, _, _, _, _, _, _, _, hy, ⟨rfl, rfl, rfl, rfl, rfl, rfl, rfl, rfl, rfl, rfl, rfl, rfl, rfl, rfl, rfl, rfl, rfl, rfl⟩, rfl⟩
  have h1 : ∀ rc, TopI ns 5 rc → finS [.val (.scr ns)] (fun w x => w = .val (.bl true)) (.ret (.val (.bl true))) rc := by
    rintro rc ⟨ys', t2, t3, t4, t5, t6, t7, t8, t9, t10, t11, t12, t13, t14, t15, t16, t17, t18, t19, _, _, rfl⟩
    simp
  have h2 : ∀ (i : Nat) (d : D) (rc : Env) (x : Nat), (List.range 5)[i]? = some x → D.int x = d → TopI ns i rc → ∃ r3, put rc 2 (.val d) = some r3 ∧ Ok (ex (callF prog (n + 9)) B r3) (frK (TopI ns (i + 1)) (fun f r1 => Ok (thn' (callF prog (n + 9)) ((S.ret (E.lit (D.bl true))).seq S.skip) f r1) (finS [.val (.scr ns)] fun w x => w = .val (.bl true)) ()) fun r' => r') () := fun i d rc x _ e hI => by
    obtain ⟨r3, g1, g2⟩ := body i d rc (fun f r1 => Ok (thn' (callF prog (n + 9)) ((S.ret (E.lit (D.bl true))).seq S.skip) f r1) (finS [.val (.scr ns)] fun w x => w = .val (.bl true)) ()) hI ⟨x, e.symm⟩
    exact ⟨r3, by simpa using g1, g2⟩
  first | exact ⟨h0, h2, h1⟩ | exact ⟨h2, h1⟩ | exact ⟨h0, h2⟩
theorem law_holds0 (ns : List Int) : ∃ out, callF prog 20 19 [.val (.scr ns)] = .ok (.val (.bl true)) out := by
  obtain ⟨a, r, e, rfl⟩ := (law_ok 10 ns).use
  exact ⟨r, e⟩
end ML

namespace MP
open PySem PySem.Spec PyProof.Rows L2
abbrev topS (i : Nat) : Stmt := PySem.Challenge.pw_fewworlds_k77_whole_what_would_and_might.main.body.getD i (.Pass ⟨0, 0, 0, 0⟩)
def rows : List Row := [
  ⟨"is_integer", topS 1, ["thing"], f_is_integer⟩,
  ⟨"is_within", topS 2, ["thing", "low", "high"], f_is_within⟩,
  ⟨"is_tuple", topS 3, ["thing", "least", "most"], f_is_tuple⟩,
  ⟨"is_lot", topS 4, ["thing", "many", "one", "other"], f_is_lot⟩,
  ⟨"is_size", topS 13, ["thing"], f_is_size⟩,
  ⟨"check_size", topS 14, ["size"], f_check_size⟩,
  ⟨"is_ladder", topS 16, ["size", "a", "thing", "lot", "met"], f_is_ladder⟩,
  ⟨"check_ladders", topS 17, ["size", "ladders", "a", "one"], f_check_ladders⟩,
  ⟨"check_lots", topS 18, ["size", "lots", "lot"], f_check_lots⟩,
  ⟨"nearest_of", topS 19, ["ladder", "lot", "one", "some", "b"], f_nearest_of⟩,
  ⟨"nearest", topS 20, ["size", "ladders", "a", "lot"], f_nearest⟩,
  ⟨"would", topS 21, ["size", "ladders", "one", "other", "a", "b"], f_would⟩,
  ⟨"might", topS 22, ["size", "ladders", "one", "other", "a", "b"], f_might⟩,
  ⟨"laws_of", topS 23, ["size", "ladders", "is_whole", "lot", "ladder", "is_alone", "word", "flag"], f_laws_of⟩,
  ⟨"_law_hand", topS 25, ["script", "cells", "cell"], f__law_hand⟩,
  ⟨"_law_draw", topS 26, ["hand", "sides", "cell", "digit", "number"], f__law_draw⟩,
  ⟨"_law_lot", topS 27, ["hand", "size", "a"], f__law_lot⟩,
  ⟨"_law_ladder", topS 28, ["hand", "size", "a", "kind", "left", "found", "b", "many", "lot", "turn"], f__law_ladder⟩,
  ⟨"_law_nearest", topS 29, ["ladder", "lot", "step", "some", "b"], f__law_nearest⟩,
  ⟨"law", topS 30, ["script", "hand", "turn", "size", "kind", "ladders", "a", "flags", "ladder", "step", "words", "one", "other", "third", "near", "told", "b", "common", "due", "rest"], f_law⟩]
def cns : List (Str × D) := [("MOST_WORLDS", (.int 6))]
def bls : List Str := ["len", "sum", "all", "any", "list", "tuple", "sorted", "set", "abs", "int", "range", "enumerate", "zip", "isinstance", "bool"]

theorem ck_rows : rows.all (rowB rows cns bls) = true := by decide +kernel
theorem rows_prog : rowP rows = prog := funext fun f => match f with
  | 0 => rfl
  | 1 => rfl
  | 2 => rfl
  | 3 => rfl
  | 4 => rfl
  | 5 => rfl
  | 6 => rfl
  | 7 => rfl
  | 8 => rfl
  | 9 => rfl
  | 10 => rfl
  | 11 => rfl
  | 12 => rfl
  | 13 => rfl
  | 14 => rfl
  | 15 => rfl
  | 16 => rfl
  | 17 => rfl
  | 18 => rfl
  | 19 => rfl
  | _ + 20 => rfl
theorem law_holds (ns : List Int) (_ : ns.length ≤ 63) : ∃ out, callF (rowP rows) 20 19 [.val (.scr ns)] = .ok (.val (.bl true)) out := by
  rw [rows_prog]
  exact ML.law_holds0 ns
end MP
open PySem PySem.W PyProof.Rows
set_option maxHeartbeats 0 in
theorem PySem.Challenge.cw_fewworlds_k77_whole_what_would_and_might_holds : PySem.Challenge.rw_fewworlds_k77_whole_what_would_and_might.Holds := by
  w_on; o_law; k_head; (case hw => w_witness2)
  k_fill
  refine L2.walk_of (l := PySem.Challenge.rw_fewworlds_k77_whole_what_would_and_might) (n := 63) (k := 20) (x := "script") (CX := fun _ => L2.CX0) (sp := fun w => MP.spF _ (MP.callF (MP.rowP MP.rows) 20) 19 1) rfl (by decide) rfl ⟨rfl, by decide, by decide⟩ (fun w h Y => PySem.W.kIn_of Y) ?F (fun w H a ns hl hO hS => MP.sp_law (m := 63) MP.law_holds H a ns hl (Nat.le_refl _) hO hS _) (fun _ _ _ _ _ h => h)
  case F =>
    intro w mg fa h KX G hmg
    have h0 : MP.Known (L2.KOf KX) mg ⟨"is_integer", MP.topS 1, ["thing"], MP.f_is_integer⟩ := by
      refine' MP.known_of KX G ?a ?l ?c ?k (by decide) (fun _ _ _ _ _ _ us hl => match us, hl with | [_], _ => rfl)
      (case a => k_is); (case l => k_is); (case c => k_is); (case k => k_is)
    have h1 : MP.Known (L2.KOf KX) mg ⟨"is_within", MP.topS 2, ["thing", "low", "high"], MP.f_is_within⟩ := by
      refine' MP.known_of KX G ?a ?l ?c ?k (by decide) (fun _ _ _ _ _ _ us hl => match us, hl with | [_, _, _], _ => rfl)
      (case a => k_is); (case l => k_is); (case c => k_is); (case k => k_is)
    have h2 : MP.Known (L2.KOf KX) mg ⟨"is_tuple", MP.topS 3, ["thing", "least", "most"], MP.f_is_tuple⟩ := by
      refine' MP.known_of KX G ?a ?l ?c ?k (by decide) (fun _ _ _ _ _ _ us hl => match us, hl with | [_, _, _], _ => rfl)
      (case a => k_is); (case l => k_is); (case c => k_is); (case k => k_is)
    have h3 : MP.Known (L2.KOf KX) mg ⟨"is_lot", MP.topS 4, ["thing", "many", "one", "other"], MP.f_is_lot⟩ := by
      refine' MP.known_of KX G ?a ?l ?c ?k (by decide) (fun _ _ _ _ _ _ us hl => match us, hl with | [_, _], _ => rfl)
      (case a => k_is); (case l => k_is); (case c => k_is); (case k => k_is)
    have h4 : MP.Known (L2.KOf KX) mg ⟨"is_size", MP.topS 13, ["thing"], MP.f_is_size⟩ := by
      refine' MP.known_of KX G ?a ?l ?c ?k (by decide) (fun _ _ _ _ _ _ us hl => match us, hl with | [_], _ => rfl)
      (case a => k_is); (case l => k_is); (case c => k_is); (case k => k_is)
    have h5 : MP.Known (L2.KOf KX) mg ⟨"check_size", MP.topS 14, ["size"], MP.f_check_size⟩ := by
      refine' MP.known_of KX G ?a ?l ?c ?k (by decide) (fun _ _ _ _ _ _ us hl => match us, hl with | [_], _ => rfl)
      (case a => k_is); (case l => k_is); (case c => k_is); (case k => k_is)
    have h6 : MP.Known (L2.KOf KX) mg ⟨"is_ladder", MP.topS 16, ["size", "a", "thing", "lot", "met"], MP.f_is_ladder⟩ := by
      refine' MP.known_of KX G ?a ?l ?c ?k (by decide) (fun _ _ _ _ _ _ us hl => match us, hl with | [_, _, _], _ => rfl)
      (case a => k_is); (case l => k_is); (case c => k_is); (case k => k_is)
    have h7 : MP.Known (L2.KOf KX) mg ⟨"check_ladders", MP.topS 17, ["size", "ladders", "a", "one"], MP.f_check_ladders⟩ := by
      refine' MP.known_of KX G ?a ?l ?c ?k (by decide) (fun _ _ _ _ _ _ us hl => match us, hl with | [_, _], _ => rfl)
      (case a => k_is); (case l => k_is); (case c => k_is); (case k => k_is)
    have h8 : MP.Known (L2.KOf KX) mg ⟨"check_lots", MP.topS 18, ["size", "lots", "lot"], MP.f_check_lots⟩ := by
      refine' MP.known_of KX G ?a ?l ?c ?k (by decide) (fun _ _ _ _ _ _ us hl => match us, hl with | [_, _], _ => rfl)
      (case a => k_is); (case l => k_is); (case c => k_is); (case k => k_is)
    have h9 : MP.Known (L2.KOf KX) mg ⟨"nearest_of", MP.topS 19, ["ladder", "lot", "one", "some", "b"], MP.f_nearest_of⟩ := by
      refine' MP.known_of KX G ?a ?l ?c ?k (by decide) (fun _ _ _ _ _ _ us hl => match us, hl with | [_, _], _ => rfl)
      (case a => k_is); (case l => k_is); (case c => k_is); (case k => k_is)
    have h10 : MP.Known (L2.KOf KX) mg ⟨"nearest", MP.topS 20, ["size", "ladders", "a", "lot"], MP.f_nearest⟩ := by
      refine' MP.known_of KX G ?a ?l ?c ?k (by decide) (fun _ _ _ _ _ _ us hl => match us, hl with | [_, _, _, _], _ => rfl)
      (case a => k_is); (case l => k_is); (case c => k_is); (case k => k_is)
    have h11 : MP.Known (L2.KOf KX) mg ⟨"would", MP.topS 21, ["size", "ladders", "one", "other", "a", "b"], MP.f_would⟩ := by
      refine' MP.known_of KX G ?a ?l ?c ?k (by decide) (fun _ _ _ _ _ _ us hl => match us, hl with | [_, _, _, _], _ => rfl)
      (case a => k_is); (case l => k_is); (case c => k_is); (case k => k_is)
    have h12 : MP.Known (L2.KOf KX) mg ⟨"might", MP.topS 22, ["size", "ladders", "one", "other", "a", "b"], MP.f_might⟩ := by
      refine' MP.known_of KX G ?a ?l ?c ?k (by decide) (fun _ _ _ _ _ _ us hl => match us, hl with | [_, _, _, _], _ => rfl)
      (case a => k_is); (case l => k_is); (case c => k_is); (case k => k_is)
    have h13 : MP.Known (L2.KOf KX) mg ⟨"laws_of", MP.topS 23, ["size", "ladders", "is_whole", "lot", "ladder", "is_alone", "word", "flag"], MP.f_laws_of⟩ := by
      refine' MP.known_of KX G ?a ?l ?c ?k (by decide) (fun _ _ _ _ _ _ us hl => match us, hl with | [_, _], _ => rfl)
      (case a => k_is); (case l => k_is); (case c => k_is); (case k => k_is)
    have h14 : MP.Known (L2.KOf KX) mg ⟨"_law_hand", MP.topS 25, ["script", "cells", "cell"], MP.f__law_hand⟩ := by
      refine' MP.known_of KX G ?a ?l ?c ?k (by decide) (fun _ _ _ _ _ _ us hl => match us, hl with | [_], _ => rfl)
      (case a => k_is); (case l => k_is); (case c => k_is); (case k => k_is)
    have h15 : MP.Known (L2.KOf KX) mg ⟨"_law_draw", MP.topS 26, ["hand", "sides", "cell", "digit", "number"], MP.f__law_draw⟩ := by
      refine' MP.known_of KX G ?a ?l ?c ?k (by decide) (fun _ _ _ _ _ _ us hl => match us, hl with | [_, _], _ => rfl)
      (case a => k_is); (case l => k_is); (case c => k_is); (case k => k_is)
    have h16 : MP.Known (L2.KOf KX) mg ⟨"_law_lot", MP.topS 27, ["hand", "size", "a"], MP.f__law_lot⟩ := by
      refine' MP.known_of KX G ?a ?l ?c ?k (by decide) (fun _ _ _ _ _ _ us hl => match us, hl with | [_, _], _ => rfl)
      (case a => k_is); (case l => k_is); (case c => k_is); (case k => k_is)
    have h17 : MP.Known (L2.KOf KX) mg ⟨"_law_ladder", MP.topS 28, ["hand", "size", "a", "kind", "left", "found", "b", "many", "lot", "turn"], MP.f__law_ladder⟩ := by
      refine' MP.known_of KX G ?a ?l ?c ?k (by decide) (fun _ _ _ _ _ _ us hl => match us, hl with | [_, _, _, _], _ => rfl)
      (case a => k_is); (case l => k_is); (case c => k_is); (case k => k_is)
    have h18 : MP.Known (L2.KOf KX) mg ⟨"_law_nearest", MP.topS 29, ["ladder", "lot", "step", "some", "b"], MP.f__law_nearest⟩ := by
      refine' MP.known_of KX G ?a ?l ?c ?k (by decide) (fun _ _ _ _ _ _ us hl => match us, hl with | [_, _], _ => rfl)
      (case a => k_is); (case l => k_is); (case c => k_is); (case k => k_is)
    have h19 : MP.Known (L2.KOf KX) mg ⟨"law", MP.topS 30, ["script", "hand", "turn", "size", "kind", "ladders", "a", "flags", "ladder", "step", "words", "one", "other", "third", "near", "told", "b", "common", "due", "rest"], MP.f_law⟩ := by
      refine' MP.known_of KX G ?a ?l ?c ?k (by decide) (fun _ _ _ _ _ _ us hl => match us, hl with | [_], _ => rfl)
      (case a => k_is); (case l => k_is); (case c => k_is); (case k => k_is)
    have b0 : mg "len" = none := by
      refine' PySem.W.mg_none_of KX G ?z
      (case z => k_is)
    have b1 : mg "sum" = none := by
      refine' PySem.W.mg_none_of KX G ?z
      (case z => k_is)
    have b2 : mg "all" = none := by
      refine' PySem.W.mg_none_of KX G ?z
      (case z => k_is)
    have b3 : mg "any" = none := by
      refine' PySem.W.mg_none_of KX G ?z
      (case z => k_is)
    have b4 : mg "list" = none := by
      refine' PySem.W.mg_none_of KX G ?z
      (case z => k_is)
    have b5 : mg "tuple" = none := by
      refine' PySem.W.mg_none_of KX G ?z
      (case z => k_is)
    have b6 : mg "sorted" = none := by
      refine' PySem.W.mg_none_of KX G ?z
      (case z => k_is)
    have b7 : mg "set" = none := by
      refine' PySem.W.mg_none_of KX G ?z
      (case z => k_is)
    have b8 : mg "abs" = none := by
      refine' PySem.W.mg_none_of KX G ?z
      (case z => k_is)
    have b9 : mg "int" = none := by
      refine' PySem.W.mg_none_of KX G ?z
      (case z => k_is)
    have b10 : mg "range" = none := by
      refine' PySem.W.mg_none_of KX G ?z
      (case z => k_is)
    have b11 : mg "enumerate" = none := by
      refine' PySem.W.mg_none_of KX G ?z
      (case z => k_is)
    have b12 : mg "zip" = none := by
      refine' PySem.W.mg_none_of KX G ?z
      (case z => k_is)
    have b13 : mg "isinstance" = none := by
      refine' PySem.W.mg_none_of KX G ?z
      (case z => k_is)
    have b14 : mg "bool" = none := by
      refine' PySem.W.mg_none_of KX G ?z
      (case z => k_is)
    have c0 : ∃ v u, mg "MOST_WORLDS" = some u ∧ L2.RelV v u ∧ (("MOST_WORLDS" : Str) == ("__debug__" : Str)) = false ∧ ∀ H N, MP.Rep (L2.KOf KX) H N v (.int 6) := by
      refine' MP.cn_int KX G ?z (by decide)
      (case z => k_is)
    have T : MP.TabOk (L2.KOf KX) mg MP.rows MP.cns MP.bls := by
      refine MP.tab_of ?_ ?_ ?_
      · exact List.forall_mem_cons.mpr ⟨h0, List.forall_mem_cons.mpr ⟨h1, List.forall_mem_cons.mpr ⟨h2, List.forall_mem_cons.mpr ⟨h3, List.forall_mem_cons.mpr ⟨h4, List.forall_mem_cons.mpr ⟨h5, List.forall_mem_cons.mpr ⟨h6, List.forall_mem_cons.mpr ⟨h7, List.forall_mem_cons.mpr ⟨h8, List.forall_mem_cons.mpr ⟨h9, List.forall_mem_cons.mpr ⟨h10, List.forall_mem_cons.mpr ⟨h11, List.forall_mem_cons.mpr ⟨h12, List.forall_mem_cons.mpr ⟨h13, List.forall_mem_cons.mpr ⟨h14, List.forall_mem_cons.mpr ⟨h15, List.forall_mem_cons.mpr ⟨h16, List.forall_mem_cons.mpr ⟨h17, List.forall_mem_cons.mpr ⟨h18, List.forall_mem_cons.mpr ⟨h19, fun _ z => nomatch z⟩⟩⟩⟩⟩⟩⟩⟩⟩⟩⟩⟩⟩⟩⟩⟩⟩⟩⟩⟩
      · intro n d z
        have z' := z
        revert z'
        unfold MP.cns
        intro z'
        rcases List.mem_cons.mp z' with z | z'
        · cases z; exact c0
        · cases z'
      · exact List.forall_mem_cons.mpr ⟨b0, List.forall_mem_cons.mpr ⟨b1, List.forall_mem_cons.mpr ⟨b2, List.forall_mem_cons.mpr ⟨b3, List.forall_mem_cons.mpr ⟨b4, List.forall_mem_cons.mpr ⟨b5, List.forall_mem_cons.mpr ⟨b6, List.forall_mem_cons.mpr ⟨b7, List.forall_mem_cons.mpr ⟨b8, List.forall_mem_cons.mpr ⟨b9, List.forall_mem_cons.mpr ⟨b10, List.forall_mem_cons.mpr ⟨b11, List.forall_mem_cons.mpr ⟨b12, List.forall_mem_cons.mpr ⟨b13, List.forall_mem_cons.mpr ⟨b14, fun _ z => nomatch z⟩⟩⟩⟩⟩⟩⟩⟩⟩⟩⟩⟩⟩⟩⟩
    obtain ⟨fd, hb, hF⟩ := MP.law_mk (P := PySem.Challenge.rw_fewworlds_k77_whole_what_would_and_might.prog) (w := w) T MP.ck_rows (f := 19) rfl rfl rfl rfl 20 hmg
    exact ⟨fd, hb, fun base _ _ => hF base⟩

