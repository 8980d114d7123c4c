import PyProof.Rows.All
import Wide.All
import OpenK.AllK
import Wide.FinOn
import PySem.Challenge.RW_homeletters_k18_pieces_and_feeding
import PySem.Str
import HandS.ForMost
import HandS.Strs
import HandS.Wide
import HandS.TupMul
import HandS.TupAny
import HandS.TupLe
import HandS.Deep
import HandS.Codes
import HandS.SortRule
import HandS.SortInts
import HandS.SetFor
import HandS.WordsDict
import HandS.TupLen
import HandS.Zip
import HandS.RevRange
import HandS.Small
import HandS.Words
import KE.KDictZip
import HandS.EndBits
set_option linter.all false
/-! Core: a small language of values for the programs; its meaning. No heap: lists are values. -/
namespace C
open PySem (Str)

inductive D where
  | non | bl (b : Bool) | int (i : Int) | str (s : Str)
  | tup (xs : List D) | lst (xs : List D) | dct (t : Bool) (kvs : List (D × D)) | set (xs : List D)
  deriving Inhabited

/-- a result -/
inductive Rs (α : Type) where
  | ok (a : α)
  | ex (c : Nat) (as : List D)
  | no
def Rs.bind {α β : Type} (r : Rs α) (f : α → Rs β) : Rs β :=
  match r with
  | .ok a => f a
  | .ex c as => .ex c as
  | .no => .no
instance : Monad Rs where
  pure := Rs.ok
  bind := Rs.bind
@[simp] theorem ok_bind {α β : Type} (a : α) (f : α → Rs β) : ((Rs.ok a) >>= f) = f a := rfl
@[simp] theorem no_bind {α β : Type} (f : α → Rs β) : ((Rs.no : Rs α) >>= f) = Rs.no := rfl
@[simp] theorem ex_bind {α β : Type} (c : Nat) (as : List D) (f : α → Rs β) : ((Rs.ex c as : Rs α) >>= f) = Rs.ex c as := rfl
@[simp] theorem pure_ok {α : Type} (a : α) : (pure a : Rs α) = Rs.ok a := rfl
def ofO {α : Type} : Option α → Rs α
  | some a => .ok a
  | none => .no
@[simp] theorem ofO_some {α : Type} (a : α) : ofO (some a) = Rs.ok a := rfl
@[simp] theorem ofO_none {α : Type} : ofO (none : Option α) = Rs.no := rfl
def grd (b : Bool) : Rs Unit := if b then .ok () else .no
@[simp] theorem grd_true : grd true = Rs.ok () := rfl
@[simp] theorem grd_false : grd false = Rs.no := rfl

abbrev Env := List (Option D)
def rd (r : Env) (i : Nat) : Rs D := match r[i]? with
  | some (some d) => .ok d
  | _ => .no

abbrev line : Nat := 16777216

/-! ### data -/
mutual
/-- data that == and repr are told of: at most so deep -/
def pl : Nat → D → Bool
  | _, .non => true | _, .bl _ => true | _, .int _ => true
  | _, .str s => s.cps.all fun c => decide (c < 1114112)
  | n, .tup xs => match n with | 0 => false | n + 1 => pls n xs
  | n, .lst xs => match n with | 0 => false | n + 1 => pls n xs
  | _, .dct _ _ => false | _, .set _ => false
def pls : Nat → List D → Bool
  | _, [] => true
  | n, d :: r => pl n d && pls n r
end
def plain (d : D) : Bool := pl 12 d
def plains (ds : List D) : Bool := pls 12 ds
def atom : D → Bool
  | .non => true | .bl _ => true | .int _ => true | .str _ => true
  | _ => false
def isNon : D → Bool
  | .non => true | _ => false
def isLst : D → Bool
  | .lst _ => true | _ => false
def isInt : D → Bool
  | .int _ => true | _ => false
/-- a tuple, a set -/
def isTS : D → Bool
  | .tup _ => true | .set _ => true | _ => false
def b2i (b : Bool) : Int := if b then 1 else 0
mutual
/-- == -/
def eqv : D → D → Bool
  | .non, .non => true
  | .bl a, .bl b => a == b
  | .bl a, .int b => b2i a == b
  | .int a, .bl b => a == b2i b
  | .int a, .int b => a == b
  | .str a, .str b => a == b
  | .tup a, .tup b => eqvs a b
  | .lst a, .lst b => eqvs a b
  | _, _ => false
def eqvs : List D → List D → Bool
  | [], [] => true
  | a :: r, b :: s => eqv a b && eqvs r s
  | _, _ => false
end
mutual
/-- whether < tells of two things: ints, texts, tuples of such -/
def cmpb : D → D → Bool
  | .int _, .int _ => true
  | .str _, .str _ => true
  | .tup a, .tup b => cmpbs a b
  | _, _ => false
def cmpbs : List D → List D → Bool
  | a :: r, b :: s => (eqv a b || cmpb a b) && cmpbs r s
  | _, _ => true
end
mutual
/-- < -/
def ltb : D → D → Bool
  | .int a, .int b => decide (a < b)
  | .str a, .str b => decide (a.cps.toList < b.cps.toList)
  | .tup a, .tup b => ltbs a b
  | _, _ => false
def ltbs : List D → List D → Bool
  | [], [] => false
  | [], _ :: _ => true
  | _ :: _, [] => false
  | a :: r, b :: s => if eqv a b then ltbs r s else ltb a b
end

def seqOf : D → Rs (List D)
  | .tup xs => .ok xs
  | .lst xs => .ok xs
  | _ => .no
def lstOf : D → Rs (List D)
  | .lst xs => .ok xs
  | _ => .no
def intOf : D → Rs Int
  | .int i => .ok i
  | _ => .no
def ixN (n : Nat) (i : Int) : Option Nat := if 0 ≤ i then (if i < n then some i.toNat else none) else if -(n : Int) ≤ i then some (i + n).toNat else none
def atI {α : Type} (xs : List α) (i : Int) : Option α := (ixN xs.length i).bind fun j => xs[j]?

/-! ### the language -/
inductive Op where | add | sub | mul | fdiv | mod | pow
  deriving DecidableEq
inductive Cm where | eq | ne | lt | le | gt | ge | is | isnot | isin | notin
  deriving DecidableEq
/-- built-in functions of values -/
inductive Bi where
  | len | range1 | range2 | range3 | tuple | list | sorted | sum | max1 | min1 | max2 | min2 | zip2 | zip3 | enum | set | set0 | dict | int | str | repr | abs | all | any | reversed | bool | lzip
  deriving DecidableEq
/-- methods that change nothing -/
inductive Mt where | get2 | get1 | items | values | keys | index | count | join | split | copy
  deriving DecidableEq
/-- methods that change a list or a dict -/
inductive Mu where | append | extend | insert | pop0 | pop1 | reverse | clear | sort | update | setdefault
  deriving DecidableEq
/-- targets -/
inductive Tg where
  | nm (i : Nat)
  | tup (ts : List Tg)

inductive E where
  | var (i : Nat)
  | mv (i : Nat)
  | lk (e : E)
  | int (n : Int)
  | str (s : Str)
  | bl (b : Bool)
  | non
  | tup (es : List E)
  | lst (es : List E)
  | bin (op : Op) (a b : E)
  | neg (a : E)
  | not (a : E)
  | cmp (op : Cm) (a b : E)
  | chain (o1 o2 : Cm) (a b c : E)
  | and (a b : E)
  | or (a b : E)
  | ife (c a b : E)
  | idx (a i : E)
  | slc (a : E) (lo hi : List E)
  | call (f : Nat) (as : List E) (io : List Nat)
  | bcall (f : Nat) (as : List E)
  | bi (f : Bi) (as : List E)
  | mt (m : Mt) (o : E) (as : List E)
  | pop (i : Nat)
  | lc (t : Tg) (it : E) (cs : List E) (e : E)
  | lc2 (t : Tg) (it : E) (cs : List E) (t2 : Tg) (it2 : E) (cs2 : List E) (e : E)
  | dc (b : Bool) (t : Tg) (it : E) (k e : E)
  | dnew (b : Bool)
  | sc (t : Tg) (it : E) (e : E)

inductive S where
  | asg (t : Tg) (e : E)
  | par (ts : List Nat) (es : List E)
  | aug (i : Nat) (op : Op) (e : E)
  | set1 (i : Nat) (ix e : E)
  | aug1 (i : Nat) (ix : E) (op : Op) (e : E)
  | set2 (i : Nat) (ix jx e : E)
  | aug2 (i : Nat) (ix jx : E) (op : Op) (e : E)
  | mcall (m : Mu) (i : Nat) (path : List E) (as : List E)
  | via (j i : Nat) (ix : E) (m : Mu) (as : List E)
  | expr (e : E)
  | ite (c : E) (a b : List S)
  | for_ (t : Tg) (it : E) (b : List S)
  | while_ (c : E) (b : List S)
  | ret (e : E)
  | retN
  | brk
  | cont
  | pass
  | raise (c : Nat) (as : List E)

/-! ### what operators do -/
def mulOk (i j : Int) : Bool := decide (i.natAbs.log2 + j.natAbs.log2 < 1000000)
def rep (k : Int) (xs : List D) : List D := (List.replicate k.toNat xs).flatten
def binop : Op → D → D → Rs D
  | .add, .int a, .int b => .ok (.int (a + b))
  | .add, .lst a, .lst b => do grd (decide (a.length + b.length ≤ line)); return .lst (a ++ b)
  | .add, .tup a, .tup b => do grd (decide (a.length + b.length ≤ line)); return .tup (a ++ b)
  | .add, .str a, .str b => do grd (decide (a.length + b.length ≤ line)); return .str (a ++ b)
  | .sub, .int a, .int b => .ok (.int (a - b))
  | .mul, .int a, .int b => do grd (mulOk a b); return .int (a * b)
  | .mul, .lst a, .int k => do grd (decide (k < 2 ^ 63 ∧ -(2 ^ 63) ≤ k ∧ a.length * k.toNat ≤ line)); return .lst (rep k a)
  | .mul, .tup a, .int k => do grd (decide (k ≤ 1000 ∧ 2 ≤ k ∧ a.length ≤ 1000) && !a.isEmpty); return .tup (rep k a)
  | .fdiv, .int a, .int b => do grd (decide (0 < b ∧ b.natAbs.log2 < 9000)); return .int (a / b)
  | .mod, .int a, .int b => do grd (decide (0 < b)); return .int (a % b)
  | .pow, .int a, .int b => do grd (decide (0 ≤ b ∧ b ≤ 1000000 ∧ a.natAbs < 2 ^ 64)); return .int (a ^ b.toNat)
  | _, _, _ => .no
def hasKey (k : D) : List (D × D) → Bool
  | [] => false
  | (x, _) :: r => eqv x k || hasKey k r
def lookKey (k : D) : List (D × D) → Option D
  | [] => none
  | (x, v) :: r => if eqv x k then some v else lookKey k r
def putKey (k v : D) (kvs : List (D × D)) : List (D × D) := if hasKey k kvs then kvs.map (fun p => if eqv p.1 k then (p.1, v) else p) else kvs ++ [(k, v)]
def memD (x : D) : List D → Bool
  | [] => false
  | y :: r => eqv y x || memD x r
/-- what may be a key: an int or a text; in dicts of the other kind a tuple of such -/
def isKey1 : D → Bool
  | .int _ => true | .str _ => true | _ => false
def isKey (t : Bool) : D → Bool
  | .int _ => !t | .str _ => !t | .tup xs => t && xs.all isKey1 | _ => false
def isin (x : D) : D → Rs Bool
  | .lst ys => do grd (plain x && plains ys); return memD x ys
  | .tup ys => do grd (plain x && plains ys); return memD x ys
  | .dct t kvs => do grd (isKey t x); return hasKey x kvs
  | .set ys => do grd (isInt x && ys.all isInt); return memD x ys
  | _ => .no
def cmpop : Cm → D → D → Rs Bool
  | .eq, a, b => do grd (plain a && plain b); return eqv a b
  | .ne, a, b => do grd (plain a && plain b); return !eqv a b
  | .lt, a, b => do grd (plain a && plain b && cmpb a b); return ltb a b
  | .gt, .int a, .int b => .ok (decide (b < a))
  | .gt, _, _ => .no
  | .le, .int a, .int b => .ok (decide (a ≤ b))
  | .ge, .int a, .int b => .ok (decide (b ≤ a))
  | .le, _, _ => .no
  | .ge, _, _ => .no
  | .is, a, .non => .ok (isNon a)
  | .isnot, a, .non => .ok (!isNon a)
  | .is, .bl a, .bl b => .ok (a == b)
  | .isnot, .bl a, .bl b => .ok (a != b)
  | .is, _, _ => .no
  | .isnot, _, _ => .no
  | .isin, a, b => isin a b
  | .notin, a, b => do return !(← isin a b)
def truth : D → Rs Bool
  | .non => .ok false
  | .bl b => .ok b
  | .int i => .ok (i != 0)
  | .str s => do grd (decide (s.length ≤ line)); return ((s.length : Int) != 0)
  | .tup xs => .ok (!xs.isEmpty)
  | .lst xs => .ok (!xs.isEmpty)
  | .dct t kvs => do grd (!t); return !kvs.isEmpty
  | .set _ => .no
def index (a i : D) : Rs D := match a, i with
  | .lst xs, .int k => ofO (atI xs k)
  | .tup xs, .int k => ofO (atI xs k)
  | .str s, .int k => do grd (decide (s.length ≤ line)); let c ← ofO (atI s.cps.toList k); return .str ⟨#[c]⟩
  | .dct t kvs, k => do grd (isKey t k); ofO (lookKey k kvs)
  | _, _ => .no
def sIx (n d : Nat) : Option Int → Nat
  | none => d
  | some v => if v < 0 then (v + (n : Int)).toNat else min v.toNat n
def cut {α : Type} (xs : List α) (lo hi : Option Int) : List α := (xs.drop (sIx xs.length 0 lo)).take (sIx xs.length xs.length hi - sIx xs.length 0 lo)
def slice (a : D) (lo hi : Option Int) : Rs D := match a with
  | .lst xs => .ok (.lst (cut xs lo hi))
  | .tup xs => .ok (.tup (cut xs lo hi))
  | .str s => do grd (decide (s.length ≤ line)); return .str ⟨(cut s.cps.toList lo hi).toArray⟩
  | _ => .no

/-! ### sorting: by insertion, stable -/
def insD (x : D) : List D → List D
  | [] => [x]
  | y :: r => if ltb y x then y :: insD x r else x :: y :: r
def sortD : List D → List D
  | [] => []
  | x :: r => insD x (sortD r)
/-- tuples that begin with an int, any two of which can be compared -/
def tupOk (xs : List D) : Bool := xs.all (fun x => match x with | .tup (.int _ :: _) => plain x | _ => false) && xs.all fun x => xs.all fun y => cmpb x y
def sortOk (xs : List D) : Bool := xs.all isInt || tupOk xs
def dedup : List D → List D → List D
  | acc, [] => acc
  | acc, x :: r => dedup (if memD x acc then acc else acc ++ [x]) r
def rangeI (a b : Int) : List D := (List.range (b - a).toNat).map fun i => D.int (a + (i : Nat))
def zipD : List D → List D → List D
  | a :: r, b :: s => .tup [a, b] :: zipD r s
  | _, _ => []
def zip3D : List D → List D → List D → List D
  | a :: r, b :: s, c :: t => .tup [a, b, c] :: zip3D r s t
  | _, _, _ => []
def enumD (n : Int) : List D → List D
  | [] => []
  | a :: r => .tup [.int n, a] :: enumD (n + 1) r
def sumD : List D → Rs Int
  | [] => .ok 0
  | .int i :: r => do return i + (← sumD r)
  | _ :: _ => .no
def boolsD : List D → Rs (List Bool)
  | [] => .ok []
  | .bl b :: r => do return b :: (← boolsD r)
  | _ :: _ => .no
def intsD : List D → Rs (List Int)
  | [] => .ok []
  | .int b :: r => do return b :: (← intsD r)
  | _ :: _ => .no
def strsD : List D → Rs (List Str)
  | [] => .ok []
  | .str b :: r => do return b :: (← strsD r)
  | _ :: _ => .no
def maxI : Int → List Int → Int
  | m, [] => m
  | m, x :: r => maxI (if m < x then x else m) r
def minI : Int → List Int → Int
  | m, [] => m
  | m, x :: r => minI (if x < m then x else m) r
def pairsD : List D → Rs (List (D × D))
  | [] => .ok []
  | .tup [k, v] :: r => do grd (isKey false k); return (k, v) :: (← pairsD r)
  | _ :: _ => .no
def mergeD (acc : List (D × D)) : List (D × D) → List (D × D)
  | [] => acc
  | (k, v) :: r => mergeD (putKey k v acc) r
/-- what is walked: the items of a value -/
def items (d : D) : Rs (List D) := seqOf d

/-! repr -/
def showNat (n : Nat) : Str := Str.ofString (toString n)
def intS (i : Int) : Str := Str.ofString (toString i)
def sizeOk (i : Int) : Bool := decide (i.natAbs < 2 ^ 1900)
mutual
/-- more than the signs of its repr -/
def room : D → Nat
  | .tup xs => 4 + rooms xs
  | .lst xs => 4 + rooms xs
  | .str s => 10 * s.length + 4
  | _ => 600
def rooms : List D → Nat
  | [] => 0
  | d :: r => room d + 2 + rooms r
end
mutual
def small : D → Bool
  | .int i => sizeOk i
  | .tup xs => smalls xs
  | .lst xs => smalls xs
  | .non => true | .bl _ => true | .str _ => true
  | _ => false
def smalls : List D → Bool
  | [] => true
  | d :: r => small d && smalls r
end
/-- repr is told of data that is not too large -/
def reprOk (d : D) : Bool := plain d && small d && decide (room d ≤ 16000000)

/-- what the built-in functions are, where the repr of data is given as a function -/
def bi (rp : D → Str) : Bi → List D → Rs D
  | .len, [.lst xs] => .ok (.int xs.length)
  | .len, [.tup xs] => .ok (.int xs.length)
  | .len, [.dct _ xs] => .ok (.int xs.length)
  | .len, [.set xs] => .ok (.int xs.length)
  | .len, [.str s] => do grd (decide (s.length ≤ line)); return .int s.length
  | .range1, [.int n] => do grd (decide (-line ≤ n ∧ n ≤ line)); return .lst (rangeI 0 n)
  | .range2, [.int a, .int b] => do grd (decide (-line ≤ a ∧ a ≤ line ∧ -line ≤ b ∧ b ≤ line)); return .lst (rangeI a b)
  | .range3, [.int a, .int b, .int c] => do
      grd (decide (c = -1 ∧ a ≤ line ∧ -line ≤ b ∧ b ≤ line ∧ -line ≤ a)); return .lst ((List.range (a - b).toNat).map fun i => D.int (a - (i : Nat)))
  | .tuple, [d] => do return .tup (← seqOf d)
  | .list, [d] => do return .lst (← seqOf d)
  | .sorted, [.set xs] => do grd (xs.all isInt && decide (xs.length < 64)); return .lst (sortD xs)
  | .sorted, [.lst xs] => do grd (sortOk xs); return .lst (sortD xs)
  | .sum, [.lst xs] => do return .int (← sumD xs)
  | .max1, [.lst xs] => do match (← intsD xs) with | [] => .no | x :: r => return .int (maxI x r)
  | .min1, [.lst xs] => do match (← intsD xs) with | [] => .no | x :: r => return .int (minI x r)
  | .max2, [.int a, .int b] => .ok (.int (if b > a then b else a))
  | .min2, [.int a, .int b] => .ok (.int (if b < a then b else a))
  | .zip2, [.lst a, .lst b] => .ok (.lst (zipD a b))
  | .zip2, [.tup a, .tup b] => .ok (.lst (zipD a b))
  | .lzip, [.lst a, .lst b] => .ok (.lst (zipD a b))
  | .zip3, [a, b, c] => do return .lst (zip3D (← seqOf a) (← seqOf b) (← seqOf c))
  | .enum, [.lst a] => .ok (.lst (enumD 0 a))
  | .reversed, [a] => do return .lst (← seqOf a).reverse
  | .set, [d] => do let xs ← seqOf d; grd (xs.all isInt && decide (xs.length ≤ 4000)); return .set (dedup [] xs)
  | .set0, [] => .ok (.set [])
  | .dict, [.dct t kvs] => .ok (.dct t kvs)
  | .dict, [d] => do let ps ← pairsD (← seqOf d); return .dct false (mergeD [] ps)
  | .int, [.int i] => .ok (.int i)
  | .int, [.bl b] => .ok (.int (b2i b))
  | .bool, [.bl b] => .ok (.bl b)
  | .str, [.int i] => do grd (sizeOk i); return .str (intS i)
  | .repr, [d] => do grd (reprOk d); return .str (rp d)
  | .abs, [.int i] => .ok (.int i.natAbs)
  | .all, [.lst xs] => do return .bl ((← boolsD xs).all id)
  | .any, [.lst xs] => do return .bl ((← boolsD xs).any id)
  | _, _ => .no
def idxOf (x : D) : Nat → List D → Option Nat
  | _, [] => none
  | n, y :: r => if eqv y x then some n else idxOf x (n + 1) r
def countD (x : D) : List D → Nat
  | [] => 0
  | y :: r => (if eqv y x then 1 else 0) + countD x r
def mt : Mt → D → List D → Rs D
  | .get2, .dct t kvs, [k, d] => do grd (isKey t k); return (lookKey k kvs).getD d
  | .get1, .dct t kvs, [k] => do grd (isKey t k); return (lookKey k kvs).getD .non
  | .items, .dct _ kvs, [] => .ok (.lst (kvs.map fun p => .tup [p.1, p.2]))
  | .values, .dct _ kvs, [] => .ok (.lst (kvs.map (·.2)))
  | .keys, .dct _ kvs, [] => .ok (.lst (kvs.map (·.1)))
  | .index, .lst xs, [x] => do grd (plain x && plains xs); return .int (← ofO (idxOf x 0 xs))
  | .index, .tup xs, [x] => do grd (plain x && plains xs); return .int (← ofO (idxOf x 0 xs))
  | .count, .lst xs, [x] => do grd (plain x && plains xs); return .int (countD x xs)
  | .count, .tup xs, [x] => do grd (plain x && plains xs); return .int (countD x xs)
  | _, _, _ => .no
/-- list.insert -/
def insAt (xs : List D) (i : Int) (x : D) : List D :=
  let k := sIx xs.length 0 (some i)
  xs.take k ++ x :: xs.drop k
def mu : Mu → D → List D → Rs D
  | .append, .lst xs, [x] => do grd (decide (xs.length < line)); return .lst (xs ++ [x])
  | .extend, .lst xs, [d] => do let ys ← seqOf d; grd (decide (xs.length + ys.length ≤ line)); return .lst (xs ++ ys)
  | .insert, .lst xs, [.int i, x] => do grd (decide (xs.length < line ∧ 0 ≤ i ∧ i < 2 ^ 62)); return .lst (insAt xs i x)
  | .reverse, .lst xs, [] => .ok (.lst xs.reverse)
  | .clear, .lst _, [] => .ok (.lst [])
  | .pop0, .lst xs, [] => do grd (!xs.isEmpty); return .lst xs.dropLast
  | _, _, _ => .no
/-- o[i] = e -/
def setIx (o i e : D) : Rs D := match o, i with
  | .lst xs, .int k => do let j ← ofO (ixN xs.length k); return .lst (xs.set j e)
  | .dct t kvs, k => do grd (isKey t k && decide (kvs.length < line)); return .dct t (putKey k e kvs)
  | _, _ => .no

/-! ### the meaning -/
mutual
def setT : Tg → D → Env → Rs Env
  | .nm i, d, r => if i < r.length then .ok (r.set i (some d)) else .no
  | .tup ts, .tup ds, r => setTs ts ds r
  | .tup _, _, _ => .no
def setTs : List Tg → List D → Env → Rs Env
  | [], [], r => .ok r
  | t :: ts, d :: ds, r => do setTs ts ds (← setT t d r)
  | _, _, _ => .no
end
mutual
def Tg.slots : Tg → List Nat
  | .nm i => [i]
  | .tup ts => Tg.slotss ts
def Tg.slotss : List Tg → List Nat
  | [] => []
  | t :: ts => t.slots ++ Tg.slotss ts
end
/-- the slots is as they were in r0 -/
def restE (r0 r : Env) : List Nat → Env
  | [] => r
  | i :: is => (restE r0 r is).set i (r0[i]?.getD none)
/-- the slots without a value -/
def clr (r : Env) : List Nat → Env
  | [] => r
  | i :: is => (clr r is).set i none
/-- fold over items with a state -/
def foldR {α β : Type} (f : β → α → Rs β) : List α → β → Rs β
  | [], b => .ok b
  | a :: r, b => do foldR f r (← f b a)
def putAll : List Nat → List D → Env → Rs Env
  | [], [], r => .ok r
  | i :: is, d :: ds, r => if i < r.length then putAll is ds (r.set i (some d)) else .no
  | _, _, _ => .no
def getAll : List Nat → Env → Rs (List D)
  | [], _ => .ok []
  | i :: is, r => do return (← rd r i) :: (← getAll is r)

/-- what the called defs are: the arguments (those that it may change apart), what comes back -/
abbrev Fs := Nat → List D → List D → Rs (D × List D)

section
variable (P : Fs) (rp : D → Str)
mutual
def ev : E → Env → Rs (D × Env)
  | .var i, r => do return (← rd r i, r)
  | .mv i, r => do return (← rd r i, r.set i none)
  | .lk e, r => do let (d, r) ← ev e r; grd (!isTS d); return (d, r)
  | .int n, r => .ok (.int n, r)
  | .str s, r => .ok (.str s, r)
  | .bl b, r => .ok (.bl b, r)
  | .non, r => .ok (.non, r)
  | .tup es, r => do let (ds, r) ← evs es r; return (.tup ds, r)
  | .lst es, r => do let (ds, r) ← evs es r; return (.lst ds, r)
  | .bin op a b, r => do let (x, r) ← ev a r; let (y, r) ← ev b r; return (← binop op x y, r)
  | .neg a, r => do let (x, r) ← ev a r; return (.int (-(← intOf x)), r)
  | .not a, r => do let (x, r) ← ev a r; return (.bl (!(← truth x)), r)
  | .cmp op a b, r => do let (x, r) ← ev a r; let (y, r) ← ev b r; return (.bl (← cmpop op x y), r)
  | .chain o1 o2 a b c, r => do
      let (x, r) ← ev a r; let (y, r) ← ev b r
      if (← cmpop o1 x y) then do let (z, r) ← ev c r; return (.bl (← cmpop o2 y z), r) else return (.bl false, r)
  | .and a b, r => do let (x, r) ← ev a r; if (← truth x) then ev b r else return (x, r)
  | .or a b, r => do let (x, r) ← ev a r; if (← truth x) then return (x, r) else ev b r
  | .ife c a b, r => do let (x, r) ← ev c r; if (← truth x) then ev a r else ev b r
  | .idx a i, r => do let (x, r) ← ev a r; let (y, r) ← ev i r; return (← index x y, r)
  | .slc a lo hi, r => do
      let (x, r) ← ev a r; let (l, r) ← evs lo r; let (h, r) ← evs hi r
      let l ← intsD l; let h ← intsD h
      return (← slice x l.head? h.head?, r)
  | .call f as io, r => do
      let (ds, r) ← evs as r; let os ← getAll io r
      let (d, os) ← P f ds os
      return (d, ← putAll io os r)
  | .bcall f as, r => do
      let (ds, r) ← evs as r
      let (d, _) ← P f ds []
      grd (atom d)
      return (d, r)
  | .bi f as, r => do let (ds, r) ← evs as r; return (← bi rp f ds, r)
  | .mt m o as, r => do let (x, r) ← ev o r; let (ds, r) ← evs as r; return (← mt m x ds, r)
  | .pop i, r => do
      let xs ← lstOf (← rd r i); let d ← ofO xs.getLast?
      return (d, r.set i (some (.lst xs.dropLast)))
  | .lc t it cs e, r => do
      let (x, r0) ← ev it r; let xs ← items x
      let (acc, r) ← foldR (fun (acc, r) d => do
        let r ← setT t d (clr r t.slots)
        let (b, r) ← evc cs r
        if b then do let (y, r) ← ev e r; grd (decide (acc.length < line)); return (acc ++ [y], r) else return (acc, r)) xs (([] : List D), r0)
      return (.lst acc, restE r0 r t.slots)
  | .lc2 t it cs t2 it2 cs2 e, r => do
      let (x, r0) ← ev it r; let xs ← items x
      let (acc, r) ← foldR (fun (acc, r) d => do
        let r ← setT t d (clr r (t.slots ++ t2.slots))
        let (b, r) ← evc cs r
        if b then do
          let (x2, r) ← ev it2 r; let ys ← items x2
          foldR (fun (acc, r) d => do
            let r ← setT t2 d (clr r t2.slots)
            let (b, r) ← evc cs2 r
            if b then do let (y, r) ← ev e r; grd (decide (acc.length < line)); return (acc ++ [y], r) else return (acc, r)) ys (acc, r)
        else return (acc, r)) xs (([] : List D), r0)
      return (.lst acc, restE r0 r (t.slots ++ t2.slots))
  | .dnew b, r => .ok (.dct b [], r)
  | .dc b t it k e, r => do
      let (x, r0) ← ev it r; let xs ← items x
      let (acc, r) ← foldR (fun (acc, r) d => do
        let r ← setT t d (clr r t.slots)
        let (kk, r) ← ev k r
        let (y, r) ← ev e r
        grd (isKey b kk)
        return (putKey kk y acc, r)) xs (([] : List (D × D)), r0)
      return (.dct b acc, restE r0 r t.slots)
  | .sc t it e, r => do
      let (x, r0) ← ev it r; let xs ← items x
      let (acc, r) ← foldR (fun (acc, r) d => do
        let r ← setT t d (clr r t.slots)
        let (y, r) ← ev e r
        grd (isInt y)
        return (if memD y acc then acc else acc ++ [y], r)) xs (([] : List D), r0)
      return (.set acc, restE r0 r t.slots)
def evs : List E → Env → Rs (List D × Env)
  | [], r => .ok ([], r)
  | e :: es, r => do let (d, r) ← ev e r; let (ds, r) ← evs es r; return (d :: ds, r)
/-- tests -/
def evc : List E → Env → Rs (Bool × Env)
  | [], r => .ok (true, r)
  | e :: es, r => do let (d, r) ← ev e r; if (← truth d) then evc es r else return (false, r)
end

/-- how a statement ends -/
inductive Fl where
  | nx (r : Env) | ret (d : D) (r : Env) | bk (r : Env) | ct (r : Env)

/-- change the object at a path of a value -/
def atPath (f : D → Rs D) : List D → D → Rs D
  | [], d => f d
  | .int k :: p, .lst xs => do
      let j ← ofO (ixN xs.length k)
      let y ← ofO xs[j]?
      return .lst (xs.set j (← atPath f p y))
  | k :: p, .dct t kvs => do
      grd (isKey t k)
      let y ← ofO (lookKey k kvs)
      return .dct t (putKey k (← atPath f p y) kvs)
  | _, _ => .no
/-- for over items -/
def forR (f : D → Env → Rs Fl) : List D → Env → Rs Fl
  | [], r => .ok (.nx r)
  | d :: ds, r => do
      match (← f d r) with
      | .nx r => forR f ds r
      | .ct r => forR f ds r
      | .bk r => return .nx r
      | .ret d r => return .ret d r
/-- while, at most n times -/
def whl (c : Env → Rs (Bool × Env)) (f : Env → Rs Fl) : Nat → Env → Rs Fl
  | 0, _ => .no
  | n + 1, r => do
      let (b, r) ← c r
      if b then
        match (← f r) with
        | .nx r => whl c f n r
        | .ct r => whl c f n r
        | .bk r => return .nx r
        | .ret d r => return .ret d r
      else return .nx r
variable (n : Nat)
mutual
def st : S → Env → Rs Fl
  | .asg t e, r => do let (d, r) ← ev P rp e r; return .nx (← setT t d r)
  | .par ts es, r => do let (ds, r) ← evs P rp es r; return .nx (← putAll ts ds r)
  | .aug i op e, r => do let x ← rd r i; let (y, r) ← ev P rp e r; grd (isInt x && isInt y); return .nx (r.set i (some (← binop op x y)))
  | .set1 i ix e, r => do
      let (d, r) ← ev P rp e r; let (k, r) ← ev P rp ix r; let o ← rd r i
      return .nx (r.set i (some (← setIx o k d)))
  | .aug1 i ix op e, r => do
      let (k, r) ← ev P rp ix r; let o ← rd r i; let x ← index o k
      let (y, r) ← ev P rp e r
      grd (isInt x && isInt y)
      let z ← binop op x y
      let o ← rd r i
      return .nx (r.set i (some (← setIx o k z)))
  | .set2 i ix jx e, r => do
      let (d, r) ← ev P rp e r; let o ← rd r i; let (k, r) ← ev P rp ix r; let (j, r) ← ev P rp jx r
      return .nx (r.set i (some (← atPath (fun p => setIx p j d) [k] o)))
  | .aug2 i ix jx op e, r => do
      let (k, r) ← ev P rp ix r; let (j, r) ← ev P rp jx r; let o ← rd r i
      let x ← index (← index o k) j
      let (y, r) ← ev P rp e r
      let z ← binop op x y
      return .nx (r.set i (some (← atPath (fun p => setIx p j z) [k] o)))
  | .mcall m i path as, r => do
      grd (isLst (← rd r i))
      let (ks, r) ← evs P rp path r; let (ds, r) ← evs P rp as r
      let o ← rd r i
      return .nx (r.set i (some (← atPath (fun p => mu m p ds) ks o)))
  | .via j i ix m as, r => do
      let (k, r) ← ev P rp ix r
      let o0 ← rd r i; let x0 ← lstOf o0; let kk ← intOf k; let y0 ← ofO (atI x0 kk)
      grd (isLst y0 && decide (j < r.length))
      let (ds, r) ← evs P rp as (r.set j none)
      let o ← rd r i
      return .nx (r.set i (some (← atPath (fun p => mu m p ds) [k] o)))
  | .expr e, r => do let (_, r) ← ev P rp e r; return .nx r
  | .ite c a b, r => do let (x, r) ← ev P rp c r; if (← truth x) then sts a r else sts b r
  | .for_ t it b, r => do
      let (x, r) ← ev P rp it r; let ds ← items x
      forR (fun d r => do sts b (← setT t d r)) ds r
  | .while_ c b, r => whl (fun r => do let (x, r) ← ev P rp c r; return (← truth x, r)) (fun r => sts b r) n r
  | .ret e, r => do let (d, r) ← ev P rp e r; return .ret d r
  | .retN, r => .ok (.ret .non r)
  | .brk, r => .ok (.bk r)
  | .cont, r => .ok (.ct r)
  | .pass, r => .ok (.nx r)
  | .raise c as, r => do let (ds, r) ← evs P rp as r; .ex c ds
def sts : List S → Env → Rs Fl
  | [], r => .ok (.nx r)
  | s :: ss, r => do
      match (← st s r) with
      | .nx r => sts ss r
      | f => return f
end
end

/-- a def: how many parameters, what each slot is (0: never changed in place; 1: changed; 2: changed one deeper), how its result comes back -/
structure Fn where
  np : Nat
  ks : List Nat
  ret : Nat
  body : List S
  names : List String
/-- the parameters that are changed in place -/
def iosFrom : Nat → List Nat → List Nat
  | _, [] => []
  | j, 0 :: ks => iosFrom (j + 1) ks
  | j, (_ + 1) :: ks => j :: iosFrom (j + 1) ks
def Fn.ios (f : Fn) : List Nat := iosFrom 0 (f.ks.take f.np)
def Fn.ros (f : Fn) : List Nat := (List.range f.np).filter fun i => f.ks.getD i 0 == 0
/-- the parameters, those that are changed apart -/
def mkEnv : List Nat → List D → List D → Option Env
  | [], [], [] => some []
  | 0 :: ks, d :: ros, ios => (mkEnv ks ros ios).map (some d :: ·)
  | (_ + 1) :: ks, ros, d :: ios => (mkEnv ks ros ios).map (some d :: ·)
  | _, _, _ => none
/-- a def's meaning by that of those that it calls -/
def Fn.run (P : Fs) (rp : D → Str) (n : Nat) (f : Fn) (ros ios : List D) : Rs (D × List D) := do
  let r ← ofO (mkEnv (f.ks.take f.np) ros ios)
  match (← sts P rp n f.body (r ++ List.replicate (f.ks.length - f.np) none)) with
  | .ret d r => return (d, ← getAll f.ios r)
  | .nx r => return (.non, ← getAll f.ios r)
  | _ => .no
end C

set_option Elab.async false
set_option linter.all false
set_option maxRecDepth 100000
/-! Sound1: how values of Core lie in the abstract heap; owners; the frame's relation. -/
namespace C
open PySem PySem.Spec PyProof.Rows L2

theorem line_eq : sizeLine = line := sizeLine_eq

/-- the written part, the program, the world -/
structure Wd where
  K : PySem.W.Frag
  P : Program
  w : World
abbrev wdOf (X : Cx) : Wd := ⟨X.K, X.prog, X.w⟩

def Le (H H' : Hp) : Prop := ∀ a o, H a = some o → H' a = some o
theorem Le.refl (H : Hp) : Le H H := fun _ _ h => h
theorem Le.trans {H H1 H2 : Hp} (a : Le H H1) (b : Le H1 H2) : Le H H2 := fun c o h => b c o (a c o h)
theorem Le.sqL {K : PySem.W.Frag} {H H' : Hp} {a : Addr} {xs : List V} (e : Le H H') (h : SqL K H a xs) : SqL K H' a xs := by
  rcases h with (h | ⟨o, h⟩) | h
  · exact .inl (.inl (e _ _ h))
  · exact .inl (.inr ⟨o, e _ _ h⟩)
  · exact .inr h
theorem Le.rd {H H' : Hp} {a : Addr} {o : HO} (e : Le H H') (h : Rd H a o) : Rd H' a o := by
  rcases h with h | ⟨u, h⟩
  · exact .inl (e _ _ h)
  · exact .inr ⟨u, e _ _ h⟩
theorem Le.sqT {K : PySem.W.Frag} {H H' : Hp} {a : Addr} {xs : List V} (e : Le H H') (h : SqT K H a xs) : SqT K H' a xs := by
  rcases h with (h | ⟨o, h⟩) | h
  · exact .inl (.inl (e _ _ h))
  · exact .inl (.inr ⟨o, e _ _ h⟩)
  · exact .inr h
theorem Le.upd {H : Hp} {p : Addr} {o : HO} (h : H p = none) : Le H (upd H p o) := fun a u e => by
  rw [upd_ne (ne_of_none e h)]; exact e

/-- who may change what: the list at a name's own address, and those below it -/
abbrev Ow := Addr → Option Addr
/-- what nobody may change -/
def ro (H : Hp) (O : Ow) : Hp := fun a => if O a = none then H a else none
theorem ro_le {H : Hp} {O : Ow} : Le (ro H O) H := fun a o e => by
  unfold ro at e; split at e
  · exact e
  · cases e
theorem ro_of {H : Hp} {O : Ow} {a : Addr} (h : O a = none) : ro H O a = H a := by unfold ro; rw [if_pos h]
theorem ro_inv {H : Hp} {O : Ow} {a : Addr} {o : HO} (h : ro H O a = some o) : O a = none ∧ H a = some o := by
  unfold ro at h; split at h
  · exact ⟨by assumption, h⟩
  · cases h

def keyD : Key → D
  | .inl i => .int i
  | .inr s => .str s
def tkeyD (ks : List Key) : D := .tup (ks.map keyD)

/-- a set of ints -/
def SetI (g : Wd) (a : Addr) (ns : List Int) : HO := SetO g.w a (fun i => decide (i ∈ ns)) ns.length

mutual
inductive Lay (g : Wd) (H : Hp) : V → D → Prop
  | non : Lay g H .non .non
  | bl (b : Bool) : Lay g H (.bl b) (.bl b)
  | int (i : Int) : Lay g H (.int i) (.int i)
  | str (x : Str) : Lay g H (.str x) (.str x)
  | lst {a : Addr} {xs : List V} {ds : List D} : Rd H a (.lst xs) → LayL g H xs ds → Lay g H (.ref a) (.lst ds)
  | tup {a : Addr} {xs : List V} {ds : List D} : H a = some (.tup xs) → LayL g H xs ds → Lay g H (.ref a) (.tup ds)
  | dk {a : Addr} {kvs : List (Key × V)} {ds : List (D × D)} : H a = some (.dK kvs) → LayK g H kvs ds → Lay g H (.ref a) (.dct false ds)
  | dt {a : Addr} {kvs : List (List Key × V)} {ds : List (D × D)} : H a = some (.dT kvs) → LayT g H kvs ds → Lay g H (.ref a) (.dct true ds)
  | set {a : Addr} {ns : List Int} : H a = some (SetI g a ns) → ns.Nodup → Lay g H (.ref a) (.set (ns.map D.int))
inductive LayL (g : Wd) (H : Hp) : List V → List D → Prop
  | nil : LayL g H [] []
  | cons {v : V} {vs : List V} {d : D} {ds : List D} : Lay g H v d → LayL g H vs ds → LayL g H (v :: vs) (d :: ds)
inductive LayK (g : Wd) (H : Hp) : List (Key × V) → List (D × D) → Prop
  | nil : LayK g H [] []
  | cons {k : Key} {v : V} {vs : List (Key × V)} {d : D} {ds : List (D × D)} : Lay g H v d → LayK g H vs ds → LayK g H ((k, v) :: vs) ((keyD k, d) :: ds)
inductive LayT (g : Wd) (H : Hp) : List (List Key × V) → List (D × D) → Prop
  | nil : LayT g H [] []
  | cons {k : List Key} {v : V} {vs : List (List Key × V)} {d : D} {ds : List (D × D)} : Lay g H v d → LayT g H vs ds → LayT g H ((k, v) :: vs) ((tkeyD k, d) :: ds)
end

section
variable {g : Wd} {H H' : Hp}
mutual
theorem Lay.le (e : Le H H') : ∀ {v : V} {d : D}, Lay g H v d → Lay g H' v d
  | _, _, .non => .non
  | _, _, .bl b => .bl b
  | _, _, .int i => .int i
  | _, _, .str x => .str x
  | _, _, .lst h r => .lst (e.rd h) (LayL.le e r)
  | _, _, .tup h r => .tup (e _ _ h) (LayL.le e r)
  | _, _, .dk h r => .dk (e _ _ h) (LayK.le e r)
  | _, _, .dt h r => .dt (e _ _ h) (LayT.le e r)
  | _, _, .set h n => .set (e _ _ h) n
theorem LayL.le (e : Le H H') : ∀ {vs : List V} {ds : List D}, LayL g H vs ds → LayL g H' vs ds
  | _, _, .nil => .nil
  | _, _, .cons a r => .cons (Lay.le e a) (LayL.le e r)
theorem LayK.le (e : Le H H') : ∀ {vs : List (Key × V)} {ds : List (D × D)}, LayK g H vs ds → LayK g H' vs ds
  | _, _, .nil => .nil
  | _, _, .cons a r => .cons (Lay.le e a) (LayK.le e r)
theorem LayT.le (e : Le H H') : ∀ {vs : List (List Key × V)} {ds : List (D × D)}, LayT g H vs ds → LayT g H' vs ds
  | _, _, .nil => .nil
  | _, _, .cons a r => .cons (Lay.le e a) (LayT.le e r)
end
theorem LayL.length : ∀ {vs : List V} {ds : List D}, LayL g H vs ds → vs.length = ds.length
  | _, _, .nil => rfl
  | _, _, .cons _ r => by rw [List.length_cons, List.length_cons, LayL.length r]
theorem LayK.length : ∀ {vs : List (Key × V)} {ds : List (D × D)}, LayK g H vs ds → vs.length = ds.length
  | _, _, .nil => rfl
  | _, _, .cons _ r => by rw [List.length_cons, List.length_cons, LayK.length r]
theorem LayT.length : ∀ {vs : List (List Key × V)} {ds : List (D × D)}, LayT g H vs ds → vs.length = ds.length
  | _, _, .nil => rfl
  | _, _, .cons _ r => by rw [List.length_cons, List.length_cons, LayT.length r]
theorem LayL.get : ∀ {vs : List V} {ds : List D} {i : Nat} {d : D}, LayL g H vs ds → ds[i]? = some d → ∃ v, vs[i]? = some v ∧ Lay g H v d
  | _, _, _, _, .nil, e => by simp at e
  | _, _, 0, _, .cons a _, e => by simp at e; subst e; exact ⟨_, rfl, a⟩
  | _, _, i + 1, d, .cons _ r, e => by
    obtain ⟨v, h1, h2⟩ := LayL.get (i := i) (d := d) r (by simpa using e)
    exact ⟨v, by simpa using h1, h2⟩
theorem LayL.getV : ∀ {vs : List V} {ds : List D} {i : Nat} {v : V}, LayL g H vs ds → vs[i]? = some v → ∃ d, ds[i]? = some d ∧ Lay g H v d
  | _, _, _, _, .nil, e => by simp at e
  | _, _, 0, _, .cons a _, e => by simp at e; subst e; exact ⟨_, rfl, a⟩
  | _, _, i + 1, d, .cons _ r, e => by
    obtain ⟨v, h1, h2⟩ := LayL.getV (i := i) (v := d) r (by simpa using e)
    exact ⟨v, by simpa using h1, h2⟩
theorem LayL.append : ∀ {vs ws : List V} {ds es : List D}, LayL g H vs ds → LayL g H ws es → LayL g H (vs ++ ws) (ds ++ es)
  | _, _, _, _, .nil, s => s
  | _, _, _, _, .cons a r, s => .cons a (LayL.append r s)
theorem LayL.drop : ∀ {vs : List V} {ds : List D} (n : Nat), LayL g H vs ds → LayL g H (vs.drop n) (ds.drop n)
  | _, _, 0, r => r
  | _, _, _ + 1, .nil => .nil
  | _, _, n + 1, .cons _ r => LayL.drop n r
theorem LayL.take : ∀ {vs : List V} {ds : List D} (n : Nat), LayL g H vs ds → LayL g H (vs.take n) (ds.take n)
  | _, _, 0, _ => .nil
  | _, _, _ + 1, .nil => .nil
  | _, _, n + 1, .cons a r => .cons a (LayL.take n r)
theorem LayL.set {v : V} {d : D} (h : Lay g H v d) : ∀ {vs : List V} {ds : List D} (i : Nat), LayL g H vs ds → LayL g H (vs.set i v) (ds.set i d)
  | _, _, _, .nil => .nil
  | _, _, 0, .cons _ r => .cons h r
  | _, _, i + 1, .cons a r => .cons a (LayL.set h i r)
theorem LayL.dropLast : ∀ {vs : List V} {ds : List D}, LayL g H vs ds → LayL g H vs.dropLast ds.dropLast
  | _, _, .nil => .nil
  | _, _, .cons _ .nil => .nil
  | _, _, .cons a (.cons b r) => .cons a (LayL.dropLast (.cons b r))
theorem LayL.reverse {vs : List V} {ds : List D} (h : LayL g H vs ds) : LayL g H vs.reverse ds.reverse := by
  induction vs generalizing ds with
  | nil => cases h; exact .nil
  | cons v vs ih =>
    cases h with
    | cons a r =>
      rw [List.reverse_cons, List.reverse_cons]
      exact (ih r).append (.cons a .nil)
theorem LayL.rep (k : Nat) {vs : List V} {ds : List D} (h : LayL g H vs ds) : LayL g H (List.replicate k vs).flatten (List.replicate k ds).flatten := by
  induction k with
  | zero => exact .nil
  | succ k ih =>
    rw [List.replicate_succ, List.replicate_succ, List.flatten_cons, List.flatten_cons]
    exact h.append ih
theorem LayL.ints : ∀ (ns : List Int), LayL g H (ns.map V.int) (ns.map D.int)
  | [] => .nil
  | n :: r => .cons (.int n) (LayL.ints r)
/-- what is no object needs no heap -/
theorem Lay.atom {v : V} {d : D} (h : Lay g H v d) (a : atom d = true) : Lay g H' v d := by
  cases h with
  | non => exact .non
  | bl b => exact .bl b
  | int i => exact .int i
  | str x => exact .str x
  | _ => cases a
end

/-- the owners' bookkeeping -/
structure WF (H : Hp) (O : Ow) : Prop where
  root : ∀ a r, O a = some r → O r = some r
  trk : ∀ a r, O a = some r → ∃ o, H a = some o

/-- a list (a dict) of one's own at v; what is in it nobody may change -/
def Own1 (g : Wd) (H : Hp) (O : Ow) (v : V) (d : D) : Prop :=
  match d with
  | .lst ds => ∃ a xs, v = V.ref a ∧ H a = some (.lst xs) ∧ O a = some a ∧ LayL g (ro H O) xs ds
  | .dct false ds => ∃ a kvs, v = V.ref a ∧ O a = some a ∧ H a = some (.dK kvs) ∧ LayK g (ro H O) kvs ds
  | .dct true ds => ∃ a kvs, v = V.ref a ∧ O a = some a ∧ H a = some (.dT kvs) ∧ LayT g (ro H O) kvs ds
  | d => atom d = true ∧ Lay g (ro H O) v d
/-- a list that belongs to the one at r -/
def Sub1 (g : Wd) (H : Hp) (O : Ow) (r : Addr) (v : V) (d : D) : Prop :=
  match d with
  | .lst ds => ∃ b xs, v = V.ref b ∧ b ≠ r ∧ H b = some (.lst xs) ∧ O b = some r ∧ LayL g (ro H O) xs ds
  | d => atom d = true ∧ Lay g (ro H O) v d
/-- a list of lists of one's own -/
def Own2 (g : Wd) (H : Hp) (O : Ow) (v : V) (d : D) : Prop :=
  match d with
  | .lst ds => ∃ a xs, v = V.ref a ∧ H a = some (.lst xs) ∧ O a = some a ∧ xs.length = ds.length ∧
      (∀ (i : Nat) v d, xs[i]? = some v → ds[i]? = some d → Sub1 g H O a v d) ∧ ∀ (i j : Nat) b, xs[i]? = some (V.ref b) → xs[j]? = some (V.ref b) → i = j
  | d => atom d = true ∧ Lay g (ro H O) v d
def Slot (g : Wd) (H : Hp) (O : Ow) : Nat → V → D → Prop
  | 0 => Lay g (ro H O)
  | 1 => Own1 g H O
  | _ => Own2 g H O

/-- the roots of the live names that are changed in place -/
def Mine (ks : List Nat) (σ : L2.St) (ρ : Env) (r : Addr) : Prop := ∃ i d, ks.getD i 0 ≠ 0 ∧ ρ[i]? = some (some d) ∧ σ[i]? = some (some (V.ref r))
structure Rel (g : Wd) (ks : List Nat) (H : Hp) (O : Ow) (σ : L2.St) (ρ : Env) : Prop where
  wf : WF H O
  len : ρ.length = σ.length
  slot : ∀ i d, ρ[i]? = some (some d) → ∃ v, σ[i]? = some (some v) ∧ Slot g H O (ks.getD i 0) v d
  apart : ∀ i j r d e, i ≠ j → ks.getD i 0 ≠ 0 → ks.getD j 0 ≠ 0 → ρ[i]? = some (some d) → ρ[j]? = some (some e) → σ[i]? = some (some (V.ref r)) → σ[j]? ≠ some (some (V.ref r))

theorem Slot.root {g : Wd} {H : Hp} {O : Ow} {k : Nat} {r : Addr} {d : D} (hk : k ≠ 0) (h : Slot g H O k (.ref r) d) : O r = some r ∧ atom d = false := by
  have at1 : ∀ {d : D}, atom d = true ∧ Lay g (ro H O) (.ref r) d → False := fun {d} ⟨a, l⟩ => by cases l <;> cases a
  match k, hk with
  | 1, _ =>
    have h : Own1 g H O (.ref r) d := h
    cases d with
    | lst ds => obtain ⟨a, xs, e, _, o, _⟩ := h; cases e; exact ⟨o, rfl⟩
    | dct b ds => cases b <;> (obtain ⟨a, _, e, o, _⟩ := h; cases e; exact ⟨o, rfl⟩)
    | _ => exact (at1 h).elim
  | k + 2, _ =>
    have h : Own2 g H O (.ref r) d := h
    cases d with
    | lst ds => obtain ⟨a, xs, e, _, o, _⟩ := h; cases e; exact ⟨o, rfl⟩
    | _ => exact (at1 h).elim
theorem Rel.mine {g : Wd} {ks : List Nat} {H : Hp} {O : Ow} {σ : L2.St} {ρ : Env} (R : Rel g ks H O σ ρ) {r : Addr} (m : Mine ks σ ρ r) : O r = some r ∧ ∃ o, H r = some o := by
  obtain ⟨i, d, hk, hd, hs⟩ := m
  obtain ⟨v, e, s⟩ := R.slot i d hd
  rw [hs] at e; cases e
  have o := (s.root hk).1
  exact ⟨o, R.wf.trk _ _ o⟩

/-- one goes on from (H, O) to (H', O'): what is below the roots M may have changed, all else stands -/
structure Step (M : Addr → Prop) (H : Hp) (O : Ow) (H' : Hp) (O' : Ow) : Prop where
  ro : ∀ a o, O a = none → H a = some o → O' a = none ∧ H' a = some o
  fo : ∀ a r, O a = some r → ¬ M r → O' a = some r ∧ H' a = H a
  tr : ∀ a o, H a = some o → ∃ o', H' a = some o'
section
variable {M M' : Addr → Prop} {H H1 H2 : Hp} {O O1 O2 : Ow} {g : Wd}
theorem Step.refl : Step M H O H O := ⟨fun _ _ a b => ⟨a, b⟩, fun _ _ a _ => ⟨a, rfl⟩, fun _ o e => ⟨o, e⟩⟩
theorem Step.mono (s : Step M H O H1 O1) (h : ∀ r, M r → M' r) : Step M' H O H1 O1 :=
  ⟨s.ro, fun a r e n => s.fo a r e fun m => n (h r m), s.tr⟩
theorem Step.none_of (s : Step M H O H1 O1) {a : Addr} (h : H1 a = none) : H a = none := by
  cases e : H a with
  | none => rfl
  | some o => obtain ⟨o', q⟩ := s.tr a o e; rw [h] at q; cases q
theorem Step.trans (w : WF H O) (s : Step M H O H1 O1) (t : Step M' H1 O1 H2 O2) (h : ∀ r, M' r → M r ∨ H r = none) : Step M H O H2 O2 where
  ro := fun a o e q => let ⟨x, y⟩ := s.ro a o e q; t.ro a o x y
  fo := fun a r e n => by
    obtain ⟨x, y⟩ := s.fo a r e n
    obtain ⟨x', y'⟩ := t.fo a r x fun m => by
      rcases h r m with z | z
      · exact n z
      · obtain ⟨o, q⟩ := w.trk _ _ (w.root a r e); rw [z] at q; cases q
    exact ⟨x', y'.trans y⟩
  tr := fun a o e => let ⟨o', x⟩ := s.tr a o e; t.tr a o' x
theorem Step.le (s : Step M H O H1 O1) : Le (C.ro H O) (C.ro H1 O1) := fun a o e => by
  obtain ⟨x, y⟩ := ro_inv e
  obtain ⟨x', y'⟩ := s.ro a o x y
  rw [ro_of x']; exact y'
/-- where nothing is changed -/
theorem Step.le0 (s : Step (fun _ => False) H O H1 O1) : Le H H1 := fun a o e => by
  cases q : O a with
  | none => exact (s.ro a o q e).2
  | some r => rw [(s.fo a r q fun z => z).2]; exact e
/-- a new object that nobody may change -/
theorem Step.new {p : Addr} {o : HO} (w : WF H O) (hp : H p = none) : Step M H O (upd H p o) O ∧ WF (upd H p o) O ∧ O p = none := by
  have op : O p = none := by
    cases q : O p with
    | none => rfl
    | some r => obtain ⟨o, e⟩ := w.trk _ _ q; rw [hp] at e; cases e
  refine ⟨⟨fun a u e q => ⟨e, by rw [upd_ne (ne_of_none q hp)]; exact q⟩, fun a r e _ => ⟨e, ?_⟩, fun a u e => ⟨u, by rw [upd_ne (ne_of_none e hp)]; exact e⟩⟩, ⟨w.root, fun a r e => ?_⟩, op⟩
  · obtain ⟨u, q⟩ := w.trk _ _ e
    rw [upd_ne (ne_of_none q hp)]
  · obtain ⟨u, q⟩ := w.trk _ _ e
    exact ⟨u, by rw [upd_ne (ne_of_none q hp)]; exact q⟩
def own (O : Ow) (p r : Addr) : Ow := fun a => if a = p then some r else O a
theorem own_same {p r : Addr} : own O p r p = some r := by unfold own; rw [if_pos rfl]
theorem own_ne {p r a : Addr} (h : a ≠ p) : own O p r a = O a := by unfold own; rw [if_neg h]
/-- a new object of one's own -/
theorem Step.newOwn {p : Addr} {o : HO} (w : WF H O) (hp : H p = none) : Step M H O (upd H p o) (own O p p) ∧ WF (upd H p o) (own O p p) := by
  obtain ⟨s, w', op⟩ := Step.new (M := M) (o := o) w hp
  have ne : ∀ {a u}, H a = some u → a ≠ p := fun q => ne_of_none q hp
  refine ⟨⟨fun a u e q => ⟨by rw [own_ne (ne q)]; exact e, (s.ro a u e q).2⟩, fun a r e n => ⟨?_, (s.fo a r e n).2⟩, s.tr⟩, ⟨fun a r e => ?_, fun a r e => ?_⟩⟩
  · obtain ⟨u, q⟩ := w.trk _ _ e
    rw [own_ne (ne q)]; exact e
  · by_cases h : a = p
    · subst h; rw [own_same] at e; cases e; exact own_same
    · rw [own_ne h] at e
      have q := w.root _ _ e
      obtain ⟨u, q'⟩ := w.trk _ _ q
      rw [own_ne (ne q')]; exact q
  · by_cases h : a = p
    · subst h; exact ⟨_, upd_same⟩
    · rw [own_ne h] at e
      obtain ⟨u, q⟩ := w.trk _ _ e
      exact ⟨u, by rw [upd_ne h]; exact q⟩
/-- what a root owns is given to all -/
def free (O : Ow) (r : Addr) : Ow := fun a => if O a = some r then none else O a
theorem free_of {r a : Addr} (h : O a = some r) : free O r a = none := by unfold free; rw [if_pos h]
theorem free_ne {r a : Addr} (h : O a ≠ some r) : free O r a = O a := by unfold free; rw [if_neg h]
theorem Step.freed {r : Addr} (w : WF H O) (m : M r) : Step M H O H (free O r) ∧ WF H (free O r) := by
  refine ⟨⟨fun a u e q => ⟨by rw [free_ne (by rw [e]; simp)]; exact e, q⟩, fun a s e n => ⟨?_, rfl⟩, fun a u e => ⟨u, e⟩⟩, ⟨fun a s e => ?_, fun a s e => ?_⟩⟩
  · have : O a ≠ some r := fun z => by rw [e] at z; cases z; exact n m
    rw [free_ne this]; exact e
  · unfold free at e; split at e
    · cases e
    · rename_i h
      have q := w.root _ _ e
      rw [free_ne (by rw [q]; intro z; cases z; exact h e)]; exact q
  · unfold free at e; split at e
    · cases e
    · exact w.trk _ _ e
theorem freed_le {r : Addr} : Le (C.ro H O) (C.ro H (free O r)) := fun a o e => by
  obtain ⟨x, y⟩ := ro_inv e
  rw [ro_of (by rw [free_ne (by rw [x]; simp)]; exact x)]; exact y
end

section
variable {M : Addr → Prop} {H H1 : Hp} {O O1 : Ow} {g : Wd}
/-- what is owned by a root that is none of M stands -/
theorem Own1.step (s : Step M H O H1 O1) {v : V} {d : D} (h : Own1 g H O v d) (n : ∀ r, v = V.ref r → ¬ M r) : Own1 g H1 O1 v d := by
  cases d with
  | lst ds =>
    obtain ⟨a, xs, rfl, h1, h2, h3⟩ := h
    obtain ⟨x, y⟩ := s.fo a a h2 (n a rfl)
    exact ⟨a, xs, rfl, y.trans h1, x, h3.le s.le⟩
  | dct b ds =>
    cases b
    · obtain ⟨a, k, rfl, h2, h1, h3⟩ := h
      obtain ⟨x, y⟩ := s.fo a a h2 (n a rfl)
      exact ⟨a, k, rfl, x, y.trans h1, h3.le s.le⟩
    · obtain ⟨a, k, rfl, h2, h1, h3⟩ := h
      obtain ⟨x, y⟩ := s.fo a a h2 (n a rfl)
      exact ⟨a, k, rfl, x, y.trans h1, h3.le s.le⟩
  | _ => exact ⟨h.1, h.2.le s.le⟩
theorem Sub1.step (s : Step M H O H1 O1) {r : Addr} {v : V} {d : D} (h : Sub1 g H O r v d) (n : ¬ M r) : Sub1 g H1 O1 r v d := by
  cases d with
  | lst ds =>
    obtain ⟨b, xs, rfl, h0, h1, h2, h3⟩ := h
    obtain ⟨x, y⟩ := s.fo b r h2 n
    exact ⟨b, xs, rfl, h0, y.trans h1, x, h3.le s.le⟩
  | _ => exact ⟨h.1, h.2.le s.le⟩
theorem Own2.step (s : Step M H O H1 O1) {v : V} {d : D} (h : Own2 g H O v d) (n : ∀ r, v = V.ref r → ¬ M r) : Own2 g H1 O1 v d := by
  cases d with
  | lst ds =>
    obtain ⟨a, xs, rfl, h1, h2, h3, h4, h5⟩ := h
    obtain ⟨x, y⟩ := s.fo a a h2 (n a rfl)
    exact ⟨a, xs, rfl, y.trans h1, x, h3, fun i v d e1 e2 => (h4 i v d e1 e2).step s (n a rfl), h5⟩
  | _ => exact ⟨h.1, h.2.le s.le⟩
theorem Slot.step (s : Step M H O H1 O1) : ∀ {k : Nat} {v : V} {d : D}, Slot g H O k v d → (k ≠ 0 → ∀ r, v = V.ref r → ¬ M r) → Slot g H1 O1 k v d
  | 0, _, _, h, _ => Lay.le s.le h
  | 1, _, _, h, n => Own1.step s h (n (by decide))
  | k + 2, _, _, h, n => Own2.step s h (n (by simp))
/-- given to all -/
theorem Own1.frozen {v : V} {d : D} (h : Own1 g H O v d) (w : WF H O) : (∃ r, v = V.ref r ∧ O r = some r ∧ Lay g (ro H (free O r)) v d) ∨ (atom d = true ∧ Lay g (ro H O) v d) := by
  cases d with
  | lst ds =>
    obtain ⟨a, xs, rfl, h1, h2, h3⟩ := h
    exact .inl ⟨a, rfl, h2, .lst (.of (by rw [ro_of (free_of h2)]; exact h1)) (h3.le freed_le)⟩
  | dct b ds =>
    cases b
    · obtain ⟨a, k, rfl, h2, h1, h3⟩ := h
      exact .inl ⟨a, rfl, h2, .dk (by rw [ro_of (free_of h2)]; exact h1) (h3.le freed_le)⟩
    · obtain ⟨a, k, rfl, h2, h1, h3⟩ := h
      exact .inl ⟨a, rfl, h2, .dt (by rw [ro_of (free_of h2)]; exact h1) (h3.le freed_le)⟩
  | _ => exact .inr h
theorem layL_of {g : Wd} {H : Hp} : ∀ {xs : List V} {ds : List D}, xs.length = ds.length → (∀ (i : Nat) v d, xs[i]? = some v → ds[i]? = some d → Lay g H v d) → LayL g H xs ds
  | [], [], _, _ => .nil
  | x :: xs, d :: ds, e, h => .cons (h 0 x d rfl rfl) (layL_of (by simpa using e) fun i v d a b => h (i + 1) v d (by simpa using a) (by simpa using b))
  | [], _ :: _, e, _ => by simp at e
  | _ :: _, [], e, _ => by simp at e
theorem Sub1.frozen {r : Addr} {v : V} {d : D} (h : Sub1 g H O r v d) : Lay g (ro H (free O r)) v d := by
  cases d with
  | lst ds =>
    obtain ⟨b, xs, rfl, h0, h1, h2, h3⟩ := h
    exact .lst (.of (by rw [ro_of (free_of h2)]; exact h1)) (h3.le freed_le)
  | _ => exact h.2.le freed_le
theorem Own2.frozen {v : V} {d : D} (h : Own2 g H O v d) (w : WF H O) : (∃ r, v = V.ref r ∧ O r = some r ∧ Lay g (ro H (free O r)) v d) ∨ (atom d = true ∧ Lay g (ro H O) v d) := by
  cases d with
  | lst ds =>
    obtain ⟨a, xs, rfl, h1, h2, h3, h4, h5⟩ := h
    exact .inl ⟨a, rfl, h2, .lst (.of (by rw [ro_of (free_of h2)]; exact h1)) (layL_of h3 fun i v d e1 e2 => (h4 i v d e1 e2).frozen)⟩
  | _ => exact .inr h
theorem Slot.frozen {k : Nat} {v : V} {d : D} (h : Slot g H O k v d) (w : WF H O) : (∃ r, v = V.ref r ∧ O r = some r ∧ Lay g (ro H (free O r)) v d) ∨ Lay g (ro H O) v d := by
  match k, h with
  | 0, h => exact .inr h
  | 1, h => exact (Own1.frozen h w).imp id fun x => x.2
  | k + 2, h => exact (Own2.frozen h w).imp id fun x => x.2
/-- it can be read -/
theorem Sub1.lay {r : Addr} {v : V} {d : D} (h : Sub1 g H O r v d) : Lay g H v d := by
  cases d with
  | lst ds =>
    obtain ⟨b, xs, rfl, h0, h1, h2, h3⟩ := h
    exact .lst (.of h1) (h3.le ro_le)
  | _ => exact h.2.le ro_le
theorem Slot.lay {k : Nat} {v : V} {d : D} (h : Slot g H O k v d) : Lay g H v d := by
  match k, h with
  | 0, h => exact Lay.le ro_le h
  | 1, h =>
    have h : Own1 g H O v d := h
    cases d with
    | lst ds => obtain ⟨a, xs, rfl, h1, h2, h3⟩ := h; exact .lst (.of h1) (h3.le ro_le)
    | dct b ds =>
      cases b
      · obtain ⟨a, k, rfl, h2, h1, h3⟩ := h
        exact .dk h1 (h3.le ro_le)
      · obtain ⟨a, k, rfl, h2, h1, h3⟩ := h
        exact .dt h1 (h3.le ro_le)
    | _ => exact h.2.le ro_le
  | k + 2, h =>
    have h : Own2 g H O v d := h
    cases d with
    | lst ds =>
      obtain ⟨a, xs, rfl, h1, h2, h3, h4, h5⟩ := h
      exact .lst (.of h1) (layL_of h3 fun i v d e1 e2 => (h4 i v d e1 e2).lay)
    | _ => exact h.2.le ro_le
end
end C

set_option Elab.async false
set_option linter.all false
set_option maxRecDepth 100000
/-! Sound2: the judgement of expressions; names, constants, displays, operators. -/
namespace C
open PySem PySem.Spec PyProof.Rows L2

/-- how a value is wanted: to be read at once; with items that nobody may change; shared (own 0) or one's own -/
inductive Md where | b | k | own (n : Nat)
  deriving DecidableEq

def Top (g : Wd) (H : Hp) (O : Ow) (v : V) (d : D) : Prop :=
  match d with
  | .lst ds => ∃ a xs, v = V.ref a ∧ Rd H a (.lst xs) ∧ LayL g (ro H O) xs ds
  | .dct false ds => ∃ a kvs, v = V.ref a ∧ H a = some (.dK kvs) ∧ LayK g (ro H O) kvs ds
  | .dct true ds => ∃ a kvs, v = V.ref a ∧ H a = some (.dT kvs) ∧ LayT g (ro H O) kvs ds
  | d => Lay g (ro H O) v d
def ResO (g : Wd) (n : Nat) (H0 : Hp) (H : Hp) (O : Ow) (v : V) (d : D) : Prop := if isTS d = true then Lay g (ro H O) v d else Slot g H O (n + 1) v d ∧ ∀ r, v = V.ref r → H0 r = none
/-- at (H, O), behind a start at H0 -/
def Res (g : Wd) (m : Md) (H0 : Hp) (H : Hp) (O : Ow) (v : V) (d : D) : Prop :=
  match m with
  | .b => Lay g H v d
  | .k => Top g H O v d
  | .own 0 => Lay g (ro H O) v d
  | .own (n + 1) => ResO g n H0 H O v d

section
variable {g : Wd} {H0 H H1 : Hp} {O O1 : Ow} {v : V} {d : D} {m : Md}
theorem Top.lay (h : Top g H O v d) : Lay g H v d := by
  cases d with
  | lst ds => obtain ⟨a, xs, rfl, h1, h2⟩ := h; exact .lst h1 (h2.le ro_le)
  | dct b ds =>
    cases b
    · obtain ⟨a, k, rfl, h1, h2⟩ := h; exact .dk h1 (h2.le ro_le)
    · obtain ⟨a, k, rfl, h1, h2⟩ := h; exact .dt h1 (h2.le ro_le)
  | _ => exact Lay.le ro_le h
theorem Top.of (h : Lay g (ro H O) v d) : Top g H O v d := by
  cases h with
  | lst h1 h2 => exact ⟨_, _, rfl, ro_le.rd h1, h2⟩
  | tup h1 h2 => exact .tup h1 h2
  | dk h1 h2 => exact ⟨_, _, rfl, ro_le _ _ h1, h2⟩
  | dt h1 h2 => exact ⟨_, _, rfl, ro_le _ _ h1, h2⟩
  | non => exact .non
  | bl b => exact .bl b
  | int i => exact .int i
  | str x => exact .str x
  | set h n => exact .set h n
theorem Own1.top (h : Own1 g H O v d) : Top g H O v d := by
  cases d with
  | lst ds => obtain ⟨a, xs, rfl, h1, h2, h3⟩ := h; exact ⟨a, xs, rfl, .of h1, h3⟩
  | dct b ds => cases b <;> (obtain ⟨a, k, rfl, h2, h1, h3⟩ := h; exact ⟨a, k, rfl, h1, h3⟩)
  | _ => exact Top.of h.2
theorem Res.lay (h : Res g m H0 H O v d) : Lay g H v d := by
  match m, h with
  | .b, h => exact h
  | .k, h => exact Top.lay h
  | .own 0, h => exact Lay.le ro_le h
  | .own (n + 1), h =>
    have h : ResO g n H0 H O v d := h
    unfold ResO at h
    split at h
    · exact h.le ro_le
    · exact h.1.lay
theorem Res.top (h : Res g m H0 H O v d) (e : m = .k ∨ m = .own 0 ∨ m = .own 1) : Top g H O v d := by
  rcases e with rfl | rfl | rfl
  · exact h
  · exact Top.of h
  · have h : ResO g 0 H0 H O v d := h
    unfold ResO at h
    split at h
    · exact Top.of h
    · exact Own1.top h.1
theorem Top.step {M : Addr → Prop} (s : Step M H O H1 O1) (l : Le H H1) (h : Top g H O v d) : Top g H1 O1 v d := by
  cases d with
  | lst ds => obtain ⟨a, xs, rfl, h1, h2⟩ := h; exact ⟨a, xs, rfl, l.rd h1, h2.le s.le⟩
  | dct b ds => cases b <;> (obtain ⟨a, k, rfl, h1, h2⟩ := h; exact ⟨a, k, rfl, l _ _ h1, h2.le s.le⟩)
  | _ => exact Lay.le s.le h
/-- what is read at once stands where nothing changes; what is shared stands -/
theorem Res.stay {M : Addr → Prop} (s : Step M H O H1 O1) (h : Res g m H0 H O v d) (e : (∀ r, ¬ M r) ∨ m = .own 0) (n : ∀ k, m ≠ .own (k + 1)) : Res g m H0 H1 O1 v d := by
  have l : (∀ r, ¬ M r) → Le H H1 := fun z => (s.mono (M' := fun _ => False) fun r mr => z r mr).le0
  match m, h with
  | .b, h =>
    rcases e with e | e
    · exact Lay.le (l e) h
    · cases e
  | .k, h =>
    rcases e with e | e
    · exact Top.step s (l e) h
    · cases e
  | .own 0, h => exact Lay.le s.le h
  | .own (k + 1), h => exact (n k rfl).elim
/-- an atom as it is wanted -/
theorem Res.at_ (h : Lay g H v d) (a : atom d = true) : Res g m H0 H1 O1 v d := by
  match m with
  | .b => exact h.atom a
  | .k => exact Top.of (h.atom a)
  | .own 0 => exact h.atom a
  | .own 1 =>
    show ResO g 0 H0 H1 O1 v d
    unfold ResO
    rw [if_neg (by cases d <;> first | (cases a; done) | simp [isTS])]
    have hr : ∀ r, v = V.ref r → H0 r = none := fun r e => by subst e; cases h <;> cases a
    refine ⟨?_, hr⟩
    show Own1 g H1 O1 v d
    cases d <;> first | (cases a; done) | exact ⟨rfl, h.atom rfl⟩
  | .own (n + 2) =>
    show ResO g (n + 1) H0 H1 O1 v d
    unfold ResO
    rw [if_neg (by cases d <;> first | (cases a; done) | simp [isTS])]
    have hr : ∀ r, v = V.ref r → H0 r = none := fun r e => by subst e; cases h <;> cases a
    refine ⟨?_, hr⟩
    show Own2 g H1 O1 v d
    cases d <;> first | (cases a; done) | exact ⟨rfl, h.atom rfl⟩
end

/-- what an expression may change -/
def Mn (pu : Bool) (ks : List Nat) (σ : L2.St) (ρ : Env) (r : Addr) : Prop := pu = false ∧ Mine ks σ ρ r
def Sub (ρ' ρ : Env) : Prop := ∀ (i : Nat) d, ρ'[i]? = some (some d) → ∃ e, ρ[i]? = some (some e)
theorem Sub.refl (ρ : Env) : Sub ρ ρ := fun _ d h => ⟨d, h⟩
theorem Sub.trans {a b c : Env} (h : Sub a b) (h' : Sub b c) : Sub a c := fun i d e => let ⟨_, e1⟩ := h i d e; h' i _ e1
theorem Mine.sub {ks : List Nat} {σ : L2.St} {ρ ρ' : Env} (h : Sub ρ' ρ) {r : Addr} (m : Mine ks σ ρ' r) : Mine ks σ ρ r := by
  obtain ⟨i, d, a, b, c⟩ := m
  obtain ⟨e, b'⟩ := h i d b
  exact ⟨i, e, a, b', c⟩
/-- behind an expression -/
structure Post (g : Wd) (ks : List Nat) (pu : Bool) (H : Hp) (O : Ow) (σ : L2.St) (ρ ρ' : Env) (H' : Hp) (O' : Ow) : Prop where
  step : Step (Mn pu ks σ ρ) H O H' O'
  rel : Rel g ks H' O' σ ρ'
  sub : Sub ρ' ρ
section
variable {g : Wd} {ks : List Nat} {p q : Bool} {H H1 H2 : Hp} {O O1 O2 : Ow} {σ : L2.St} {ρ ρ1 ρ2 : Env}
theorem Post.refl (R : Rel g ks H O σ ρ) : Post g ks p H O σ ρ ρ H O := ⟨Step.refl, R, Sub.refl ρ⟩
theorem Post.trans (R : Rel g ks H O σ ρ) (a : Post g ks p H O σ ρ ρ1 H1 O1) (b : Post g ks q H1 O1 σ ρ1 ρ2 H2 O2) : Post g ks (p && q) H O σ ρ ρ2 H2 O2 := by
  refine ⟨?_, b.rel, b.sub.trans a.sub⟩
  refine (a.step.mono (M' := Mn (p && q) ks σ ρ) fun r ⟨x, y⟩ => ⟨by rw [x]; rfl, y⟩).trans R.wf b.step fun r ⟨x, y⟩ => .inl ⟨by rw [x]; simp, y.sub a.sub⟩
theorem Post.weak (a : Post g ks p H O σ ρ ρ1 H1 O1) (h : q = true → p = true) : Post g ks q H O σ ρ ρ1 H1 O1 :=
  ⟨a.step.mono fun r ⟨x, y⟩ => ⟨by (cases q with | false => rfl | true => (rw [h rfl] at x; cases x)), y⟩, a.rel, a.sub⟩
/-- the relation where nothing of mine changed -/
theorem Rel.stay {M : Addr → Prop} (R : Rel g ks H O σ ρ) (s : Step M H O H1 O1) (w : WF H1 O1) (n : ∀ r, M r → ¬ Mine ks σ ρ r) : Rel g ks H1 O1 σ ρ :=
  ⟨w, R.len, fun i d e => by
    obtain ⟨v, e1, h⟩ := R.slot i d e
    refine ⟨v, e1, h.step s fun hk r er m => n r m ⟨i, d, hk, e, by rw [e1, er]⟩⟩, R.apart⟩
/-- something new, given to all -/
theorem Post.new {x : Addr} {o : HO} (R : Rel g ks H O σ ρ) (hx : H x = none) : Post g ks true H O σ ρ ρ (upd H x o) O ∧ O x = none := by
  obtain ⟨s, w, ox⟩ := Step.new (M := Mn true ks σ ρ) (o := o) R.wf hx
  exact ⟨⟨s, R.stay s w (fun r ⟨a, _⟩ => by cases a), Sub.refl ρ⟩, ox⟩
theorem Post.newOwn {x : Addr} {o : HO} (R : Rel g ks H O σ ρ) (hx : H x = none) : Post g ks true H O σ ρ ρ (upd H x o) (own O x x) := by
  obtain ⟨s, w⟩ := Step.newOwn (M := Mn true ks σ ρ) (o := o) R.wf hx
  exact ⟨s, R.stay s w (fun r ⟨a, _⟩ => by cases a), Sub.refl ρ⟩
end

/-- the reading of an expression whose meaning is f, wanted as m -/
def TEd (g : Wd) (ks : List Nat) (m : Md) (pu : Bool) (f : Env → Rs (D × Env)) : TE := fun σ H Q => ∃ O ρ d ρ', Rel g ks H O σ ρ ∧ f ρ = .ok (d, ρ') ∧
  ∀ v H' O', Post g ks pu H O σ ρ ρ' H' O' → Res g m H H' O' v d → Q v H'
def TAd (g : Wd) (ks : List Nat) (m : Md) (pu : Bool) (f : Env → Rs (List D × Env)) : TA := fun σ H Q => ∃ O ρ ds ρ', Rel g ks H O σ ρ ∧ f ρ = .ok (ds, ρ') ∧
  ∀ vs H' O', Post g ks pu H O σ ρ ρ' H' O' → Paired (Res g m H H' O') vs ds → Q vs H'
def TTd (g : Wd) (ks : List Nat) (pu : Bool) (f : Env → Rs (Bool × Env)) : TT := fun σ H Q => ∃ O ρ b ρ', Rel g ks H O σ ρ ∧ f ρ = .ok (b, ρ') ∧
  ∀ H' O', Post g ks pu H O σ ρ ρ' H' O' → Q b H'
theorem PE.imp {X : Cx} {e : Expr} {t t' : TE} (h : PE X e t) (w : ∀ σ H Q, t' σ H Q → t σ H Q) : PE X e t' := ⟨fun pins s σ H Q I q => h.run pins s σ H Q I (w σ H Q q)⟩
theorem PA.imp {X : Cx} {e : List Expr} {t t' : TA} (h : PA X e t) (w : ∀ σ H Q, t' σ H Q → t σ H Q) : PA X e t' := ⟨fun p pins s σ H Q I q => h.run p pins s σ H Q I (w σ H Q q)⟩
theorem PT.imp {X : Cx} {e : Expr} {t t' : TT} (h : PT X e t) (w : ∀ σ H Q, t' σ H Q → t σ H Q) : PT X e t' := ⟨fun pins s σ H Q I q => h.run pins s σ H Q I (w σ H Q q)⟩
theorem PS.imp {X : Cx} {e : Stmt} {t t' : TS} (h : PS X e t) (w : ∀ D σ H, t' D σ H → t D σ H) : PS X e t' := ⟨fun pins s σ H D I q => h.run pins s σ H D I (w D σ H q)⟩
theorem PSs.imp {X : Cx} {e : List Stmt} {t t' : TS} (h : PSs X e t) (w : ∀ D σ H, t' D σ H → t D σ H) : PSs X e t' := ⟨fun pins s σ H D I q => h.run pins s σ H D I (w D σ H q)⟩

theorem bind_ok {α β : Type} {r : Rs α} {f : α → Rs β} {b : β} (h : (r >>= f) = .ok b) : ∃ a, r = .ok a ∧ f a = .ok b := by
  cases r with
  | ok a => exact ⟨a, rfl, h⟩
  | ex c as => cases h
  | no => cases h
theorem pure_inj {α : Type} {a b : α} (h : (pure a : Rs α) = .ok b) : a = b := by injection h
theorem grd_ok {b : Bool} {u : Unit} (h : grd b = .ok u) : b = true := by
  cases b with
  | true => rfl
  | false => cases h
theorem rd_ok {r : Env} {i : Nat} {d : D} (h : rd r i = .ok d) : r[i]? = some (some d) := by
  unfold rd at h
  split at h
  · rename_i e; injection h with h; subst h; exact e
  · cases h

section
variable {X : Cx} {g : Wd} {ks : List Nat} {P : Fs} {rp : D → Str} {m : Md} {pu : Bool} {pos : Pos}

/-! ### names, constants -/
def okVar (m : Md) (k : Nat) : Bool := match m with
  | .b => true
  | .k => decide (k ≤ 1)
  | .own 0 => k == 0
  | .own _ => false
theorem d_var {i : Nat} {x : Str} (hN : X.N[i]? = some x) (hv : Vis X.env.scope x) (ok : okVar m (ks.getD i 0) = true) (hd : (x == ("__debug__" : Str)) = false) (hcd : (x == ("__classdict__" : Str)) = false) :
    PE X (.Name x pos) (TEd g ks m pu (ev P rp (.var i))) := by
  refine PE.imp (pe_var hN hv hd hcd) fun σ H Q ⟨O, ρ, d, ρ', R, e, q⟩ => ?_
  unfold ev at e
  obtain ⟨d1, e1, e2⟩ := bind_ok e
  obtain ⟨rfl, rfl⟩ := Prod.mk.inj (pure_inj e2)
  obtain ⟨v, es, h⟩ := R.slot i d1 (rd_ok e1)
  refine ⟨v, es, q v H O (Post.refl R) ?_⟩
  generalize hk : ks.getD i 0 = k at h ok
  match m, ok with
  | .b, _ => exact h.lay
  | .k, ok =>
    have : k ≤ 1 := of_decide_eq_true ok
    match k, h with
    | 0, h => exact Top.of h
    | 1, h => exact Own1.top h
  | .own 0, ok =>
    have : k = 0 := by simpa [okVar] using ok
    subst this
    exact h
theorem d_const {e : Expr} {v : V} {d : D} {c : E} (h : PE X e (tC v)) (hc : ∀ ρ, ev P rp c ρ = .ok (d, ρ)) (a : atom d = true) (l : Lay g (fun _ => none) v d) : PE X e (TEd g ks m pu (ev P rp c)) := by
  refine PE.imp h fun σ H Q ⟨O, ρ, d', ρ', R, e, q⟩ => ?_
  rw [hc] at e
  injection e with e
  obtain ⟨rfl, rfl⟩ := Prod.mk.inj e
  exact q v H O (Post.refl R) (Res.at_ l a)

/-! ### lists of expressions -/
theorem d_nil : PA X [] (TAd g ks m pu (evs P rp [])) := by
  refine PA.imp pa_nil fun σ H Q ⟨O, ρ, ds, ρ', R, e, q⟩ => ?_
  unfold evs at e
  injection e with e
  obtain ⟨rfl, rfl⟩ := Prod.mk.inj e
  exact q [] H O (Post.refl R) .nil
theorem d_cons {c : E} {cs : List E} {e : Expr} {es : List Expr} {p1 p2 : Bool} (ha : PE X e (TEd g ks m p1 (ev P rp c))) (hr : PA X es (TAd g ks m p2 (evs P rp cs)))
    (hs : starEach (e :: es) X.env = (false, eval e X.env) :: starEach es X.env) (hm : p2 = true ∨ m = .own 0) (hn : ∀ k, m ≠ .own (k + 1)) : PA X (e :: es) (TAd g ks m (p1 && p2) (evs P rp (c :: cs))) := by
  refine PA.imp (pa_cons ha hr hs) fun σ H Q ⟨O, ρ, ds, ρ', R, e, q⟩ => ?_
  unfold evs at e
  obtain ⟨⟨d, ρ1⟩, e1, e⟩ := bind_ok e
  obtain ⟨⟨ds1, ρ2⟩, e2, e⟩ := bind_ok e
  obtain ⟨rfl, rfl⟩ := Prod.mk.inj (pure_inj e)
  refine ⟨O, ρ, d, ρ1, R, e1, fun v H1 O1 p r => ⟨O1, ρ1, ds1, ρ2, p.rel, e2, fun vs H2 O2 p' r' => ?_⟩⟩
  refine q (v :: vs) H2 O2 (p.trans R p') (.cons ?_ ?_)
  · refine r.stay p'.step ?_ hn
    rcases hm with z | z
    · exact .inl fun r ⟨w, _⟩ => by rw [z] at w; cases w
    · exact .inr z
  · refine Paired.mapP r' fun a b z => ?_
    match m, hn, z with
    | .b, _, z => exact z
    | .k, _, z => exact z
    | .own 0, _, z => exact z
    | .own (k + 1), hn, _ => exact (hn k rfl).elim
theorem layL_paired {H : Hp} : ∀ {vs : List V} {ds : List D}, Paired (Lay g H) vs ds → LayL g H vs ds
  | _, _, .nil => .nil
  | _, _, .cons a r => .cons a (layL_paired r)
theorem paired_layL {H : Hp} : ∀ {vs : List V} {ds : List D}, LayL g H vs ds → Paired (Lay g H) vs ds
  | _, _, .nil => .nil
  | _, _, .cons a r => .cons a (paired_layL r)

/-! ### new things -/
/-- the way a new list, tuple is wanted -/
theorem newL {H : Hp} {O : Ow} {σ : L2.St} {ρ : Env} {p : Addr} {xs : List V} {ds : List D} (R : Rel g ks H O σ ρ) (hp : H p = none) (l : LayL g (ro H O) xs ds) (hm : m = .b ∨ m = .k ∨ m = .own 0 ∨ m = .own 1) :
    ∃ O', Post g ks true H O σ ρ ρ (upd H p (.lst xs)) O' ∧ Res g m H (upd H p (.lst xs)) O' (.ref p) (.lst ds) := by
  obtain ⟨P1, op⟩ := Post.new (o := .lst xs) R hp
  have l1 : LayL g (ro (upd H p (.lst xs)) O) xs ds := l.le P1.step.le
  have sq : Rd (ro (upd H p (.lst xs)) O) p (.lst xs) := .of (by rw [ro_of op]; exact upd_same)
  rcases hm with rfl | rfl | rfl | rfl
  · exact ⟨O, P1, Lay.lst (ro_le.rd sq) (l1.le ro_le)⟩
  · exact ⟨O, P1, p, xs, rfl, ro_le.rd sq, l1⟩
  · exact ⟨O, P1, Lay.lst sq l1⟩
  · have P2 := Post.newOwn (o := .lst xs) R hp
    refine ⟨own O p p, P2, ?_⟩
    show ResO g 0 _ _ _ _ _
    unfold ResO
    rw [if_neg (by simp [isTS])]
    exact ⟨⟨p, xs, rfl, upd_same, own_same, l.le P2.step.le⟩, fun r e => by cases e; exact hp⟩
theorem newT {H : Hp} {O : Ow} {σ : L2.St} {ρ : Env} {p : Addr} {xs : List V} {ds : List D} (R : Rel g ks H O σ ρ) (hp : H p = none) (l : LayL g (ro H O) xs ds) :
    Post g ks true H O σ ρ ρ (upd H p (.tup xs)) O ∧ Res g m H (upd H p (.tup xs)) O (.ref p) (.tup ds) := by
  obtain ⟨P1, op⟩ := Post.new (o := .tup xs) R hp
  have l1 : LayL g (ro (upd H p (.tup xs)) O) xs ds := l.le P1.step.le
  have sq : ro (upd H p (.tup xs)) O p = some (.tup xs) := by rw [ro_of op]; exact upd_same
  refine ⟨P1, ?_⟩
  match m with
  | .b => exact Lay.tup (ro_le _ _ sq) (l1.le ro_le)
  | .k => exact Lay.tup sq l1
  | .own 0 => exact Lay.tup sq l1
  | .own (n + 1) =>
    show ResO g n _ _ _ _ _
    unfold ResO; rw [if_pos (show isTS (D.tup ds) = true from rfl)]; exact Lay.tup sq l1
/-- freshness against an earlier start -/
theorem Res.early {H0 H1 H : Hp} {O : Ow} {v : V} {d : D} {M : Addr → Prop} {O0 O1 : Ow} (s : Step M H0 O0 H1 O1) (h : Res g m H1 H O v d) : Res g m H0 H O v d := by
  match m, h with
  | .b, h => exact h
  | .k, h => exact h
  | .own 0, h => exact h
  | .own (n + 1), h =>
    have h : ResO g n H1 H O v d := h
    show ResO g n H0 H O v d
    unfold ResO at h ⊢
    split
    · rw [if_pos (by assumption)] at h; exact h
    · rw [if_neg (by assumption)] at h; exact ⟨h.1, fun r e => s.none_of (h.2 r e)⟩
theorem d_tup {cs : List E} {es : List Expr} {k : Nat} (h : PA X es (TAd g ks (.own 0) pu (evs P rp cs))) (hl : cs.length ≤ 1000) (hl2 : ∀ ρ ds ρ', evs P rp cs ρ = .ok (ds, ρ') → ds.length = cs.length) :
    PE X (.Tuple es k pos) (TEd g ks m pu (ev P rp (.tup cs))) := by
  refine PE.imp (pe_tup h) fun σ H Q ⟨O, ρ, d, ρ', R, e, q⟩ => ?_
  unfold ev at e
  obtain ⟨⟨ds, ρ1⟩, e1, e⟩ := bind_ok e
  obtain ⟨rfl, rfl⟩ := Prod.mk.inj (pure_inj e)
  refine ⟨O, ρ, ds, ρ1, R, e1, fun vs H1 O1 p r => ?_⟩
  have l := layL_paired (g := g) r
  refine ⟨by rw [l.length, hl2 _ _ _ e1, sizeLine_eq]; omega, fun a ha => ?_⟩
  obtain ⟨P2, r2⟩ := newT (m := m) p.rel ha l
  have P3 := p.trans R P2
  rw [Bool.and_true] at P3
  exact q _ _ _ P3 (r2.early p.step)
theorem d_lst {cs : List E} {es : List Expr} (h : PA X es (TAd g ks (.own 0) pu (evs P rp cs))) (hl : cs.length ≤ 1000) (hl2 : ∀ ρ ds ρ', evs P rp cs ρ = .ok (ds, ρ') → ds.length = cs.length)
    (hm : m = .b ∨ m = .k ∨ m = .own 0 ∨ m = .own 1) : PE X (.List es pos) (TEd g ks m pu (ev P rp (.lst cs))) := by
  refine PE.imp (pe_lst h) fun σ H Q ⟨O, ρ, d, ρ', R, e, q⟩ => ?_
  unfold ev at e
  obtain ⟨⟨ds, ρ1⟩, e1, e⟩ := bind_ok e
  obtain ⟨rfl, rfl⟩ := Prod.mk.inj (pure_inj e)
  refine ⟨O, ρ, ds, ρ1, R, e1, fun vs H1 O1 p r => ?_⟩
  have l := layL_paired (g := g) r
  refine ⟨by rw [l.length, hl2 _ _ _ e1, sizeLine_eq]; omega, fun a ha => ?_⟩
  obtain ⟨O2, P2, r2⟩ := newL (m := m) p.rel ha l hm
  have P3 := p.trans R P2
  rw [Bool.and_true] at P3
  exact q _ _ _ P3 (r2.early p.step)
/-- [] that will hold lists of its own -/
theorem d_lst2 : PE X (.List [] pos) (TEd g ks (.own 2) pu (ev P rp (.lst []))) := by
  refine PE.imp (pe_lst pa_nil) fun σ H Q ⟨O, ρ, d, ρ', R, e, q⟩ => ?_
  have e' : ev P rp (.lst []) ρ = .ok (.lst [], ρ) := by simp [ev, evs]
  rw [e'] at e
  injection e with e
  obtain ⟨rfl, rfl⟩ := Prod.mk.inj e
  refine ⟨Nat.zero_le _, fun a ha => ?_⟩
  have P2 := Post.newOwn (o := .lst []) R ha
  refine q _ _ _ (P2.weak fun _ => rfl) ?_
  show ResO g 1 _ _ _ _ _
  unfold ResO
  rw [if_neg (by simp [isTS])]
  exact ⟨⟨a, [], rfl, upd_same, own_same, rfl, fun i v d h => by simp at h, fun i j b h => by simp at h⟩, fun r e => by cases e; exact ha⟩
end
end C

set_option Elab.async false
set_option linter.all false
set_option maxRecDepth 100000
set_option maxHeartbeats 1000000
/-! Sound3: operators on values. -/
namespace C
open PySem PySem.Spec PyProof.Rows L2

/-- what a value operation gives: nothing that stood is changed -/
def Out (g : Wd) (m : Md) (H : Hp) (O : Ow) (d : D) (Q : VK) : Prop := ∀ z H' O', Step (fun _ => False) H O H' O' → WF H' O' → Res g m H H' O' z d → Q z H'
theorem Out.at_ {g : Wd} {m : Md} {H : Hp} {O : Ow} {d : D} {Q : VK} {v : V} (q : Out g m H O d Q) (w : WF H O) (l : Lay g H v d) (a : atom d = true) : Q v H := q v H O Step.refl w (Res.at_ l a)
section
variable {g : Wd} {m : Md} {H : Hp} {O : Ow} {Q : VK}
theorem Out.lst {p : Addr} {xs : List V} {ds : List D} (q : Out g m H O (.lst ds) Q) (w : WF H O) (hp : H p = none) (l : LayL g (ro H O) xs ds) (hm : ∀ k, m ≠ .own (k + 2)) : Q (.ref p) (upd H p (.lst xs)) := by
  obtain ⟨s, w', op⟩ := Step.new (M := fun _ => False) (o := .lst xs) w hp
  have l1 : LayL g (ro (upd H p (.lst xs)) O) xs ds := l.le s.le
  have sq : Rd (ro (upd H p (.lst xs)) O) p (.lst xs) := .of (by rw [ro_of op]; exact upd_same)
  match m, hm, q with
  | .b, _, q => exact q _ _ O s w' (Lay.lst (ro_le.rd sq) (l1.le ro_le))
  | .k, _, q => exact q _ _ O s w' ⟨p, xs, rfl, ro_le.rd sq, l1⟩
  | .own 0, _, q => exact q _ _ O s w' (Lay.lst sq l1)
  | .own 1, _, q =>
    obtain ⟨s2, w2⟩ := Step.newOwn (M := fun _ => False) (o := .lst xs) w hp
    refine q _ _ (own O p p) s2 w2 ?_
    show ResO g 0 _ _ _ _ _
    unfold ResO
    rw [if_neg (by simp [isTS])]
    exact ⟨⟨p, xs, rfl, upd_same, own_same, l.le s2.le⟩, fun r e => by cases e; exact hp⟩
  | .own (k + 2), hm, _ => exact (hm k rfl).elim
theorem Res.ts {H0 : Hp} {v : V} {d : D} (h : Lay g (ro H O) v d) (t : isTS d = true) : Res g m H0 H O v d := by
  match m with
  | .b => exact Lay.le ro_le h
  | .k => exact Top.of h
  | .own 0 => exact h
  | .own (n + 1) =>
    show ResO g n _ _ _ _ _
    unfold ResO; rw [if_pos t]; exact h
theorem Out.same {v : V} {d : D} (q : Out g m H O d Q) (w : WF H O) (l : Lay g (ro H O) v d) (t : isTS d = true) : Q v H := q v H O Step.refl w (Res.ts l t)
theorem Out.tup {p : Addr} {xs : List V} {ds : List D} (q : Out g m H O (.tup ds) Q) (w : WF H O) (hp : H p = none) (l : LayL g (ro H O) xs ds) : Q (.ref p) (upd H p (.tup xs)) := by
  obtain ⟨s, w', op⟩ := Step.new (M := fun _ => False) (o := .tup xs) w hp
  have l1 : LayL g (ro (upd H p (.tup xs)) O) xs ds := l.le s.le
  exact q _ _ O s w' (Res.ts (Lay.tup (by rw [ro_of op]; exact upd_same) l1) rfl)
end

/-! ### lists as they are read -/
section
variable {X : Cx} {pins : List (Addr × Obj)} {σ : L2.St} {H : Hp} {s : Shared}
theorem rdL {l : Addr} {xs : List V} (I : Inv X pins σ H s) (h : Rd H l (.lst xs)) : xs.length ≤ sizeLine ∧ ∃ (its : List Value) (n : Nat), Vals xs its ∧ xs.length = its.length ∧ s.heap.get? l = some { cls := .type "list", data := .seq its.toArray n } := by
  obtain ⟨z, its, n, r, e⟩ := h.ok I.hok
  exact ⟨z, its, n, r, r.length, e⟩
def rCatL : R2 := fun x y H Q => ∃ l b xs zs, x = .ref l ∧ y = .ref b ∧ Rd H l (.lst xs) ∧ Rd H b (.lst zs) ∧ xs.length + zs.length ≤ sizeLine ∧ ∀ p, H p = none → Q (.ref p) (upd H p (.lst (xs ++ zs)))
theorem op_catL : OpR X (binaryOp .Add) rCatL := by
  intro pins s σ H x y v u Q I rx ry h
  obtain ⟨l, b, xs, zs, rfl, rfl, hH, hB, hz, q⟩ := h
  cases rx
  cases ry
  obtain ⟨z, its, n, r, hl, e⟩ := rdL I hH
  obtain ⟨z2, its2, n2, r2, hl2, e2⟩ := rdL I hB
  refine PySem.P.add_list e e2 ?_ (by rw [List.size_toArray, List.size_toArray]; omega)
  have ea : its.toArray ++ its2.toArray = (its ++ its2).toArray := by simp
  rw [ea]
  exact ⟨.ref _, _, I.lnew (t' := s.toks) (r.append r2) (by rw [List.length_append]; omega), rfl, q _ I.fresh⟩
def rRepL : R2 := fun x y H Q => ∃ l k xs, x = .ref l ∧ y = .int k ∧ Rd H l (.lst xs) ∧ -(2 ^ 63) ≤ k ∧ k < 2 ^ 63 ∧ xs.length * k.toNat ≤ sizeLine ∧
  ∀ p, H p = none → Q (.ref p) (upd H p (.lst (List.replicate k.toNat xs).flatten))
theorem op_repL : OpR X (binaryOp .Mult) rRepL := by
  intro pins s σ H x y v u Q I rx ry h
  obtain ⟨l, k, xs, rfl, rfl, hH, h1, h2, hz, q⟩ := h
  cases rx
  obtain ⟨t, rfl⟩ := ry
  obtain ⟨z, its, n, r, hl, e⟩ := rdL I hH
  have hlen : its.toArray.size * k.toNat ≤ sizeLine := by rw [List.size_toArray, ← hl]; exact hz
  have hcap : ¬ its.toArray.size * k.toNat > (2 ^ 63 - 1) / 8 := by
    have : (sizeLine : Nat) ≤ (2 ^ 63 - 1) / 8 := by decide
    omega
  have hfit : ¬ (!Builtin.List.listFitsIndex k) = true := by
    rw [fitsIndex_both h1 h2]
    exact Bool.false_ne_true
  have hlong : ¬ Builtin.List.listTooLong (its.toArray.size * k.toNat) = true := by
    rw [notLongL hlen]
    exact Bool.false_ne_true
  have hnew : List.foldl (fun x1 x2 => x1 ++ x2) #[] (List.replicate (if its.toArray.isEmpty = true then 0 else k.toNat) its.toArray) = (List.replicate k.toNat its).flatten.toArray := by
    have f0 : ∀ m : Nat, List.foldl (fun x1 x2 => x1 ++ x2) #[] (List.replicate m its.toArray) = (List.replicate m its).flatten.toArray := fun m => by
      have := foldl_rep its m []
      rw [List.nil_append] at this
      exact this
    rw [f0]
    cases its with
    | nil => simp
    | cons a r' => rw [if_neg (by simp)]
  refine wpAny_binaryOp_repeat_ref (T := "list") (U := "int") (by decide) ⟨_, e, rfl⟩ (fun s' => typeIs_int s' k t) noFill_list_mul F.fills_int_mul F.slot_int_rmul repeat_list F.slot_int_index.lookup
    (call_meets F.slot_int_rmul (typeIs_int s k t) F.entry_int_rmul (F.args_int_rmul_2 _ _) (int___rmul___int_list k t l its.toArray n)
      ⟨e, rfl, ⟨_, e, rfl⟩, call_meets F.slot_list_mul ⟨_, e, rfl⟩ F.entry_list_mul (F.args_list_mul_2 _ _) (AutoListH.list___mul___list_int_3 l its.toArray n k t hfit hcap hlong) ⟨e, ?_⟩⟩)
  rw [hnew]
  exact ⟨.ref _, _, I.lnew (t' := s.toks) (r.rep k.toNat) (by rw [PyProof.Rows.lm_len_rep_flat, Nat.mul_comm]; exact hz), rfl, q _ I.fresh⟩
end

/-! ### operators -/
def opOf : Op → Operator
  | .add => .Add | .sub => .Sub | .mul => .Mult | .fdiv => .FloorDiv | .mod => .Mod | .pow => .Pow
def rBin (g : Wd) (op : Op) (m : Md) : R2 := fun x y H Q => ∃ O a b d, WF H O ∧ Top g H O x a ∧ Top g H O y b ∧ binop op a b = .ok d ∧ (∀ k, m ≠ .own (k + 2)) ∧ Out g m H O d Q
theorem lay_int {g : Wd} {H : Hp} {v : V} {i : Int} (h : Lay g H v (.int i)) : v = .int i := by cases h; rfl
theorem lay_bl {g : Wd} {H : Hp} {v : V} {i : Bool} (h : Lay g H v (.bl i)) : v = .bl i := by cases h; rfl
theorem lay_str {g : Wd} {H : Hp} {v : V} {i : Str} (h : Lay g H v (.str i)) : v = .str i := by cases h; rfl
theorem lay_tup {g : Wd} {H : Hp} {v : V} {ds : List D} (h : Lay g H v (.tup ds)) : ∃ a xs, v = .ref a ∧ H a = some (.tup xs) ∧ LayL g H xs ds := by cases h with | tup h1 h2 => exact ⟨_, _, rfl, h1, h2⟩
theorem lay_lst {g : Wd} {H : Hp} {v : V} {ds : List D} (h : Lay g H v (.lst ds)) : ∃ a xs, v = .ref a ∧ Rd H a (.lst xs) ∧ LayL g H xs ds := by cases h with | lst h1 h2 => exact ⟨_, _, rfl, h1, h2⟩
theorem layL_nil {g : Wd} {H : Hp} {xs : List V} {ds : List D} (h : LayL g H xs ds) : xs = [] ↔ ds = [] := by cases h <;> simp

theorem op_bin {X : Cx} {op : Op} {m : Md} : OpR X (binaryOp (opOf op)) (rBin (wdOf X) op m) := by
  intro pins s σ H x y v u Q I rx ry h
  obtain ⟨O, a, b, d, w, ta, tb, e, hm, q⟩ := h
  cases op with
  | add =>
    cases a <;> cases b <;> first | (cases e; done) | skip
    · obtain rfl : d = _ := (pure_inj e).symm
      obtain rfl := lay_int ta
      obtain rfl := lay_int tb
      exact op_add pins s σ H _ _ v u Q I rx ry ⟨_, _, rfl, rfl, q.at_ w (.int _) rfl⟩
    · obtain ⟨_, e1, e2⟩ := bind_ok e
      obtain rfl : d = _ := (pure_inj e2).symm
      obtain rfl := lay_str ta
      obtain rfl := lay_str tb
      have hz := of_decide_eq_true (grd_ok e1)
      exact op_add_str pins s σ H _ _ v u Q I rx ry ⟨_, _, rfl, rfl, by rw [line_eq]; exact hz, q.at_ w (.str _) rfl⟩
    · obtain ⟨_, e1, e2⟩ := bind_ok e
      obtain rfl : d = _ := (pure_inj e2).symm
      have hz := of_decide_eq_true (grd_ok e1)
      obtain ⟨a1, xs, rfl, h1, l1⟩ := lay_tup ta
      obtain ⟨b1, ys, rfl, h2, l2⟩ := lay_tup tb
      refine op_catA pins s σ H _ _ v u Q I rx ry ⟨a1, b1, xs, ys, rfl, rfl, SqT.of (ro_le _ _ h1), SqT.of (ro_le _ _ h2), by rw [l1.length, l2.length, line_eq]; exact hz, fun z => ?_, fun _ z => ?_, fun _ _ p hp => q.tup w hp (l1.append l2)⟩
      · have := (layL_nil l1).mp z; subst this; rw [List.nil_append] at q; exact q.same w tb rfl
      · have := (layL_nil l2).mp z; subst this; rw [List.append_nil] at q; exact q.same w ta rfl
    · obtain ⟨_, e1, e2⟩ := bind_ok e
      obtain rfl : d = _ := (pure_inj e2).symm
      have hz := of_decide_eq_true (grd_ok e1)
      obtain ⟨a1, xs, rfl, h1, l1⟩ := ta
      obtain ⟨b1, ys, rfl, h2, l2⟩ := tb
      exact op_catL pins s σ H _ _ v u Q I rx ry ⟨a1, b1, xs, ys, rfl, rfl, h1, h2, by rw [l1.length, l2.length, line_eq]; exact hz, fun p hp => q.lst w hp (l1.append l2) hm⟩
  | sub =>
    cases a <;> cases b <;> first | (cases e; done) | skip
    obtain rfl : d = _ := (pure_inj e).symm
    obtain rfl := lay_int ta
    obtain rfl := lay_int tb
    exact op_sub pins s σ H _ _ v u Q I rx ry ⟨_, _, rfl, rfl, q.at_ w (.int _) rfl⟩
  | mul =>
    cases a <;> cases b <;> first | (cases e; done) | skip
    · obtain ⟨_, e1, e2⟩ := bind_ok e
      obtain rfl : d = _ := (pure_inj e2).symm
      obtain rfl := lay_int ta
      obtain rfl := lay_int tb
      have hz := of_decide_eq_true (grd_ok e1)
      exact op_mulW pins s σ H _ _ v u Q I rx ry ⟨_, _, rfl, rfl, hz, q.at_ w (.int _) rfl⟩
    · obtain ⟨_, e1, e2⟩ := bind_ok e
      obtain rfl : d = _ := (pure_inj e2).symm
      have hz := grd_ok e1
      simp only [Bool.and_eq_true, decide_eq_true_eq, Bool.not_eq_true'] at hz
      obtain ⟨a1, xs, rfl, h1, l1⟩ := lay_tup ta
      obtain rfl := lay_int tb
      refine op_repT pins s σ H _ _ v u Q I rx ry ⟨a1, _, xs, rfl, rfl, SqT.of (ro_le _ _ h1), fun z => ?_, hz.1.2.1, hz.1.1, by rw [l1.length]; exact hz.1.2.2, fun p hp => q.tup w hp (l1.rep _)⟩
      have := (layL_nil l1).mp z; subst this; simp at hz
    · obtain ⟨_, e1, e2⟩ := bind_ok e
      obtain rfl : d = _ := (pure_inj e2).symm
      have hz := of_decide_eq_true (grd_ok e1)
      obtain ⟨a1, xs, rfl, h1, l1⟩ := ta
      obtain rfl := lay_int tb
      exact op_repL pins s σ H _ _ v u Q I rx ry ⟨a1, _, xs, rfl, rfl, h1, hz.2.1, hz.1, by rw [l1.length, line_eq]; exact hz.2.2, fun p hp => q.lst w hp (l1.rep _) hm⟩
  | fdiv =>
    cases a <;> cases b <;> first | (cases e; done) | skip
    obtain ⟨_, e1, e2⟩ := bind_ok e
    obtain rfl : d = _ := (pure_inj e2).symm
    obtain rfl := lay_int ta
    obtain rfl := lay_int tb
    have hz := of_decide_eq_true (grd_ok e1)
    exact op_fdivW pins s σ H _ _ v u Q I rx ry ⟨_, _, rfl, rfl, hz, q.at_ w (.int _) rfl⟩
  | mod =>
    cases a <;> cases b <;> first | (cases e; done) | skip
    obtain ⟨_, e1, e2⟩ := bind_ok e
    obtain rfl : d = _ := (pure_inj e2).symm
    obtain rfl := lay_int ta
    obtain rfl := lay_int tb
    have hz := of_decide_eq_true (grd_ok e1)
    exact op_mod pins s σ H _ _ v u Q I rx ry ⟨_, _, rfl, rfl, hz, q.at_ w (.int _) rfl⟩
  | pow =>
    cases a <;> cases b <;> first | (cases e; done) | skip
    obtain ⟨_, e1, e2⟩ := bind_ok e
    obtain rfl : d = _ := (pure_inj e2).symm
    obtain rfl := lay_int ta
    obtain rfl := lay_int tb
    have hz := of_decide_eq_true (grd_ok e1)
    exact op_pow pins s σ H _ _ v u Q I rx ry ⟨_, _, rfl, rfl, hz, q.at_ w (.int _) rfl⟩
end C

set_option Elab.async false
set_option linter.all false
set_option maxRecDepth 100000
set_option maxHeartbeats 1000000
/-! Sound4: comparisons, truth, subscripts of values. -/
namespace C
open PySem PySem.Spec PyProof.Rows L2

/-! ### data as the library's data -/
mutual
def toPy : D → PyData
  | .non => .none | .bl b => .bool b | .int i => .int i | .str s => .str s
  | .tup xs => .tuple (toPys xs) | .lst xs => .list (toPys xs)
  | .dct _ _ => .none | .set _ => .none
def toPys : List D → List PyData
  | [] => []
  | d :: r => toPy d :: toPys r
end
theorem toPys_map : ∀ ds : List D, toPys ds = ds.map toPy
  | [] => by simp [toPys]
  | d :: r => by simp [toPys, toPys_map r]
section
variable {g : Wd} {H : Hp}
mutual
theorem Lay.dp : ∀ (n : Nat) {v : V} {d : D}, Lay g H v d → pl n d = true → Dp g.K H v (toPy d)
  | _, _, _, .non, _ => by simp only [toPy]; exact .non
  | _, _, _, .bl b, _ => by simp only [toPy]; exact .bl b
  | _, _, _, .int i, _ => by simp only [toPy]; exact .int i
  | _, _, _, .str x, _ => by simp only [toPy]; exact .str x
  | n, _, _, .lst h r, p => by
    cases n with
    | zero => simp [pl] at p
    | succ n => simp only [pl] at p; simp only [toPy]; exact .lst (.inl h) (LayL.dp n r p)
  | n, _, _, .tup h r, p => by
    cases n with
    | zero => simp [pl] at p
    | succ n => simp only [pl] at p; simp only [toPy]; exact .tup (.of h) (LayL.dp n r p)
  | n, _, _, .dk _ _, p => by cases n <;> simp [pl] at p
  | n, _, _, .dt _ _, p => by cases n <;> simp [pl] at p
  | n, _, _, .set _ _, p => by cases n <;> simp [pl] at p
theorem LayL.dp : ∀ (n : Nat) {vs : List V} {ds : List D}, LayL g H vs ds → pls n ds = true → DpAll g.K H vs (toPys ds)
  | _, _, _, .nil, _ => by simp only [toPys]; exact .nil
  | n, _, _, .cons a r, p => by
    simp only [pls, Bool.and_eq_true] at p
    simp only [toPys]
    exact .cons (Lay.dp n a p.1) (LayL.dp n r p.2)
end
end
mutual
theorem pl_can : ∀ (n : Nat) (d : D), pl n d = true → (toPy d).canLay0 = true ∧ (toPy d).depth ≤ n
  | n, .non, _ => by simp [toPy, PyData.canLay0, PyData.depth]
  | n, .bl _, _ => by simp [toPy, PyData.canLay0, PyData.depth]
  | n, .int _, _ => by simp [toPy, PyData.canLay0, PyData.depth]
  | n, .str s, p => by
    have p' : (s.cps.all fun c => decide (c < 1114112)) = true := by cases n <;> simpa [pl] using p
    exact ⟨by simp only [toPy, PyData.canLay0]; exact p', by simp [toPy, PyData.depth]⟩
  | n, .tup xs, p => by
    cases n with
    | zero => simp [pl] at p
    | succ n =>
      simp only [pl] at p
      obtain ⟨a, b⟩ := pls_can n xs p
      exact ⟨by simp only [toPy, PyData.canLay0]; exact a, by simp only [toPy, PyData.depth]; omega⟩
  | n, .lst xs, p => by
    cases n with
    | zero => simp [pl] at p
    | succ n =>
      simp only [pl] at p
      obtain ⟨a, b⟩ := pls_can n xs p
      exact ⟨by simp only [toPy, PyData.canLay0]; exact a, by simp only [toPy, PyData.depth]; omega⟩
  | n, .dct _ _, p => by cases n <;> simp [pl] at p
  | n, .set _, p => by cases n <;> simp [pl] at p
theorem pls_can : ∀ (n : Nat) (ds : List D), pls n ds = true → PyData.canLayAll0 (toPys ds) = true ∧ PyData.depthAll (toPys ds) ≤ n
  | n, [], _ => by simp [toPys, PyData.canLayAll0, PyData.depthAll]
  | n, d :: r, p => by
    simp only [pls, Bool.and_eq_true] at p
    obtain ⟨a, b⟩ := pl_can n d p.1
    obtain ⟨c, e⟩ := pls_can n r p.2
    simp only [toPys, PyData.canLayAll0, PyData.depthAll, a, c, Bool.and_self, true_and]
    omega
end
theorem shaped_of {d : D} (p : plain d = true) : SeqAt.shaped (toPy d) = true := by
  obtain ⟨a, b⟩ := pl_can 12 d p
  unfold SeqAt.shaped
  rw [a, Bool.true_and]
  exact decide_eq_true (by omega)
theorem shapeds_of {ds : List D} (p : plains ds = true) : SeqAt.shaped (.list (toPys ds)) = true := by
  obtain ⟨a, b⟩ := pls_can 12 ds p
  unfold SeqAt.shaped
  simp only [PyData.canLay0, PyData.depth, a, Bool.true_and]
  exact decide_eq_true (by omega)
mutual
theorem eqv_py : ∀ (n m : Nat) (a b : D), pl n a = true → pl m b = true → PyData.eqv (toPy a) (toPy b) = eqv a b
  | n, m, a, b, p, q => by
    cases a <;> cases b <;> first
      | (simp only [toPy, PyData.eqv, eqv, b2i]; done)
      | (exfalso; cases n <;> simp [pl] at p; done)
      | (exfalso; cases m <;> simp [pl] at q; done)
      | skip
    · rename_i xs ys
      cases n with
      | zero => simp [pl] at p
      | succ n =>
        cases m with
        | zero => simp [pl] at q
        | succ m =>
          simp only [pl] at p q
          simp only [toPy, PyData.eqv, eqv]
          exact eqvs_py n m xs ys p q
    · rename_i xs ys
      cases n with
      | zero => simp [pl] at p
      | succ n =>
        cases m with
        | zero => simp [pl] at q
        | succ m =>
          simp only [pl] at p q
          simp only [toPy, PyData.eqv, eqv]
          exact eqvs_py n m xs ys p q
theorem eqvs_py : ∀ (n m : Nat) (a b : List D), pls n a = true → pls m b = true → PyData.eqvAll (toPys a) (toPys b) = eqvs a b
  | _, _, [], [], _, _ => by simp [toPys, PyData.eqvAll, eqvs]
  | _, _, [], _ :: _, _, _ => by simp [toPys, PyData.eqvAll, eqvs]
  | _, _, _ :: _, [], _, _ => by simp [toPys, PyData.eqvAll, eqvs]
  | n, m, a :: r, b :: s, p, q => by
    simp only [pls, Bool.and_eq_true] at p q
    simp only [toPys, PyData.eqvAll, eqvs]
    rw [eqv_py n m a b p.1 q.1, eqvs_py n m r s p.2 q.2]
end
theorem mem_py {x : D} (p : plain x = true) : ∀ (ys : List D), plains ys = true → (toPys ys).any (fun z => PyData.eqv z (toPy x)) = memD x ys
  | [], _ => by simp [toPys, memD]
  | y :: r, q => by
    simp only [plains, pls, Bool.and_eq_true] at q
    simp only [toPys, List.any_cons, memD]
    rw [eqv_py 12 12 y x q.1 p, mem_py p r q.2]

section
variable {X : Cx}
/-- == -/
def rEqC (g : Wd) (neg : Bool) : R2 := fun x y H Q => ∃ a b, Lay g H x a ∧ Lay g H y b ∧ plain a = true ∧ plain b = true ∧ Q (.bl (neg ^^ eqv a b)) H
theorem op_eqC (hu : X.A.units + 64 < cLine) : OpR X (compareOp .Eq) (rEqC (wdOf X) false) := by
  intro pins s σ H x y v u Q I rx ry ⟨a, b, la, lb, pa, pb, q⟩
  refine op_eqD hu pins s σ H x y v u Q I rx ry ⟨toPy a, toPy b, la.dp 12 pa, lb.dp 12 pb, shaped_of pa, shaped_of pb, ?_⟩
  rw [eqv_py 12 12 a b pa pb]
  rw [Bool.false_xor] at q; exact q
theorem op_neC (hu : X.A.units + 64 < cLine) : OpR X (compareOp .NotEq) (rEqC (wdOf X) true) := by
  intro pins s σ H x y v u Q I rx ry ⟨a, b, la, lb, pa, pb, q⟩
  refine op_neD hu pins s σ H x y v u Q I rx ry ⟨toPy a, toPy b, la.dp 12 pa, lb.dp 12 pb, shaped_of pa, shaped_of pb, ?_⟩
  rw [eqv_py 12 12 a b pa pb]
  rw [Bool.true_xor] at q; exact q

/-! ### the order -/
theorem paired_at {g : Wd} {H : Hp} {n : Nat} {vs : List V} {ds : List D} {us : List Value} (l : LayL g H vs ds) (r : Vals vs us) {j : Nat} (h : j < us.toArray.size) :
    ∃ v d, vs[j]? = some v ∧ ds[j]? = some d ∧ Lay g H v d ∧ RelV v us.toArray[j] := by
  have hj : j < vs.length := by rw [r.length]; simpa using h
  have e1 : vs[j]? = some vs[j] := List.getElem?_eq_getElem hj
  obtain ⟨d, e2, l2⟩ := l.getV e1
  obtain ⟨u, e3, r3⟩ := r.get e1
  refine ⟨_, d, e1, e2, l2, ?_⟩
  have : us.toArray[j] = u := by
    have hj' : j < us.length := by simpa using h
    rw [List.getElem?_eq_getElem hj'] at e3
    simpa using Option.some.inj e3
  rw [this]; exact r3
theorem lex_ltbs : ∀ (as bs : List D) (e r : Nat → Bool), (∀ j a b, as[j]? = some a → bs[j]? = some b → e j = eqv a b ∧ r j = ltb a b) →
    Ob.lexAt e r (decide (as.length < bs.length)) 0 (min as.length bs.length) = ltbs as bs := by
  suffices H : ∀ (as bs : List D) (e r : Nat → Bool) (i : Nat) (z : Bool), (∀ j a b, as[j]? = some a → bs[j]? = some b → e (i + j) = eqv a b ∧ r (i + j) = ltb a b) → z = decide (as.length < bs.length) →
      Ob.lexAt e r z i (min as.length bs.length) = ltbs as bs by
    intro as bs e r h
    exact H as bs e r 0 _ (fun j a b h1 h2 => by rw [Nat.zero_add]; exact h j a b h1 h2) rfl
  intro as
  induction as with
  | nil => intro bs e r i z h hz; cases bs <;> simp [Ob.lexAt, ltbs, hz]
  | cons a as ih =>
    intro bs e r i z h hz
    cases bs with
    | nil => simp [Ob.lexAt, ltbs, hz]
    | cons b bs =>
      have h0 := h 0 a b rfl rfl
      rw [Nat.add_zero] at h0
      rw [show min (a :: as).length (b :: bs).length = min as.length bs.length + 1 by simp [Nat.succ_min_succ], Ob.lexAt_succ, h0.1, h0.2]
      simp only [ltbs]
      have := ih bs e r (i + 1) z (fun j a b h1 h2 => by
        have := h (j + 1) a b (by simpa using h1) (by simpa using h2)
        rw [show i + 1 + j = i + (j + 1) by omega]; exact this) (by simpa using hz)
      rw [this]
theorem cmpbs_at : ∀ {as bs : List D}, cmpbs as bs = true → ∀ {j : Nat} {a b : D}, as[j]? = some a → bs[j]? = some b → eqv a b = true ∨ cmpb a b = true
  | [], _, _, _, _, _, h, _ => by simp at h
  | _ :: _, [], _, _, _, _, _, h => by simp at h
  | a :: r, b :: s, c, 0, _, _, h, h' => by
    simp at h h'; subst h h'
    simp only [cmpbs, Bool.and_eq_true, Bool.or_eq_true] at c
    exact c.1
  | a :: r, b :: s, c, j + 1, _, _, h, h' => by
    simp only [cmpbs, Bool.and_eq_true] at c
    exact cmpbs_at c.2 (by simpa using h) (by simpa using h')
theorem pls_at : ∀ {n : Nat} {ds : List D} {j : Nat} {d : D}, pls n ds = true → ds[j]? = some d → pl n d = true
  | _, [], _, _, _, h => by simp at h
  | n, a :: r, 0, _, p, h => by simp at h; subst h; simp only [pls, Bool.and_eq_true] at p; exact p.1
  | n, a :: r, j + 1, _, p, h => by simp only [pls, Bool.and_eq_true] at p; exact pls_at p.2 (by simpa using h)
theorem rc_lt {pins : List (Addr × Obj)} {σ : L2.St} {H : Hp} {s : Shared} (I : Inv X pins σ H s) : ∀ (n : Nat) (A : Around) (d e : D) (v w : V) (a b : Value), A.units + n < cLine → pl n d = true → pl n e = true → Lay (wdOf X) H v d → Lay (wdOf X) H w e → RelV v a → RelV w b →
    cmpb d e = true → Ob.RcOp .Lt A s a b (ltb d e) := by
  intro n
  induction n with
  | zero =>
    intro A d e v w a b hu p q l l' r r' c
    cases d <;> cases e <;> first | (simp [cmpb] at c; done) | skip
    · obtain rfl := lay_int l
      obtain rfl := lay_int l'
      obtain ⟨t, rfl⟩ := r
      obtain ⟨t', rfl⟩ := r'
      simp only [ltb]; exact Ob.RcOp.lt_int _ _ _ _
    · obtain rfl := lay_str l
      obtain rfl := lay_str l'
      obtain ⟨t, rfl⟩ := r
      obtain ⟨t', rfl⟩ := r'
      simp only [ltb]; exact fun _ _ _ _ h => lt_str h
    · simp [pl] at p
  | succ n ih =>
    intro A d e v w a b hu p q l l' r r' c
    cases d <;> cases e <;> first | (simp [cmpb] at c; done) | skip
    · obtain rfl := lay_int l
      obtain rfl := lay_int l'
      obtain ⟨t, rfl⟩ := r
      obtain ⟨t', rfl⟩ := r'
      simp only [ltb]; exact Ob.RcOp.lt_int _ _ _ _
    · obtain rfl := lay_str l
      obtain rfl := lay_str l'
      obtain ⟨t, rfl⟩ := r
      obtain ⟨t', rfl⟩ := r'
      simp only [ltb]; exact fun _ _ _ _ h => lt_str h
    · rename_i xs ys
      obtain ⟨a1, vs, rfl, h1, l1⟩ := lay_tup l
      obtain ⟨b1, ws, rfl, h2, l2⟩ := lay_tup l'
      cases r
      cases r'
      obtain ⟨its, r1, t1, _⟩ := I.tuple (.of h1)
      obtain ⟨jts, r2, t2, _⟩ := I.tuple (.of h2)
      simp only [pl] at p q
      simp only [cmpb] at c
      have n1 : its.toArray.size = xs.length := by rw [List.size_toArray, ← r1.length, l1.length]
      have n2 : jts.toArray.size = ys.length := by rw [List.size_toArray, ← r2.length, l2.length]
      have key := Ob.RcOp.tuples_lt (A := A) (s := s) (e := fun j => eqv (xs.getD j .non) (ys.getD j .non)) (r := fun j => ltb (xs.getD j .non) (ys.getD j .non)) t1 t2 (by omega) (fun j j1 j2 => ?_) fun j j1 j2 ej => ?_
      · rw [n1, n2, lex_ltbs xs ys _ _ (fun j a b h1 h2 => by simp [List.getD, h1, h2])] at key
        simp only [ltb]; exact key
      · obtain ⟨v, d, e1, e2, l3, r3⟩ := paired_at (n := n) l1 r1 j1
        obtain ⟨w, e, e1', e2', l4, r4⟩ := paired_at (n := n) l2 r2 j2
        have pd := pls_at p e2
        have pe := pls_at q e2'
        obtain ⟨as, ra⟩ := Dp.reads I (toPy d) v _ (l3.dp n pd) r3
        obtain ⟨bs, rb⟩ := Dp.reads I (toPy e) w _ (l4.dp n pe) r4
        have := SeqAt.eqAt_reads (toPy d) (toPy e) A.in1 s _ _ as bs ra rb (pl_can n d pd).1 (pl_can n e pe).1 (by
          have := (pl_can n d pd).2
          show A.units + 1 + min _ _ < cLine
          omega)
        rw [eqv_py n n d e pd pe] at this
        simp only [List.getD, e2, e2', Option.getD_some]
        exact this
      · obtain ⟨v, d, e1, e2, l3, r3⟩ := paired_at (n := n) l1 r1 j1
        obtain ⟨w, e, e1', e2', l4, r4⟩ := paired_at (n := n) l2 r2 j2
        simp only [List.getD, e2, e2', Option.getD_some] at ej ⊢
        have cc := (cmpbs_at c e2 e2').resolve_left (by rw [ej]; exact Bool.false_ne_true)
        exact ih A.in1 d e v w _ _ (by show A.units + 1 + n < cLine; omega) (pls_at p e2) (pls_at q e2') l3 l4 r3 r4 cc
theorem op_ltC (hu : X.A.units + 64 < cLine) : OpR X (compareOp .Lt) (fun x y H Q => ∃ a b, Lay (wdOf X) H x a ∧ Lay (wdOf X) H y b ∧ plain a = true ∧ plain b = true ∧ cmpb a b = true ∧ Q (.bl (ltb a b)) H) := by
  intro pins s σ H x y v u Q I rx ry ⟨a, b, la, lb, pa, pb, c, q⟩
  exact rc_lt I 12 X.A a b x y v u (by omega) pa pb la lb rx ry c X.prog X.w X.xe _ ⟨.bl _, H, I, rfl, q⟩

end
/-! ### what a dict holds -/
theorem keyD_inj {a b : Key} : eqv (keyD a) (keyD b) = decide (a = b) := by
  cases a with
  | inl i => cases b with
    | inl j => simp only [keyD, eqv]; rw [Bool.beq_eq_decide_eq]; exact decide_eq_decide.mpr ⟨fun h => by rw [h], fun h => Sum.inl.inj h⟩
    | inr j => simp [keyD, eqv]
  | inr i => cases b with
    | inl j => simp [keyD, eqv]
    | inr j => simp only [keyD, eqv]; rw [Bool.beq_eq_decide_eq]; exact decide_eq_decide.mpr ⟨fun h => by rw [h], fun h => Sum.inr.inj h⟩
theorem tkeyD_inj : ∀ {a b : List Key}, eqvs (a.map keyD) (b.map keyD) = decide (a = b)
  | [], [] => by simp [eqvs]
  | [], _ :: _ => by simp [eqvs]
  | _ :: _, [] => by simp [eqvs]
  | x :: a, y :: b => by
    simp only [List.map_cons, eqvs]
    rw [keyD_inj, tkeyD_inj (a := a) (b := b)]
    simp [List.cons.injEq]
theorem look_k {g : Wd} {H : Hp} (k : Key) : ∀ {kvs : List (Key × V)} {ds : List (D × D)}, LayK g H kvs ds →
    (lookKey (keyD k) ds = none ∧ valV kvs k = none) ∨ ∃ v d, lookKey (keyD k) ds = some d ∧ valV kvs k = some v ∧ Lay g H v d
  | _, _, .nil => .inl ⟨rfl, rfl⟩
  | _, _, .cons (k := k') (v := v) (d := d) (ds := ds) a r => by
    by_cases h : k' = k
    · subst h
      refine .inr ⟨v, d, ?_, valV_pos rfl, a⟩
      simp only [lookKey]; rw [keyD_inj, if_pos (by simp)]
    · have e1 : lookKey (keyD k) ((keyD k', d) :: ds) = lookKey (keyD k) ds := by
        simp only [lookKey]; rw [keyD_inj, if_neg (by simp [h])]
      rw [e1, valV_neg h]
      exact look_k k r
theorem look_t {g : Wd} {H : Hp} (k : List Key) : ∀ {kvs : List (List Key × V)} {ds : List (D × D)}, LayT g H kvs ds →
    (lookKey (tkeyD k) ds = none ∧ valV kvs k = none) ∨ ∃ v d, lookKey (tkeyD k) ds = some d ∧ valV kvs k = some v ∧ Lay g H v d
  | _, _, .nil => .inl ⟨rfl, rfl⟩
  | _, _, .cons (k := k') (v := v) (d := d) (ds := ds) a r => by
    by_cases h : k' = k
    · subst h
      refine .inr ⟨v, d, ?_, valV_pos rfl, a⟩
      simp only [lookKey, tkeyD, eqv]; rw [tkeyD_inj, if_pos (by simp)]
    · have e1 : lookKey (tkeyD k) ((tkeyD k', d) :: ds) = lookKey (tkeyD k) ds := by
        simp only [lookKey, tkeyD, eqv]; rw [tkeyD_inj, if_neg (by simp [h])]
      rw [e1, valV_neg h]
      exact look_t k r
theorem isKey1_of {d : D} (h : isKey1 d = true) : ∃ k, d = keyD k := by
  cases d <;> first | (simp [isKey1] at h; done) | exact ⟨.inl _, rfl⟩ | exact ⟨.inr _, rfl⟩
theorem isKeys1_of : ∀ {ds : List D}, ds.all isKey1 = true → ∃ ks : List Key, ds = ks.map keyD
  | [], _ => ⟨[], rfl⟩
  | d :: r, h => by
    rw [List.all_cons, Bool.and_eq_true] at h
    obtain ⟨k, rfl⟩ := isKey1_of h.1
    obtain ⟨ks, rfl⟩ := isKeys1_of h.2
    exact ⟨k :: ks, rfl⟩
theorem isKey_k {d : D} (h : isKey false d = true) : ∃ k, d = keyD k := by
  cases d with
  | int i => exact ⟨.inl i, rfl⟩
  | str s => exact ⟨.inr s, rfl⟩
  | _ => simp [isKey] at h
theorem isKey_t {d : D} (h : isKey true d = true) : ∃ ks, d = tkeyD ks := by
  cases d with
  | tup xs => obtain ⟨ks, rfl⟩ := isKeys1_of (by simpa [isKey] using h); exact ⟨ks, rfl⟩
  | _ => simp [isKey] at h
theorem lay_key {g : Wd} {H : Hp} {v : V} {k : Key} (h : Lay g H v (keyD k)) : v = kV k := by
  cases k with
  | inl i => exact lay_int h
  | inr s => exact lay_str h
theorem lay_keys {g : Wd} {H : Hp} : ∀ {vs : List V} {ks : List Key}, LayL g H vs (ks.map keyD) → vs = ks.map kV
  | [], [], _ => rfl
  | [], _ :: _, h => by cases h
  | _ :: _, [], h => by cases h
  | v :: vs, k :: ks, .cons a r => by rw [lay_key a, lay_keys r]; rfl
theorem lay_tkey {g : Wd} {H : Hp} {v : V} {ks : List Key} (h : Lay g H v (tkeyD ks)) : ∃ b, v = .ref b ∧ H b = some (.tup (ks.map kV)) := by
  obtain ⟨b, xs, rfl, h1, l⟩ := lay_tup h
  exact ⟨b, rfl, by rw [h1, lay_keys l]⟩
theorem keyD_tkeyD {k : Key} {ks : List Key} : eqv (keyD k) (tkeyD ks) = false := by cases k <;> simp [keyD, tkeyD, eqv]
theorem tkeyD_keyD {k : Key} {ks : List Key} : eqv (tkeyD ks) (keyD k) = false := by cases k <;> simp [keyD, tkeyD, eqv]
theorem look_kt {g : Wd} {H : Hp} (ks : List Key) : ∀ {kvs : List (Key × V)} {ds : List (D × D)}, LayK g H kvs ds → lookKey (tkeyD ks) ds = none
  | _, _, .nil => rfl
  | _, _, .cons a r => by simp only [lookKey]; rw [keyD_tkeyD, if_neg Bool.false_ne_true]; exact look_kt ks r
theorem look_tk {g : Wd} {H : Hp} (k : Key) : ∀ {kvs : List (List Key × V)} {ds : List (D × D)}, LayT g H kvs ds → lookKey (keyD k) ds = none
  | _, _, .nil => rfl
  | _, _, .cons a r => by simp only [lookKey]; rw [tkeyD_keyD, if_neg Bool.false_ne_true]; exact look_tk k r
theorem hasKey_look (k : D) : ∀ ds : List (D × D), hasKey k ds = (lookKey k ds).isSome
  | [] => rfl
  | (x, v) :: r => by
    simp only [hasKey, lookKey]
    by_cases h : eqv x k = true
    · rw [if_pos h, h]; rfl
    · rw [if_neg h, Bool.eq_false_iff.mpr h, hasKey_look k r]; rfl
end C

set_option Elab.async false
set_option linter.all false
set_option maxRecDepth 100000
set_option maxHeartbeats 1000000
/-! Sound5: membership, truth, subscripts by values. -/
namespace C
open PySem PySem.Spec PyProof.Rows L2

section
variable {X : Cx}
theorem lay_dk {g : Wd} {H : Hp} {v : V} {ds : List (D × D)} (h : Lay g H v (.dct false ds)) : ∃ a kvs, v = .ref a ∧ H a = some (.dK kvs) ∧ LayK g H kvs ds := by
  cases h with | dk h1 h2 => exact ⟨_, _, rfl, h1, h2⟩
theorem lay_dt {g : Wd} {H : Hp} {v : V} {ds : List (D × D)} (h : Lay g H v (.dct true ds)) : ∃ a kvs, v = .ref a ∧ H a = some (.dT kvs) ∧ LayT g H kvs ds := by
  cases h with | dt h1 h2 => exact ⟨_, _, rfl, h1, h2⟩
theorem lay_set {g : Wd} {H : Hp} {v : V} {ds : List D} (h : Lay g H v (.set ds)) : ∃ a ns, v = .ref a ∧ ds = ns.map D.int ∧ H a = some (SetI g a ns) ∧ ns.Nodup := by
  cases h with | set h1 h2 => exact ⟨_, _, rfl, rfl, h1, h2⟩
/-- what a dict that is read holds at a key -/
theorem dget_of {g : Wd} {H : Hp} {v w : V} {k : D} {t : Bool} {ds : List (D × D)} (h : Lay g H v (.dct t ds)) (hk : Lay g H w k) (ik : isKey t k = true) :
    ∃ a r, v = .ref a ∧ DGet H a w r ∧ ((lookKey k ds = none ∧ r = none) ∨ ∃ z d, lookKey k ds = some d ∧ r = some z ∧ Lay g H z d) := by
  cases t with
  | false =>
    obtain ⟨a, kvs, rfl, h1, l⟩ := lay_dk h
    obtain ⟨k, rfl⟩ := isKey_k ik
    obtain rfl := lay_key hk
    refine ⟨a, _, rfl, .k h1, ?_⟩
    rcases look_k k l with ⟨e1, e2⟩ | ⟨z, d, e1, e2, e3⟩
    · exact .inl ⟨e1, e2⟩
    · exact .inr ⟨z, d, e1, e2, e3⟩
  | true =>
    obtain ⟨a, kvs, rfl, h1, l⟩ := lay_dt h
    obtain ⟨ks, rfl⟩ := isKey_t ik
    obtain ⟨b, rfl, hb⟩ := lay_tkey hk
    refine ⟨a, _, rfl, .t h1 hb, ?_⟩
    rcases look_t ks l with ⟨e1, e2⟩ | ⟨z, d, e1, e2, e3⟩
    · exact .inl ⟨e1, e2⟩
    · exact .inr ⟨z, d, e1, e2, e3⟩
theorem mem_ints {i : Int} : ∀ ns : List Int, memD (.int i) (ns.map D.int) = decide (i ∈ ns)
  | [] => by simp [memD]
  | n :: r => by
    simp only [List.map_cons, memD, eqv]
    rw [mem_ints r, Bool.beq_eq_decide_eq, ← Bool.decide_or]
    exact decide_eq_decide.mpr ⟨fun h => by rcases h with h | h <;> simp [h], fun h => by rcases List.mem_cons.mp h with h | h <;> simp [h]⟩

/-! ### comparisons -/
def cmOf : Cm → CmpOp
  | .eq => .Eq | .ne => .NotEq | .lt => .Lt | .le => .LtE | .gt => .Gt | .ge => .GtE | .is => .Is | .isnot => .IsNot | .isin => .In | .notin => .NotIn
def rCmp (g : Wd) (op : Cm) : R2 := fun x y H Q => ∃ a b r, Lay g H x a ∧ Lay g H y b ∧ cmpop op a b = .ok r ∧ Q (.bl r) H
theorem op_isin (hu : X.A.units + 65 < cLine) {pins : List (Addr × Obj)} {s : Shared} {σ : L2.St} {H : Hp} {x y : V} {v u : Value} {a b : D} {r : Bool} (I : Inv X pins σ H s) (rx : RelV x v) (ry : RelV y u) (la : Lay (wdOf X) H x a) (lb : Lay (wdOf X) H y b) (e : isin a b = .ok r) :
    (∀ Q : VK, Q (.bl r) H → wpAny (model X.prog X.w) X.A (compareOp .In v u) (EP X pins σ Q) X.xe s) ∧ ∀ Q : VK, Q (.bl (!r)) H → wpAny (model X.prog X.w) X.A (compareOp .NotIn v u) (EP X pins σ Q) X.xe s := by
  cases b with
  | lst ys =>
    obtain ⟨_, e1, e2⟩ := bind_ok e
    obtain rfl : _ = r := pure_inj e2
    have hz := grd_ok e1
    rw [Bool.and_eq_true] at hz
    have d1 : Dp X.K H y (.list (toPys ys)) := by
      obtain ⟨a1, xs, rfl, h1, l1⟩ := lay_lst lb
      exact .lst (.inl h1) (l1.dp 12 hz.2)
    obtain ⟨as, r1⟩ := Dp.reads I (toPy a) x v (la.dp 12 hz.1) rx
    obtain ⟨bs, r2⟩ := Dp.reads I (.list (toPys ys)) y u d1 ry
    have sd := shaped_of hz.1
    have se := shapeds_of hz.2
    have key := mem_py hz.1 ys hz.2
    constructor
    · intro Q q
      exact SeqAt.in_list_reads r2 r1 (SeqAt.canLay_of_shaped se) (SeqAt.canLay_of_shaped sd) (room_in_shaped sd hu) (by rw [key]; exact ⟨.bl _, H, I, rfl, q⟩)
    · intro Q q
      exact SeqAt.notIn_list_reads r2 r1 (SeqAt.canLay_of_shaped se) (SeqAt.canLay_of_shaped sd) (room_in_shaped sd hu) (by rw [key]; exact ⟨.bl _, H, I, rfl, q⟩)
  | tup ys =>
    obtain ⟨_, e1, e2⟩ := bind_ok e
    obtain rfl : _ = r := pure_inj e2
    have hz := grd_ok e1
    rw [Bool.and_eq_true] at hz
    have d1 : Dp X.K H y (.tuple (toPys ys)) := by
      obtain ⟨a1, xs, rfl, h1, l1⟩ := lay_tup lb
      exact .tup (.of h1) (l1.dp 12 hz.2)
    obtain ⟨as, r1⟩ := Dp.reads I (toPy a) x v (la.dp 12 hz.1) rx
    obtain ⟨bs, r2⟩ := Dp.reads I (.tuple (toPys ys)) y u d1 ry
    have sd := shaped_of hz.1
    have se := shapeds_of hz.2
    have key := mem_py hz.1 ys hz.2
    constructor
    · intro Q q
      exact SeqAt.in_tuple_reads r2 r1 (SeqAt.canLay_of_shaped se) (SeqAt.canLay_of_shaped sd) (room_in_shaped sd hu) (by rw [key]; exact ⟨.bl _, H, I, rfl, q⟩)
    · intro Q q
      exact SeqAt.notIn_tuple_reads r2 r1 (SeqAt.canLay_of_shaped se) (SeqAt.canLay_of_shaped sd) (room_in_shaped sd hu) (by rw [key]; exact ⟨.bl _, H, I, rfl, q⟩)
  | dct t kvs =>
    obtain ⟨_, e1, e2⟩ := bind_ok e
    obtain rfl : _ = r := pure_inj e2
    obtain ⟨d, o, rfl, dg, h⟩ := dget_of lb la (grd_ok e1)
    have eo : o.isSome = hasKey a kvs := by
      rw [hasKey_look]
      rcases h with ⟨h1, h2⟩ | ⟨z, w, h1, h2, _⟩ <;> rw [h1, h2] <;> rfl
    cases ry
    constructor
    · intro Q q
      exact d_in (by omega) I dg rx fun s' I' => ⟨.bl _, H, I', by rw [eo]; rfl, q⟩
    · intro Q q
      exact d_notIn (by omega) I dg rx fun s' I' => ⟨.bl _, H, I', by rw [eo]; rfl, q⟩
  | set ys =>
    obtain ⟨_, e1, e2⟩ := bind_ok e
    obtain rfl : _ = r := pure_inj e2
    have hz := grd_ok e1
    rw [Bool.and_eq_true] at hz
    obtain ⟨d, ns, rfl, rfl, h1, nd⟩ := lay_set lb
    cases a <;> first | (simp [isInt] at hz; done) | skip
    obtain rfl := lay_int la
    rw [mem_ints]
    exact ⟨fun Q q => or_sin pins s σ H _ _ v u Q I rx ry ⟨_, d, _, _, rfl, rfl, h1, q⟩, fun Q q => or_snotin pins s σ H _ _ v u Q I rx ry ⟨_, d, _, _, rfl, rfl, h1, q⟩⟩
  | _ => cases e
theorem nonV {g : Wd} {H : Hp} {v : V} {a : D} (h : Lay g H v a) : decide (v = .non) = isNon a := by
  cases h <;> simp [isNon]
theorem op_cmp (hu : X.A.units + 65 < cLine) {op : Cm} : OpR X (compareOp (cmOf op)) (rCmp (wdOf X) op) := by
  intro pins s σ H x y v u Q I rx ry ⟨a, b, r, la, lb, e, q⟩
  cases op with
  | eq =>
    obtain ⟨_, e1, e2⟩ := bind_ok e
    obtain rfl : _ = r := pure_inj e2
    have hz := grd_ok e1
    rw [Bool.and_eq_true] at hz
    exact op_eqC (by omega) pins s σ H x y v u Q I rx ry ⟨a, b, la, lb, hz.1, hz.2, by rw [Bool.false_xor]; exact q⟩
  | ne =>
    obtain ⟨_, e1, e2⟩ := bind_ok e
    obtain rfl : _ = r := pure_inj e2
    have hz := grd_ok e1
    rw [Bool.and_eq_true] at hz
    exact op_neC (by omega) pins s σ H x y v u Q I rx ry ⟨a, b, la, lb, hz.1, hz.2, by rw [Bool.true_xor]; exact q⟩
  | lt =>
    obtain ⟨_, e1, e2⟩ := bind_ok e
    obtain rfl : _ = r := pure_inj e2
    have hz := grd_ok e1
    rw [Bool.and_eq_true, Bool.and_eq_true] at hz
    exact op_ltC (by omega) pins s σ H x y v u Q I rx ry ⟨a, b, la, lb, hz.1.1, hz.1.2, hz.2, q⟩
  | le =>
    cases a <;> cases b <;> first | (cases e; done) | skip
    obtain rfl : _ = r := pure_inj e
    obtain rfl := lay_int la
    obtain rfl := lay_int lb
    exact op_le pins s σ H _ _ v u Q I rx ry ⟨_, _, rfl, rfl, q⟩
  | gt =>
    cases a <;> cases b <;> first | (cases e; done) | skip
    obtain rfl : _ = r := pure_inj e
    obtain rfl := lay_int la
    obtain rfl := lay_int lb
    exact op_gt pins s σ H _ _ v u Q I rx ry ⟨_, _, rfl, rfl, q⟩
  | ge =>
    cases a <;> cases b <;> first | (cases e; done) | skip
    obtain rfl : _ = r := pure_inj e
    obtain rfl := lay_int la
    obtain rfl := lay_int lb
    exact op_ge pins s σ H _ _ v u Q I rx ry ⟨_, _, rfl, rfl, q⟩
  | is =>
    cases b with
    | non =>
      obtain rfl : _ = r := pure_inj e
      cases lb
      exact op_isN pins s σ H _ _ v u Q I rx ry ⟨rfl, by rw [nonV la]; exact q⟩
    | bl b =>
      cases a <;> first | (cases e; done) | skip
      obtain rfl : _ = r := pure_inj e
      obtain rfl := lay_bl la
      obtain rfl := lay_bl lb
      exact op_is_bl pins s σ H _ _ v u Q I rx ry ⟨_, _, rfl, rfl, by rw [← Bool.beq_eq_decide_eq]; exact q⟩
    | _ => cases a <;> cases e
  | isnot =>
    cases b with
    | non =>
      obtain rfl : _ = r := pure_inj e
      cases lb
      refine op_notN pins s σ H _ _ v u Q I rx ry ⟨rfl, ?_⟩
      rw [nonV la]
      exact q
    | bl b =>
      cases a <;> first | (cases e; done) | skip
      obtain rfl : _ = r := pure_inj e
      obtain rfl := lay_bl la
      obtain rfl := lay_bl lb
      exact op_isnot_bl pins s σ H _ _ v u Q I rx ry ⟨_, _, rfl, rfl, by rw [← Bool.beq_eq_decide_eq]; exact q⟩
    | _ => cases a <;> cases e
  | isin => exact (op_isin hu I rx ry la lb e).1 Q q
  | notin =>
    obtain ⟨r1, e1, e2⟩ := bind_ok e
    obtain rfl : _ = r := pure_inj e2
    exact (op_isin hu I rx ry la lb e1).2 Q q

/-! ### truth -/
theorem isEmptyL {g : Wd} {H : Hp} {xs : List V} {ds : List D} (l : LayL g H xs ds) : xs.isEmpty = ds.isEmpty := by cases l <;> rfl
theorem tru_of {pins : List (Addr × Obj)} {s : Shared} {σ : L2.St} {H : Hp} {x : V} {v : Value} {d : D} {b : Bool} {Q : Bool → Hp → Prop} (I : Inv X pins σ H s) (rx : RelV x v) (l : Lay (wdOf X) H x d) (e : truth d = .ok b) (q : Q b H) :
    wpAny (model X.prog X.w) X.A (truthy v) (TP X pins σ Q) X.xe s := by
  have go : ∀ k, TruV X.K x H k → Q k H → wpAny (model X.prog X.w) X.A (truthy v) (TP X pins σ Q) X.xe s := fun k t q => tru_ok pins s σ H x v Q I rx ⟨k, t, q⟩
  cases d with
  | non => cases l; obtain rfl : _ = b := pure_inj e; exact go false rfl q
  | bl b' => cases l; obtain rfl : _ = b := pure_inj e; exact go _ rfl q
  | int i => cases l; obtain rfl : _ = b := pure_inj e; exact go _ rfl q
  | str z =>
    cases l
    obtain ⟨_, e1, e2⟩ := bind_ok e
    obtain rfl : _ = b := pure_inj e2
    exact go _ ⟨by rw [line_eq]; exact of_decide_eq_true (grd_ok e1), rfl⟩ q
  | tup xs =>
    obtain ⟨a, vs, rfl, h1, l1⟩ := lay_tup l
    obtain rfl : _ = b := pure_inj e
    exact go _ (.inr (.inl ⟨vs, .of h1, rfl⟩)) (by rw [isEmptyL l1]; exact q)
  | lst xs =>
    obtain ⟨a, vs, rfl, h1, l1⟩ := lay_lst l
    obtain rfl : _ = b := pure_inj e
    exact go _ (.inl ⟨vs, .inl h1, rfl⟩) (by rw [isEmptyL l1]; exact q)
  | dct t kvs =>
    obtain ⟨_, e1, e2⟩ := bind_ok e
    obtain rfl : _ = b := pure_inj e2
    cases t with
    | false =>
      obtain ⟨a, vs, rfl, h1, l1⟩ := lay_dk l
      refine go (!vs.isEmpty) (.inr (.inr ⟨vs, h1, rfl⟩)) ?_
      have : vs.isEmpty = kvs.isEmpty := by cases l1 <;> rfl
      rw [this]; exact q
    | true => exact absurd (grd_ok e1) Bool.false_ne_true
  | set _ => cases e

theorem ofO_ok {α : Type} {o : Option α} {a : α} (h : ofO o = .ok a) : ∃ b, o = some b ∧ b = a := by
  cases o with
  | none => cases h
  | some b => injection h with h; exact ⟨b, rfl, h⟩

/-! ### subscripts -/
theorem atI_lay {g : Wd} {H : Hp} {xs : List V} {ds : List D} {i : Int} {d : D} (l : LayL g H xs ds) (h : C.atI ds i = some d) : ∃ v, L2.atI xs i = some v ∧ Lay g H v d := by
  unfold C.atI at h
  unfold L2.atI
  rw [l.length]
  have e : L2.ixN ds.length i = C.ixN ds.length i := rfl
  rw [e]
  cases q : C.ixN ds.length i with
  | none => rw [q] at h; cases h
  | some j => rw [q] at h; exact l.get h
/-- o[i] with the items laid in Hs -/
def LaySeq (g : Wd) (H Hs : Hp) (v : V) (d : D) : Prop :=
  match d with
  | .lst ds => ∃ a xs, v = V.ref a ∧ Rd H a (.lst xs) ∧ LayL g Hs xs ds
  | .tup ds => ∃ a xs, v = V.ref a ∧ H a = some (.tup xs) ∧ LayL g Hs xs ds
  | .dct false ds => ∃ a kvs, v = V.ref a ∧ H a = some (.dK kvs) ∧ LayK g Hs kvs ds
  | .dct true ds => ∃ a kvs, v = V.ref a ∧ H a = some (.dT kvs) ∧ LayT g Hs kvs ds
  | d => Lay g H v d
theorem ix_of (hu : X.A.units + 65 < cLine) {value slice : Expr} {pins : List (Addr × Obj)} {s : Shared} {σ : L2.St} {H Hs : Hp} {x y : V} {v u : Value} {a b d : D} {Q : VK} (I : Inv X pins σ H s) (rx : RelV x v) (ry : RelV y u)
    (la : LaySeq (wdOf X) H Hs x a) (lb : Lay (wdOf X) H y b) (e : index a b = .ok d) (hs : subscripted slice false v u = operate [v, u] (getItem v u)) (q : ∀ z, Lay (wdOf X) Hs z d ∨ (Lay (wdOf X) H z d ∧ atom d = true) → Q z H) :
    wpAny (model X.prog X.w) X.A (subscriptTail value slice v u) (EP X pins σ Q) X.xe s := by
  cases a with
  | lst ds =>
    cases b <;> first | (cases e; done) | skip
    obtain rfl := lay_int lb
    obtain ⟨p, xs, rfl, h1, l1⟩ := la
    have e : ofO (C.atI ds _) = .ok d := e
    obtain ⟨d', h, rfl⟩ := ofO_ok e
    · obtain ⟨w, e2, l2⟩ := atI_lay l1 h
      exact ix_list value slice pins s σ H _ _ v u Q I rx ry ⟨p, xs, _, w, rfl, rfl, .inl h1, e2, q w (.inl l2)⟩ hs
  | tup ds =>
    cases b <;> first | (cases e; done) | skip
    obtain rfl := lay_int lb
    obtain ⟨p, xs, rfl, h1, l1⟩ := la
    have e : ofO (C.atI ds _) = .ok d := e
    obtain ⟨d', h, rfl⟩ := ofO_ok e
    · obtain ⟨w, e2, l2⟩ := atI_lay l1 h
      exact ix_tup value slice pins s σ H _ _ v u Q I rx ry ⟨p, xs, _, w, rfl, rfl, .of h1, e2, q w (.inl l2)⟩ hs
  | str z =>
    cases b <;> first | (cases e; done) | skip
    obtain rfl := lay_int lb
    cases la
    obtain ⟨_, e1, e2⟩ := bind_ok e
    obtain ⟨c, e3, e4⟩ := bind_ok e2
    obtain rfl : _ = d := pure_inj e4
    have hz := of_decide_eq_true (grd_ok e1)
    cases h : C.atI z.cps.toList _ with
    | none => rw [h] at e3; cases e3
    | some c' =>
      rw [h] at e3
      obtain rfl : c' = c := pure_inj e3
      exact ix_str value slice pins s σ H _ _ v u Q I rx ry ⟨z, _, c', rfl, rfl, by rw [line_eq]; exact hz, h, q _ (.inr ⟨.str _, rfl⟩)⟩ hs
  | dct t kvs =>
    obtain ⟨_, e1, e2⟩ := bind_ok e
    have ik := grd_ok e1
    cases hl : lookKey b kvs with
    | none => rw [hl] at e2; cases e2
    | some d' =>
      rw [hl] at e2
      obtain rfl : d' = d := pure_inj e2
      have go : ∀ p z, x = .ref p → DGet H p y (some z) → Lay (wdOf X) Hs z d' → wpAny (model X.prog X.w) X.A (subscriptTail value slice v u) (EP X pins σ Q) X.xe s := by
        intro p z ex dg lz
        subst ex
        cases rx
        refine tail_any (dict_typeIs I dg) PySem.F.slot_dict_getitem.lookup (d_getItem (by omega) I dg ry fun w' s3 I3 rw' => ⟨z, H, I3, rw', q z (.inl lz)⟩) hs
      cases t with
      | false =>
        obtain ⟨p, kv, rfl, h1, l1⟩ := la
        obtain ⟨k, rfl⟩ := isKey_k ik
        obtain rfl := lay_key lb
        rcases look_k k l1 with ⟨e3, _⟩ | ⟨z, d2, e3, e4, l3⟩
        · rw [hl] at e3; cases e3
        · rw [hl] at e3; cases e3
          exact go p z rfl (by rw [← e4]; exact .k h1) l3
      | true =>
        obtain ⟨p, kv, rfl, h1, l1⟩ := la
        obtain ⟨ks, rfl⟩ := isKey_t ik
        obtain ⟨b2, rfl, hb⟩ := lay_tkey lb
        rcases look_t ks l1 with ⟨e3, _⟩ | ⟨z, d2, e3, e4, l3⟩
        · rw [hl] at e3; cases e3
        · rw [hl] at e3; cases e3
          exact go p z rfl (by rw [← e4]; exact .t h1 hb) l3
  | _ => cases b <;> cases e
end
end C

set_option Elab.async false
set_option linter.all false
set_option maxRecDepth 100000
set_option maxHeartbeats 1000000
/-! Sound6: expressions. -/
namespace C
open PySem PySem.Spec PyProof.Rows L2

section
variable {g : Wd} {ks : List Nat} {m ma mb : Md} {pa pb : Bool} {H H1 H2 : Hp} {O O1 O2 : Ow} {σ : L2.St} {ρ ρ1 ρ2 : Env} {Q : VK}
/-- a value operation behind an expression -/
theorem Post.out (R : Rel g ks H O σ ρ) (a : Post g ks pa H O σ ρ ρ1 H1 O1) (s : Step (fun _ => False) H1 O1 H2 O2) (w : WF H2 O2) : Post g ks pa H O σ ρ ρ1 H2 O2 := by
  have b : Post g ks true H1 O1 σ ρ1 ρ1 H2 O2 := ⟨s.mono fun _ z => z.elim, a.rel.stay s w (fun _ z => z.elim), Sub.refl _⟩
  have := a.trans R b
  rwa [Bool.and_true] at this
theorem Out.post {d : D} (R : Rel g ks H O σ ρ) (a : Post g ks pa H O σ ρ ρ1 H1 O1) (q : ∀ v H' O', Post g ks pa H O σ ρ ρ1 H' O' → Res g m H H' O' v d → Q v H') : Out g m H1 O1 d Q :=
  fun z H' O' s w r => q z H' O' (a.out R s w) (r.early a.step)
def noOwn (m : Md) : Bool := match m with
  | .own (_ + 1) => false
  | _ => true
theorem noOwn_of (h : noOwn m = true) : ∀ k, m ≠ .own (k + 1) := fun k e => by subst e; cases h
theorem Res.any {H0 H0' : Hp} {v : V} {d : D} (n : noOwn m = true) (h : Res g m H0 H O v d) : Res g m H0' H O v d := by
  match m, n, h with
  | .b, _, h => exact h
  | .k, _, h => exact h
  | .own 0, _, h => exact h
theorem two_rd {fa fb : Env → Rs (D × Env)} {k : D → D → Rs D} (hm : pb = true ∨ ma = .own 0) (na : noOwn ma = true) (nb : noOwn mb = true)
    (h : TEd g ks m (pa && pb) (fun r => do let (x, r) ← fa r; let (y, r) ← fb r; return (← k x y, r)) σ H Q) :
    TEd g ks ma pa fa σ H fun x H1 => TEd g ks mb pb fb σ H1 fun y H2 => ∃ O a b d, WF H2 O ∧ Res g ma H2 H2 O x a ∧ Res g mb H2 H2 O y b ∧ k a b = .ok d ∧ Out g m H2 O d Q := by
  obtain ⟨O, ρ, d, ρ', R, e, q⟩ := h
  obtain ⟨⟨a, ρ1⟩, e1, e⟩ := bind_ok e
  obtain ⟨⟨b, ρ2⟩, e2, e⟩ := bind_ok e
  obtain ⟨d1, e3, e⟩ := bind_ok e
  obtain ⟨rfl, rfl⟩ := Prod.mk.inj (pure_inj e)
  refine ⟨O, ρ, a, ρ1, R, e1, fun x H1 O1 p r => ⟨O1, ρ1, b, ρ2, p.rel, e2, fun y H2 O2 p' r' => ?_⟩⟩
  refine ⟨O2, a, b, d1, p'.rel.wf, ?_, r'.any nb, e3, Out.post R (p.trans R p') q⟩
  refine (Res.any (H0' := H2) na r).stay p'.step ?_ (noOwn_of na)
  rcases hm with z | z
  · exact .inl fun r ⟨w, _⟩ => by rw [z] at w; cases w
  · exact .inr z
theorem one_rd {fa : Env → Rs (D × Env)} {k : D → Rs D} (na : noOwn ma = true)
    (h : TEd g ks m pa (fun r => do let (x, r) ← fa r; return (← k x, r)) σ H Q) :
    TEd g ks ma pa fa σ H fun x H1 => ∃ O a d, WF H1 O ∧ Res g ma H1 H1 O x a ∧ k a = .ok d ∧ Out g m H1 O d Q := by
  obtain ⟨O, ρ, d, ρ', R, e, q⟩ := h
  obtain ⟨⟨a, ρ1⟩, e1, e⟩ := bind_ok e
  obtain ⟨d1, e3, e⟩ := bind_ok e
  obtain ⟨rfl, rfl⟩ := Prod.mk.inj (pure_inj e)
  exact ⟨O, ρ, a, ρ1, R, e1, fun x H1 O1 p r => ⟨O1, a, d1, p.rel.wf, r.any na, e3, Out.post R p q⟩⟩
end

section
variable {X : Cx} {ks : List Nat} {P : Fs} {rp : D → Str} {m ma mb : Md} {pa pb pu : Bool} {pos : Pos} {a b c : E} {x y z : Expr}
def isTop (m : Md) : Bool := match m with
  | .k => true | .own 0 => true | _ => false
theorem topOf {g : Wd} {H0 H : Hp} {O : Ow} {v : V} {d : D} (t : isTop m = true) (h : Res g m H0 H O v d) : Top g H O v d := by
  match m, t, h with
  | .k, _, h => exact h
  | .own 0, _, h => exact Top.of h
theorem isTop_no (t : isTop m = true) : noOwn m = true := by
  match m, t with
  | .k, _ => rfl
  | .own 0, _ => rfl
def no2 (m : Md) : Bool := match m with
  | .own (_ + 2) => false | _ => true
theorem no2_of (h : no2 m = true) : ∀ k, m ≠ .own (k + 2) := fun k e => by subst e; cases h
theorem TEd.mono {g : Wd} {f : Env → Rs (D × Env)} {σ : L2.St} {H : Hp} {Q Q' : VK} (h : TEd g ks m pu f σ H Q) (w : ∀ v H, Q v H → Q' v H) : TEd g ks m pu f σ H Q' :=
  let ⟨O, ρ, d, ρ', R, e, q⟩ := h; ⟨O, ρ, d, ρ', R, e, fun v H' O' p r => w _ _ (q v H' O' p r)⟩
theorem TAd.mono {g : Wd} {f : Env → Rs (List D × Env)} {σ : L2.St} {H : Hp} {Q Q' : List V → Hp → Prop} (h : TAd g ks m pu f σ H Q) (w : ∀ v H, Q v H → Q' v H) : TAd g ks m pu f σ H Q' :=
  let ⟨O, ρ, d, ρ', R, e, q⟩ := h; ⟨O, ρ, d, ρ', R, e, fun v H' O' p r => w _ _ (q v H' O' p r)⟩
theorem d_bin {op : Op} (ha : PE X x (TEd (wdOf X) ks ma pa (ev P rp a))) (hb : PE X y (TEd (wdOf X) ks mb pb (ev P rp b))) (ta : isTop ma = true) (tb : isTop mb = true) (hm : pb = true ∨ ma = .own 0) (h2 : no2 m = true) :
    PE X (.BinOp x (opOf op) y pos) (TEd (wdOf X) ks m (pa && pb) (ev P rp (.bin op a b))) := by
  refine PE.imp (pe_op (op_bin (m := m)) ha hb) fun σ H Q h => ?_
  have h' : TEd (wdOf X) ks m (pa && pb) (fun r => do let (x, r) ← ev P rp a r; let (y, r) ← ev P rp b r; return (← binop op x y, r)) σ H Q := by simpa only [ev] using h
  refine (two_rd (ma := ma) (mb := mb) hm (isTop_no ta) (isTop_no tb) h').mono fun v H h => h.mono fun w H ⟨O, a, b, d, w, la, lb, e, q⟩ => ?_
  exact ⟨O, a, b, d, w, topOf ta la, topOf tb lb, e, no2_of h2, q⟩
def kCmp (op : Cm) (x y : D) : Rs D := do return D.bl (← cmpop op x y)
def kNeg (x : D) : Rs D := do return D.int (-(← intOf x))
def kNot (x : D) : Rs D := do return D.bl (!(← truth x))
theorem d_cmp (hu : X.A.units + 65 < cLine) {op : Cm} (ha : PE X x (TEd (wdOf X) ks ma pa (ev P rp a))) (hb : PE X y (TEd (wdOf X) ks mb pb (ev P rp b))) (na : noOwn ma = true) (nb : noOwn mb = true) (hm : pb = true ∨ ma = .own 0)
    (hk : behindInMarks (cmOf op) y = false) : PE X (.Compare x [cmOf op] [y] pos) (TEd (wdOf X) ks m (pa && pb) (ev P rp (.cmp op a b))) := by
  refine PE.imp (pe_cmpR (op_cmp hu) ha hb hk) fun σ H Q h => ?_
  have h' : TEd (wdOf X) ks m (pa && pb) (fun r => do let (x, r) ← ev P rp a r; let (y, r) ← ev P rp b r; return (← kCmp op x y, r)) σ H Q := by
    obtain ⟨O, ρ, d, ρ', R, e, q⟩ := h
    refine ⟨O, ρ, d, ρ', R, ?_, q⟩
    simp only [ev] at e
    obtain ⟨p1, e1, e⟩ := bind_ok e
    obtain ⟨p2, e2, e⟩ := bind_ok e
    obtain ⟨d1, e3, e⟩ := bind_ok e
    simp only [e1, e2, e3, ok_bind, kCmp]
    exact e
  refine (two_rd (ma := ma) (mb := mb) (k := kCmp op) hm na nb h').mono fun v H h => h.mono fun w H ⟨O, a, b, d, w, la, lb, e, q⟩ => ?_
  obtain ⟨r, e1, e⟩ := bind_ok e
  obtain rfl := pure_inj e
  exact ⟨a, b, r, la.lay, lb.lay, e1, q.at_ w (.bl r) rfl⟩
theorem d_neg (ha : PE X x (TEd (wdOf X) ks ma pa (ev P rp a))) (na : noOwn ma = true) : PE X (.UnaryOp .USub x pos) (TEd (wdOf X) ks m pa (ev P rp (.neg a))) := by
  refine PE.imp (pe_un un_neg ha) fun σ H Q h => ?_
  have h' : TEd (wdOf X) ks m pa (fun r => do let (x, r) ← ev P rp a r; return (← kNeg x, r)) σ H Q := by
    obtain ⟨O, ρ, d, ρ', R, e, q⟩ := h
    refine ⟨O, ρ, d, ρ', R, ?_, q⟩
    simp only [ev] at e
    obtain ⟨p1, e1, e⟩ := bind_ok e
    obtain ⟨d1, e3, e⟩ := bind_ok e
    simp only [e1, e3, ok_bind, kNeg, kNot]
    exact e
  refine (one_rd (ma := ma) (k := kNeg) na h').mono fun v H ⟨O, a, d, w, la, e, q⟩ => ?_
  obtain ⟨i, e1, e⟩ := bind_ok e
  obtain rfl := pure_inj e
  cases a <;> first | (cases e1; done) | skip
  obtain rfl : _ = i := pure_inj e1
  obtain rfl := lay_int la.lay
  exact ⟨_, rfl, q.at_ w (.int _) rfl⟩
theorem d_not (ha : PE X x (TEd (wdOf X) ks ma pa (ev P rp a))) (na : noOwn ma = true) : PE X (.UnaryOp .Not x pos) (TEd (wdOf X) ks m pa (ev P rp (.not a))) := by
  refine ⟨fun pins s σ H Q I h => ?_⟩
  have h' : TEd (wdOf X) ks m pa (fun r => do let (x, r) ← ev P rp a r; return (← kNot x, r)) σ H Q := by
    obtain ⟨O, ρ, d, ρ', R, e, q⟩ := h
    refine ⟨O, ρ, d, ρ', R, ?_, q⟩
    simp only [ev] at e
    obtain ⟨p1, e1, e⟩ := bind_ok e
    obtain ⟨d1, e3, e⟩ := bind_ok e
    simp only [e1, e3, ok_bind, kNeg, kNot]
    exact e
  refine UnaryOp_ (thn (ha.run pins s σ H _ I (one_rd (ma := ma) (k := kNot) na h')) fun v s1 ⟨x, H1, I1, r1, O, a, d, w, la, e, q⟩ => ?_)
  obtain ⟨b, e1, e⟩ := bind_ok e
  obtain rfl := pure_inj e
  exact not_of (thn (tru_of (Q := fun k H' => k = b ∧ H' = H1) I1 r1 la.lay e1 ⟨rfl, rfl⟩) fun k s2 ⟨H2, I2, e1, e2⟩ => by subst e1; subst e2; exact ⟨.bl (!k), _, I2, rfl, q.at_ w (.bl _) rfl⟩)

/-! ### tests -/
def evt (P : Fs) (rp : D → Str) (e : E) (r : Env) : Rs (Bool × Env) := do let (x, r) ← ev P rp e r; return (← truth x, r)
theorem TTd.eq {g : Wd} {f f' : Env → Rs (Bool × Env)} {σ : L2.St} {H : Hp} {Q : Bool → Hp → Prop} (h : TTd g ks pu f σ H Q) (w : ∀ ρ b ρ', f ρ = .ok (b, ρ') → f' ρ = .ok (b, ρ')) : TTd g ks pu f' σ H Q :=
  let ⟨O, ρ, d, ρ', R, e, q⟩ := h; ⟨O, ρ, d, ρ', R, w _ _ _ e, q⟩
theorem TEd.eq {g : Wd} {f f' : Env → Rs (D × Env)} {σ : L2.St} {H : Hp} {Q : VK} (h : TEd g ks m pu f σ H Q) (w : ∀ ρ b ρ', f ρ = .ok (b, ρ') → f' ρ = .ok (b, ρ')) : TEd g ks m pu f' σ H Q :=
  let ⟨O, ρ, d, ρ', R, e, q⟩ := h; ⟨O, ρ, d, ρ', R, w _ _ _ e, q⟩
theorem t_val (ha : PE X x (TEd (wdOf X) ks ma pa (ev P rp a))) (na : noOwn ma = true) (he : ∀ whole, isTrue x X.env whole = (do let v ← whole; standAt x.pos; holding [v] (truthy v))) :
    PT X x (TTd (wdOf X) ks pa (evt P rp a)) := by
  refine ⟨fun pins s σ H Q I ⟨O, ρ, b, ρ', R, e, q⟩ => ?_⟩
  unfold evt at e
  obtain ⟨⟨d, ρ1⟩, e1, e⟩ := bind_ok e
  obtain ⟨k, e2, e⟩ := bind_ok e
  obtain ⟨rfl, rfl⟩ := Prod.mk.inj (pure_inj e)
  refine isTrue_plain (thn (ha.run pins s σ H (fun x H1 => Lay (wdOf X) H1 x d ∧ Q k H1) I ⟨O, ρ, d, ρ1, R, e1, fun v H1 O1 p r => ⟨r.lay, q H1 O1 p⟩⟩) fun v s1 ⟨x, H1, I1, r1, l, q1⟩ => ?_) (he _)
  exact tru_of I1 r1 l e2 q1
theorem t_cmp (hu : X.A.units + 65 < cLine) {op : Cm} (ha : PE X x (TEd (wdOf X) ks ma pa (ev P rp a))) (hb : PE X y (TEd (wdOf X) ks mb pb (ev P rp b))) (na : noOwn ma = true) (nb : noOwn mb = true) (hm : pb = true ∨ ma = .own 0)
    (hk : behindInMarks (cmOf op) y = false) : PT X (.Compare x [cmOf op] [y] pos) (TTd (wdOf X) ks (pa && pb) (evt P rp (.cmp op a b))) := by
  refine PT.imp (pt_cmpR (op_cmp hu) ha hb hk) fun σ H Q h => ?_
  obtain ⟨O, ρ, b', ρ', R, e, q⟩ := h
  unfold evt at e
  simp only [ev] at e
  obtain ⟨⟨d, ρ1⟩, e1, e⟩ := bind_ok e
  obtain ⟨p1, e2, e1⟩ := bind_ok e1
  obtain ⟨p2, e3, e1⟩ := bind_ok e1
  obtain ⟨k, e4, e1⟩ := bind_ok e1
  obtain ⟨rfl, rfl⟩ := Prod.mk.inj (pure_inj e1)
  obtain ⟨k', e5, e⟩ := bind_ok e
  obtain rfl : k = k' := pure_inj e5
  obtain ⟨rfl, rfl⟩ := Prod.mk.inj (pure_inj e)
  have h' : TEd (wdOf X) ks .b (pa && pb) (fun r => do let (x, r) ← ev P rp a r; let (y, r) ← ev P rp b r; return (← kCmp op x y, r)) σ H (fun v H' => v = .bl k ∧ Q k H') := by
    refine ⟨O, ρ, .bl k, p2.2, R, ?_, fun v H' O' p r => ⟨lay_bl r, q H' O' p⟩⟩
    simp only [e2, e3, e4, ok_bind, kCmp]
    rfl
  refine (two_rd (ma := ma) (mb := mb) (k := kCmp op) hm na nb h').mono fun v H h => h.mono fun w H ⟨O, a, b, d, w, la, lb, e, q⟩ => ?_
  obtain ⟨r, e1, e⟩ := bind_ok e
  obtain rfl := pure_inj e
  have h3 := q.at_ w (.bl r) rfl
  exact ⟨a, b, r, la.lay, lb.lay, e1, r, rfl, by rw [V.bl.inj h3.1]; exact h3.2⟩
theorem t_not (ha : PT X x (TTd (wdOf X) ks pa (evt P rp a))) : PT X (.UnaryOp .Not x pos) (TTd (wdOf X) ks pa (evt P rp (.not a))) := by
  refine PT.imp (pt_not ha) fun σ H Q ⟨O, ρ, b, ρ', R, e, q⟩ => ?_
  unfold evt at e
  simp only [ev] at e
  obtain ⟨⟨d, ρ1⟩, e1, e⟩ := bind_ok e
  obtain ⟨p1, e2, e1⟩ := bind_ok e1
  obtain ⟨k, e4, e1⟩ := bind_ok e1
  obtain ⟨rfl, rfl⟩ := Prod.mk.inj (pure_inj e1)
  obtain ⟨k', e5, e⟩ := bind_ok e
  obtain rfl : _ = k' := pure_inj e5
  obtain ⟨rfl, rfl⟩ := Prod.mk.inj (pure_inj e)
  exact ⟨O, ρ, k, p1.2, R, by unfold evt; simp only [e2, e4, ok_bind]; rfl, fun H' O' p => q H' O' p⟩
theorem ifB {k : Bool} {A B : Prop} (h : if k = true then A else B) : (k = true → A) ∧ (k = false → B) := by cases k <;> simp_all
theorem t_and {rest : List Expr} {y : Expr} (ha : PT X x (TTd (wdOf X) ks pa (evt P rp a))) (hb : PW X (.BoolOp .And (y :: rest) pos) (TTd (wdOf X) ks pb (evt P rp b))) :
    PW X (.BoolOp .And (x :: y :: rest) pos) (TTd (wdOf X) ks (pa && pb) (evt P rp (.and a b))) := by
  refine ⟨fun wh pins s σ H Q I h => (pw_and ha hb).run wh pins s σ H Q I ?_⟩
  obtain ⟨O, ρ, k, ρ', R, e, q⟩ := h
  unfold evt at e
  simp only [ev] at e
  obtain ⟨⟨d, ρ2⟩, e1, e⟩ := bind_ok e
  obtain ⟨p1, e2, e1⟩ := bind_ok e1
  obtain ⟨t1, e3, e1⟩ := bind_ok e1
  refine ⟨O, ρ, t1, p1.2, R, by unfold evt; simp only [e2, e3, ok_bind]; rfl, fun H1 O1 p => ?_⟩
  cases t1 with
  | true =>
    rw [if_pos rfl] at e1 ⊢
    exact ⟨O1, p1.2, k, ρ', p.rel, by unfold evt; simp only [e1, ok_bind]; exact e, fun H2 O2 p' => q H2 O2 (p.trans R p')⟩
  | false =>
    rw [if_neg Bool.false_ne_true] at e1 ⊢
    obtain ⟨rfl, rfl⟩ := Prod.mk.inj (pure_inj e1)
    rw [e3] at e
    obtain ⟨rfl, rfl⟩ := Prod.mk.inj (pure_inj e)
    exact q H1 O1 (p.weak fun h => by rw [Bool.and_eq_true] at h; exact h.1)
theorem t_or {rest : List Expr} {y : Expr} (ha : PT X x (TTd (wdOf X) ks pa (evt P rp a))) (hb : PW X (.BoolOp .Or (y :: rest) pos) (TTd (wdOf X) ks pb (evt P rp b))) :
    PW X (.BoolOp .Or (x :: y :: rest) pos) (TTd (wdOf X) ks (pa && pb) (evt P rp (.or a b))) := by
  refine ⟨fun wh pins s σ H Q I h => (pw_or ha hb).run wh pins s σ H Q I ?_⟩
  obtain ⟨O, ρ, k, ρ', R, e, q⟩ := h
  unfold evt at e
  simp only [ev] at e
  obtain ⟨⟨d, ρ2⟩, e1, e⟩ := bind_ok e
  obtain ⟨p1, e2, e1⟩ := bind_ok e1
  obtain ⟨t1, e3, e1⟩ := bind_ok e1
  refine ⟨O, ρ, t1, p1.2, R, by unfold evt; simp only [e2, e3, ok_bind]; rfl, fun H1 O1 p => ?_⟩
  cases t1 with
  | false =>
    rw [if_neg Bool.false_ne_true] at e1 ⊢
    exact ⟨O1, p1.2, k, ρ', p.rel, by unfold evt; simp only [e1, ok_bind]; exact e, fun H2 O2 p' => q H2 O2 (p.trans R p')⟩
  | true =>
    rw [if_pos rfl] at e1 ⊢
    obtain ⟨rfl, rfl⟩ := Prod.mk.inj (pure_inj e1)
    rw [e3] at e
    obtain ⟨rfl, rfl⟩ := Prod.mk.inj (pure_inj e)
    exact q H1 O1 (p.weak fun h => by rw [Bool.and_eq_true] at h; exact h.1)
theorem t_and1 (ha : PT X x (TTd (wdOf X) ks pa (evt P rp a))) : PW X (.BoolOp .And [x] pos) (TTd (wdOf X) ks pa (evt P rp a)) := pw_and1 ha
theorem t_or1 (ha : PT X x (TTd (wdOf X) ks pa (evt P rp a))) : PW X (.BoolOp .Or [x] pos) (TTd (wdOf X) ks pa (evt P rp a)) := pw_or1 ha

/-! ### a if t else b; a and b, a or b as values -/
theorem TEd.weak {g : Wd} {f : Env → Rs (D × Env)} {σ : L2.St} {H : Hp} {Q : VK} (h : TEd g ks m (pa && pu) f σ H Q) : TEd g ks m pu f σ H Q :=
  let ⟨O, ρ, d, ρ', R, e, q⟩ := h; ⟨O, ρ, d, ρ', R, e, fun v H' O' p r => q v H' O' (p.weak fun h => by rw [Bool.and_eq_true] at h; exact h.2) r⟩
theorem d_ife (hc : PT X z (TTd (wdOf X) ks pu (evt P rp c))) (ha : PE X x (TEd (wdOf X) ks m pa (ev P rp a))) (hb : PE X y (TEd (wdOf X) ks m pb (ev P rp b))) :
    PE X (.IfExp z x y pos) (TEd (wdOf X) ks m (pu && (pa && pb)) (ev P rp (.ife c a b))) := by
  refine PE.imp (pe_ifExp hc ha hb) fun σ H Q ⟨O, ρ, d, ρ', R, e, q⟩ => ?_
  simp only [ev] at e
  obtain ⟨p1, e1, e⟩ := bind_ok e
  obtain ⟨t, e2, e⟩ := bind_ok e
  refine ⟨O, ρ, t, p1.2, R, by unfold evt; simp only [e1, e2, ok_bind]; rfl, fun H1 O1 p => ?_⟩
  cases t with
  | true =>
    rw [if_pos rfl] at e ⊢
    exact ⟨O1, p1.2, d, ρ', p.rel, e, fun v H2 O2 p' r => q v H2 O2 ((p.trans R p').weak fun h => by simp only [Bool.and_eq_true] at h ⊢; exact ⟨h.1, h.2.1⟩) (r.early p.step)⟩
  | false =>
    rw [if_neg Bool.false_ne_true] at e ⊢
    exact ⟨O1, p1.2, d, ρ', p.rel, e, fun v H2 O2 p' r => q v H2 O2 ((p.trans R p').weak fun h => by simp only [Bool.and_eq_true] at h ⊢; exact ⟨h.1, h.2.2⟩) (r.early p.step)⟩
theorem d_one {op : BoolOp} (ha : PE X x (TEd (wdOf X) ks m pa (ev P rp a))) : PE X (.BoolOp op [x] pos) (TEd (wdOf X) ks m pa (ev P rp a)) := pe_one ha
theorem d_and {rest : List Expr} {y : Expr} (ha : PE X x (TEd (wdOf X) ks m pa (ev P rp a))) (hb : PE X (.BoolOp .And (y :: rest) pos) (TEd (wdOf X) ks m pb (ev P rp b))) :
    PE X (.BoolOp .And (x :: y :: rest) pos) (TEd (wdOf X) ks m (pa && pb) (ev P rp (.and a b))) := by
  refine ⟨fun pins s σ H Q I ⟨O, ρ, d, ρ', R, e, q⟩ => ?_⟩
  simp only [ev] at e
  obtain ⟨⟨d1, ρ1⟩, e1, e⟩ := bind_ok e
  obtain ⟨t, e2, e⟩ := bind_ok e
  refine BoolOp_and (thn (ha.run pins s σ H (fun v H1 => ∃ O1, Post (wdOf X) ks pa H O σ ρ ρ1 H1 O1 ∧ Res (wdOf X) m H H1 O1 v d1) I ⟨O, ρ, d1, ρ1, R, e1, fun v H1 O1 p r => ⟨O1, p, r⟩⟩) fun v s1 ⟨x, H1, I1, r1, O1, p, r⟩ => ?_)
  refine thn (tru_of (Q := fun k H' => k = t ∧ H' = H1) I1 r1 r.lay e2 ⟨rfl, rfl⟩) fun k s2 ⟨H2, I2, ek, eH⟩ => ?_
  subst ek; subst eH
  cases k with
  | true =>
    simp only [if_true] at e
    exact hb.run pins s2 σ _ Q I2 ⟨O1, ρ1, d, ρ', p.rel, e, fun v H2 O2 p' r' => q v H2 O2 (p.trans R p') (r'.early p.step)⟩
  | false =>
    simp only [Bool.false_eq_true, if_false] at e
    obtain ⟨rfl, rfl⟩ := Prod.mk.inj (pure_inj e)
    exact ⟨x, _, I2, r1, q x _ O1 (p.weak fun h => by rw [Bool.and_eq_true] at h; exact h.1) r⟩
theorem d_or {rest : List Expr} {y : Expr} (ha : PE X x (TEd (wdOf X) ks m pa (ev P rp a))) (hb : PE X (.BoolOp .Or (y :: rest) pos) (TEd (wdOf X) ks m pb (ev P rp b))) :
    PE X (.BoolOp .Or (x :: y :: rest) pos) (TEd (wdOf X) ks m (pa && pb) (ev P rp (.or a b))) := by
  refine ⟨fun pins s σ H Q I ⟨O, ρ, d, ρ', R, e, q⟩ => ?_⟩
  simp only [ev] at e
  obtain ⟨⟨d1, ρ1⟩, e1, e⟩ := bind_ok e
  obtain ⟨t, e2, e⟩ := bind_ok e
  refine BoolOp_or (thn (ha.run pins s σ H (fun v H1 => ∃ O1, Post (wdOf X) ks pa H O σ ρ ρ1 H1 O1 ∧ Res (wdOf X) m H H1 O1 v d1) I ⟨O, ρ, d1, ρ1, R, e1, fun v H1 O1 p r => ⟨O1, p, r⟩⟩) fun v s1 ⟨x, H1, I1, r1, O1, p, r⟩ => ?_)
  refine thn (tru_of (Q := fun k H' => k = t ∧ H' = H1) I1 r1 r.lay e2 ⟨rfl, rfl⟩) fun k s2 ⟨H2, I2, ek, eH⟩ => ?_
  subst ek; subst eH
  cases k with
  | false =>
    simp only [Bool.false_eq_true, if_false] at e
    exact hb.run pins s2 σ _ Q I2 ⟨O1, ρ1, d, ρ', p.rel, e, fun v H2 O2 p' r' => q v H2 O2 (p.trans R p') (r'.early p.step)⟩
  | true =>
    simp only [if_true] at e
    obtain ⟨rfl, rfl⟩ := Prod.mk.inj (pure_inj e)
    exact ⟨x, _, I2, r1, q x _ O1 (p.weak fun h => by rw [Bool.and_eq_true] at h; exact h.1) r⟩
theorem d_lk {n : Nat} (ha : PE X x (TEd (wdOf X) ks (.own n) pa (ev P rp a))) : PE X x (TEd (wdOf X) ks (.own n) pa (ev P rp (.lk a))) := by
  refine PE.imp ha fun σ H Q ⟨O, ρ, d, ρ', R, e, q⟩ => ?_
  simp only [ev] at e
  obtain ⟨p1, e1, e⟩ := bind_ok e
  obtain ⟨_, e2, e⟩ := bind_ok e
  obtain ⟨rfl, rfl⟩ := Prod.mk.inj (pure_inj e)
  exact ⟨O, ρ, p1.1, p1.2, R, e1, q⟩

/-! ### subscripts -/
theorem seq_top {g : Wd} {H : Hp} {O : Ow} {v : V} {d : D} (h : Top g H O v d) : LaySeq g H (ro H O) v d := by
  cases d with
  | lst ds => exact h
  | tup ds => obtain ⟨a, xs, rfl, h1, l⟩ := lay_tup h; exact ⟨a, xs, rfl, ro_le _ _ h1, l⟩
  | dct t ds => cases t <;> exact h
  | _ => exact Lay.le ro_le h
theorem seq_lay {g : Wd} {H : Hp} {v : V} {d : D} (h : Lay g H v d) : LaySeq g H H v d := by
  cases d with
  | lst ds => exact lay_lst h
  | tup ds => exact lay_tup h
  | dct t ds => cases t with
    | false => exact lay_dk h
    | true => exact lay_dt h
  | _ => exact h
/-- the value of a subscript, wanted as m: items as a's are -/
def okIx (m ma : Md) : Bool := match m with
  | .b => noOwn ma
  | .k => isTop ma
  | .own 0 => isTop ma
  | _ => false
theorem d_idx (hu : X.A.units + 65 < cLine) (ha : PE X x (TEd (wdOf X) ks ma pa (ev P rp a))) (hb : PE X y (TEd (wdOf X) ks mb pb (ev P rp b))) (hix : okIx m ma = true) (nb : noOwn mb = true) (hm : pb = true ∨ ma = .own 0) (hs : PlainIx y) :
    PE X (.Subscript x y pos) (TEd (wdOf X) ks m (pa && pb) (ev P rp (.idx a b))) := by
  have na : noOwn ma = true := by
    cases m with
    | b => exact hix
    | k => exact isTop_no hix
    | own n => cases n with
      | zero => exact isTop_no hix
      | succ n => cases hix
  refine ⟨fun pins s σ H Q I h => ?_⟩
  have h' : TEd (wdOf X) ks m (pa && pb) (fun r => do let (x, r) ← ev P rp a r; let (y, r) ← ev P rp b r; return (← index x y, r)) σ H Q := by simpa only [ev] using h
  have h2 := two_rd (ma := ma) (mb := mb) hm na nb h'
  refine Subscript_ (binT ha hb I h2 fun v u s2 x y H2 I2 rx ry q => ?_)
  obtain ⟨O, a, b, d, w, la, lb, e, q⟩ := q
  cases m with
  | b =>
    refine ix_of hu I2 rx ry (seq_lay la.lay) lb.lay e (hs _ _) fun z l => q z H2 O Step.refl w ?_
    rcases l with l | l
    · exact l
    · exact l.1
  | k =>
    refine ix_of hu I2 rx ry (seq_top (topOf hix la)) lb.lay e (hs _ _) fun z l => q z H2 O Step.refl w ?_
    rcases l with l | l
    · exact Top.of l
    · exact Res.at_ (m := .k) l.1 l.2
  | own n =>
    cases n with
    | succ n => cases hix
    | zero =>
      refine ix_of hu I2 rx ry (seq_top (topOf hix la)) lb.lay e (hs _ _) fun z l => q z H2 O Step.refl w ?_
      rcases l with l | l
      · exact l
      · exact Res.at_ (m := .own 0) l.1 l.2
end
end C

set_option Elab.async false
set_option linter.all false
set_option maxRecDepth 100000
set_option maxHeartbeats 1000000
/-! Sound7: slices, chains, lists given away, lists that are changed. -/
namespace C
open PySem PySem.Spec PyProof.Rows L2

section
variable {X : Cx} {ks : List Nat} {P : Fs} {rp : D → Str} {m ma mb : Md} {pa pb pc pu : Bool} {pos p2 : Pos} {a b c : E} {x y z : Expr}
/-! ### slices -/
def rSl (g : Wd) (m : Md) : V → Option Int → Option Int → Hp → VK → Prop := fun x lo hi H Q => ∃ O a d, WF H O ∧ Top g H O x a ∧ slice a lo hi = .ok d ∧ no2 m = true ∧ Out g m H O d Q
theorem LayL.cut {g : Wd} {H : Hp} {vs : List V} {ds : List D} (lo hi : Option Int) (l : LayL g H vs ds) : LayL g H (cutV vs lo hi) (C.cut ds lo hi) := by
  unfold cutV C.cut
  rw [show HT.sIx = C.sIx from rfl, l.length]
  exact (l.drop _).take _
theorem sl_of : SlR X (rSl (wdOf X) m) := by
  intro pins s σ H x v vl vu lo hi sl Q I rx hs pl pu ⟨O, a, d, w, ta, e, h2, q⟩
  cases a with
  | lst ds =>
    obtain rfl : _ = d := pure_inj e
    obtain ⟨p, xs, rfl, h1, l⟩ := ta
    exact sl_list pins s σ H _ v vl vu lo hi sl Q I rx hs pl pu ⟨p, xs, rfl, .inl h1, fun p' hp => q.lst w hp (l.cut lo hi) (no2_of h2)⟩
  | tup ds =>
    obtain rfl : _ = d := pure_inj e
    obtain ⟨p, xs, rfl, h1, l⟩ := lay_tup ta
    refine sl_tupA pins s σ H _ v vl vu lo hi sl Q I rx hs pl pu ⟨p, xs, rfl, .of (ro_le _ _ h1), fun z => ?_, fun _ p' hp => q.tup w hp (l.cut lo hi)⟩
    have : C.cut ds lo hi = ds := by
      unfold C.cut
      rw [show HT.sIx = C.sIx from rfl, l.length] at z
      rw [z.1, z.2, List.drop_zero, Nat.sub_zero, List.take_length]
    rw [this] at q
    exact q.same w ta rfl
  | str z =>
    obtain ⟨_, e1, e2⟩ := bind_ok e
    obtain rfl : _ = d := pure_inj e2
    have hz := of_decide_eq_true (grd_ok e1)
    cases ta
    exact sl_str pins s σ H _ v vl vu lo hi sl Q I rx hs pl pu ⟨z, rfl, by rw [line_eq]; exact hz, q.at_ w (.str _) rfl⟩
  | _ => cases e
/-- a slice's part -/
def TOd (g : Wd) (ks : List Nat) (pu : Bool) (f : Env → Rs (Option Int × Env)) : TO := fun σ H Q => ∃ O ρ o ρ', Rel g ks H O σ ρ ∧ f ρ = .ok (o, ρ') ∧ ∀ H' O', Post g ks pu H O σ ρ ρ' H' O' → Q o H'
def part (P : Fs) (rp : D → Str) (l : List E) (r : Env) : Rs (Option Int × Env) := do let (ds, r) ← evs P rp l r; let is ← intsD ds; return (is.head?, r)
theorem PO.imp {e : Option Expr} {t t' : TO} (h : PO X e t) (w : ∀ σ H Q, t' σ H Q → t σ H Q) : PO X e t' := ⟨fun pins s σ H Q I q => h.run pins s σ H Q I (w σ H Q q)⟩
theorem o_none : PO X none (TOd (wdOf X) ks true (part P rp [])) := by
  refine PO.imp po_none fun σ H Q ⟨O, ρ, o, ρ', R, e, q⟩ => ?_
  have : part P rp [] ρ = .ok (none, ρ) := by simp [part, evs, intsD]
  rw [this] at e
  injection e with e
  obtain ⟨rfl, rfl⟩ := Prod.mk.inj e
  exact q H O (Post.refl R)
theorem o_some (h : PE X x (TEd (wdOf X) ks .b pu (ev P rp a))) : PO X (some x) (TOd (wdOf X) ks pu (part P rp [a])) := by
  refine PO.imp (po_some h) fun σ H Q ⟨O, ρ, o, ρ', R, e, q⟩ => ?_
  unfold part at e
  simp only [evs] at e
  obtain ⟨p1, e1, e⟩ := bind_ok e
  obtain ⟨p2, e2, e1⟩ := bind_ok e1
  obtain ⟨p3, e3, e1⟩ := bind_ok e1
  injection e3 with e3
  subst e3
  obtain rfl := pure_inj e1
  obtain ⟨is, e4, e⟩ := bind_ok e
  obtain ⟨rfl, rfl⟩ := Prod.mk.inj (pure_inj e)
  refine ⟨O, ρ, p2.1, p2.2, R, e2, fun v H' O' p r => ?_⟩
  obtain ⟨i, hi, his⟩ : ∃ i, p2.1 = .int i ∧ is = [i] := by
    cases hd : p2.1 <;> rw [hd] at e4 <;> first | (cases e4; done) | skip
    obtain ⟨r', e5, e6⟩ := bind_ok e4
    injection e5 with e5
    subst e5
    obtain rfl := pure_inj e6
    exact ⟨_, rfl, rfl⟩
  rw [hi] at r
  rw [his] at q
  exact ⟨i, lay_int r, q H' O' p⟩
theorem d_slc {lo hi : Option Expr} {l h : List E} (ha : PE X x (TEd (wdOf X) ks ma pa (ev P rp a))) (hl : PO X lo (TOd (wdOf X) ks pb (part P rp l))) (hh : PO X hi (TOd (wdOf X) ks pc (part P rp h)))
    (ta : isTop ma = true) (hm : (pb && pc) = true ∨ ma = .own 0) (h2 : no2 m = true) : PE X (.Subscript x (.Slice lo hi none p2) pos) (TEd (wdOf X) ks m (pa && (pb && pc)) (ev P rp (.slc a l h))) := by
  refine PE.imp (pe_slice (sl_of (m := m)) ha hl hh) fun σ H Q ⟨O, ρ, d, ρ', R, e, q⟩ => ?_
  simp only [ev] at e
  obtain ⟨⟨d1, ρ1⟩, e1, e⟩ := bind_ok e
  obtain ⟨⟨ds2, ρ2⟩, e2, e⟩ := bind_ok e
  obtain ⟨⟨ds3, ρ3⟩, e3, e⟩ := bind_ok e
  obtain ⟨i2, e4, e⟩ := bind_ok e
  obtain ⟨i3, e5, e⟩ := bind_ok e
  obtain ⟨d4, e6, e⟩ := bind_ok e
  obtain ⟨rfl, rfl⟩ := Prod.mk.inj (pure_inj e)
  refine ⟨O, ρ, d1, ρ1, R, e1, fun v H1 O1 p1 r1 => ⟨O1, ρ1, i2.head?, ρ2, p1.rel, by unfold part; simp only [e2, e4, ok_bind]; rfl, fun H2 O2 p2 => ⟨O2, ρ2, i3.head?, ρ3, p2.rel, by unfold part; simp only [e3, e5, ok_bind]; rfl, fun H3 O3 p3 => ?_⟩⟩⟩
  have p23 := p2.trans p1.rel p3
  refine ⟨O3, d1, d4, p3.rel.wf, topOf ta ((r1.any (H0' := H1) (isTop_no ta)).stay p23.step ?_ (noOwn_of (isTop_no ta))), e6, h2, Out.post R (p1.trans R p23) q⟩
  rcases hm with z | z
  · exact .inl fun r ⟨w, _⟩ => by rw [z] at w; cases w
  · exact .inr z

/-! ### chains -/
theorem chain_rd {o1 o2 : Cm} {σ : L2.St} {H : Hp} {Q : VK} (na : noOwn ma = true) (nb : noOwn mb = true) (hm : pb = true ∨ ma = .own 0) (hc : pc = true ∨ mb = .own 0)
    (h : TEd (wdOf X) ks m (pa && (pb && pc)) (ev P rp (.chain o1 o2 a b c)) σ H Q) :
    tChain (rCmp (wdOf X) o1) (rCmp (wdOf X) o2) (TEd (wdOf X) ks ma pa (ev P rp a)) (TEd (wdOf X) ks mb pb (ev P rp b)) (TEd (wdOf X) ks .b pc (ev P rp c)) σ H Q := by
  obtain ⟨O, ρ, d, ρ', R, e, q⟩ := h
  simp only [ev] at e
  obtain ⟨⟨d1, ρ1⟩, e1, e⟩ := bind_ok e
  obtain ⟨⟨d2, ρ2⟩, e2, e⟩ := bind_ok e
  obtain ⟨t, e3, e⟩ := bind_ok e
  refine ⟨O, ρ, d1, ρ1, R, e1, fun v H1 O1 p1 r1 => ⟨O1, ρ1, d2, ρ2, p1.rel, e2, fun w H2 O2 p2 r2 => ?_⟩⟩
  have l1 : Lay (wdOf X) H2 v d1 := ((r1.any (H0' := H1) na).stay p2.step (hm.imp (fun z r ⟨w, _⟩ => by rw [z] at w; cases w) id) (noOwn_of na)).lay
  have p12 := p1.trans R p2
  refine ⟨d1, d2, t, l1, r2.lay, e3, t, rfl, ?_⟩
  cases t with
  | true =>
    simp only [if_true] at e ⊢
    obtain ⟨⟨d3, ρ3⟩, e4, e⟩ := bind_ok e
    obtain ⟨t2, e5, e⟩ := bind_ok e
    obtain ⟨rfl, rfl⟩ := Prod.mk.inj (pure_inj e)
    refine ⟨O2, ρ2, d3, ρ3, p2.rel, e4, fun z H3 O3 p3 r3 => ?_⟩
    have l2 : Lay (wdOf X) H3 w d2 := ((r2.any (H0' := H2) nb).stay p3.step (hc.imp (fun z r ⟨w, _⟩ => by rw [z] at w; cases w) id) (noOwn_of nb)).lay
    refine ⟨d2, d3, t2, l2, r3.lay, e5, q _ H3 O3 ?_ (Res.at_ (H := H3) (Lay.bl t2) rfl)⟩
    have := p12.trans R p3
    exact this.weak fun h => by simp only [Bool.and_eq_true] at h ⊢; exact ⟨⟨h.1, h.2.1⟩, h.2.2⟩
  | false =>
    simp only [Bool.false_eq_true, if_false] at e ⊢
    obtain ⟨rfl, rfl⟩ := Prod.mk.inj (pure_inj e)
    exact q _ H2 O2 (p12.weak fun h => by simp only [Bool.and_eq_true] at h ⊢; exact ⟨h.1, h.2.1⟩) (Res.at_ (H := H2) (Lay.bl false) rfl)
theorem d_chain (hu : X.A.units + 65 < cLine) {o1 o2 : Cm} (ha : PE X x (TEd (wdOf X) ks ma pa (ev P rp a))) (hb : PE X y (TEd (wdOf X) ks mb pb (ev P rp b))) (hc : PE X z (TEd (wdOf X) ks .b pc (ev P rp c)))
    (na : noOwn ma = true) (nb : noOwn mb = true) (hm : pb = true ∨ ma = .own 0) (hcm : pc = true ∨ mb = .own 0) (hl : lastMarks [cmOf o1, cmOf o2] [y, z] = false) :
    PE X (.Compare x [cmOf o1, cmOf o2] [y, z] pos) (TEd (wdOf X) ks m (pa && (pb && pc)) (ev P rp (.chain o1 o2 a b c))) :=
  PE.imp (pe_chain (op_cmp hu) (op_cmp hu) ha hb hc hl) fun σ H Q h => chain_rd na nb hm hcm h
theorem t_chain (hu : X.A.units + 65 < cLine) {o1 o2 : Cm} (ha : PE X x (TEd (wdOf X) ks ma pa (ev P rp a))) (hb : PE X y (TEd (wdOf X) ks mb pb (ev P rp b))) (hc : PE X z (TEd (wdOf X) ks .b pc (ev P rp c)))
    (na : noOwn ma = true) (nb : noOwn mb = true) (hm : pb = true ∨ ma = .own 0) (hcm : pc = true ∨ mb = .own 0) (hl : lastMarks [cmOf o1, cmOf o2] [y, z] = false) :
    PT X (.Compare x [cmOf o1, cmOf o2] [y, z] pos) (TTd (wdOf X) ks (pa && (pb && pc)) (evt P rp (.chain o1 o2 a b c))) := by
  refine PT.imp (pt_chain (op_cmp hu) (op_cmp hu) ha hb hc hl) fun σ H Q ⟨O, ρ, k, ρ', R, e, q⟩ => ?_
  unfold evt at e
  obtain ⟨⟨d, ρ1⟩, e1, e⟩ := bind_ok e
  obtain ⟨k', e2, e⟩ := bind_ok e
  obtain ⟨rfl, rfl⟩ := Prod.mk.inj (pure_inj e)
  have hd : d = .bl k' := by
    have e3 := e1
    simp only [ev] at e3
    obtain ⟨p1, _, e3⟩ := bind_ok e3
    obtain ⟨p2, _, e3⟩ := bind_ok e3
    obtain ⟨t, _, e3⟩ := bind_ok e3
    cases t with
    | true =>
      simp only [if_true] at e3
      obtain ⟨p3, _, e3⟩ := bind_ok e3
      obtain ⟨t2, _, e3⟩ := bind_ok e3
      obtain ⟨rfl, rfl⟩ := Prod.mk.inj (pure_inj e3)
      rw [pure_inj e2]
    | false =>
      simp only [Bool.false_eq_true, if_false] at e3
      obtain ⟨rfl, rfl⟩ := Prod.mk.inj (pure_inj e3)
      rw [← pure_inj e2]
  subst hd
  exact chain_rd (m := .b) na nb hm hcm ⟨O, ρ, _, ρ1, R, e1, fun v H' O' p r => ⟨k', lay_bl r, q H' O' p⟩⟩

/-! ### a list given away -/
theorem d_mv {i : Nat} {n : Str} (hN : X.N[i]? = some n) (hv : Vis X.env.scope n) (nm : noOwn m = true) (hk : ks.getD i 0 ≠ 0) (hd : (n == ("__debug__" : Str)) = false) (hcd : (n == ("__classdict__" : Str)) = false) :
    PE X (.Name n pos) (TEd (wdOf X) ks m false (ev P rp (.mv i))) := by
  refine PE.imp (pe_var hN hv hd hcd) fun σ H Q ⟨O, ρ, d, ρ', R, e, q⟩ => ?_
  unfold ev at e
  obtain ⟨d1, e1, e2⟩ := bind_ok e
  obtain ⟨rfl, rfl⟩ := Prod.mk.inj (pure_inj e2)
  have live := rd_ok e1
  obtain ⟨v, es, h⟩ := R.slot i d1 live
  have sub : Sub (ρ.set i none) ρ := fun j e hj => by
    by_cases hij : i = j
    · subst hij
      by_cases hl : i < ρ.length
      · rw [List.getElem?_set_self hl] at hj; cases hj
      · rw [List.getElem?_eq_none (by simpa using hl)] at hj; cases hj
    · rw [List.getElem?_set_ne hij] at hj; exact ⟨e, hj⟩
  have res : ∀ {O'}, Lay (wdOf X) (ro H O') v d1 → Res (wdOf X) m H H O' v d1 := fun {O'} l => by
    match m, nm with
    | .b, _ => exact Lay.le ro_le l
    | .k, _ => exact Top.of l
    | .own 0, _ => exact l
  have relOf : ∀ {O'} {M : Addr → Prop}, Step M H O H O' → WF H O' → (∀ r, M r → v = .ref r) → Rel (wdOf X) ks H O' σ (ρ.set i none) := fun {O' M} s w n => by
    refine ⟨w, by rw [List.length_set]; exact R.len, fun j e hj => ?_, fun j1 j2 r e1 e2 ne k1 k2 h1 h2 s1 => ?_⟩
    · have hij : i ≠ j := fun z => by
        subst z
        by_cases hl : i < ρ.length
        · rw [List.getElem?_set_self hl] at hj; cases hj
        · rw [List.getElem?_eq_none (by simpa using hl)] at hj; cases hj
      rw [List.getElem?_set_ne hij] at hj
      obtain ⟨w', ew, hs⟩ := R.slot j e hj
      refine ⟨w', ew, hs.step s fun k0 r er mr => ?_⟩
      subst er
      have := n r mr
      subst this
      exact R.apart i j r _ _ hij hk k0 live hj es ew
    · obtain ⟨a1, h1'⟩ := sub j1 e1 h1
      obtain ⟨a2, h2'⟩ := sub j2 e2 h2
      exact R.apart j1 j2 r a1 a2 ne k1 k2 h1' h2' s1
  rcases h.frozen R.wf with ⟨r, rfl, hr, l⟩ | l
  · have m0 : Mine ks σ ρ r := ⟨i, d1, hk, live, es⟩
    obtain ⟨s1, w1⟩ := Step.freed (M := Mn false ks σ ρ) R.wf ⟨rfl, m0⟩
    obtain ⟨s2, _⟩ := Step.freed (M := fun x => x = r) R.wf rfl
    exact ⟨_, es, q _ H _ ⟨s1, relOf s2 w1 (fun x hx => by rw [hx]), sub⟩ (res l)⟩
  · exact ⟨_, es, q _ H _ ⟨Step.refl, relOf (M := fun _ => False) Step.refl R.wf (fun _ z => z.elim), sub⟩ (res l)⟩
end

/-! ### lists that are changed -/
section
variable {g : Wd} {ks : List Nat} {H : Hp} {O : Ow} {σ : L2.St} {ρ : Env} {M : Addr → Prop}
/-- an owned object is written -/
theorem Step.wr {a r : Addr} {o : HO} (w : WF H O) (h : O a = some r) (m : M r) : Step M H O (upd H a o) O ∧ WF (upd H a o) O := by
  obtain ⟨u, hu⟩ := w.trk _ _ h
  refine ⟨⟨fun b u e q => ⟨e, ?_⟩, fun b s e n => ⟨e, ?_⟩, fun b u e => ?_⟩, ⟨w.root, fun b s e => ?_⟩⟩
  · have : b ≠ a := fun z => by subst z; rw [e] at h; cases h
    rw [upd_ne this]; exact q
  · have : b ≠ a := fun z => by subst z; rw [e] at h; cases h; exact n m
    rw [upd_ne this]
  · by_cases z : b = a
    · subst z; exact ⟨o, upd_same⟩
    · exact ⟨u, by rw [upd_ne z]; exact e⟩
  · by_cases z : b = a
    · subst z; exact ⟨o, upd_same⟩
    · obtain ⟨u, q⟩ := w.trk _ _ e
      exact ⟨u, by rw [upd_ne z]; exact q⟩
theorem set_live {i : Nat} {d : D} (h : ρ[i]? = some (some d)) (d' : D) {j : Nat} {e : D} (hj : (ρ.set i (some d'))[j]? = some (some e)) : (j = i ∧ e = d') ∨ (j ≠ i ∧ ρ[j]? = some (some e)) := by
  by_cases z : i = j
  · subst z
    rw [List.getElem?_set_self (List.getElem?_eq_some_iff.mp h).1] at hj
    cases hj
    exact .inl ⟨rfl, rfl⟩
  · rw [List.getElem?_set_ne z] at hj
    exact .inr ⟨fun e => z e.symm, hj⟩
/-- the slot i has changed, below its root alone -/
theorem Rel.put {H' : Hp} {O' : Ow} (R : Rel g ks H O σ ρ) {i : Nat} {d d' : D} {r : Addr} (live : ρ[i]? = some (some d)) (hk : ks.getD i 0 ≠ 0) (hs : σ[i]? = some (some (.ref r))) (s : Step (fun x => x = r) H O H' O') (w : WF H' O')
    (new : Slot g H' O' (ks.getD i 0) (.ref r) d') : Rel g ks H' O' σ (ρ.set i (some d')) := by
  refine ⟨w, by rw [List.length_set]; exact R.len, fun j e hj => ?_, fun j1 j2 x e1 e2 ne k1 k2 h1 h2 s1 => ?_⟩
  · rcases set_live live d' hj with ⟨rfl, rfl⟩ | ⟨ne, hj⟩
    · exact ⟨_, hs, new⟩
    · obtain ⟨v, ev, h⟩ := R.slot j e hj
      refine ⟨v, ev, h.step s fun k0 x ex mx => ?_⟩
      subst ex
      subst mx
      exact R.apart i j _ _ _ (Ne.symm ne) hk k0 live hj hs ev
  · have l1 : ∃ a, ρ[j1]? = some (some a) := by
      rcases set_live live d' h1 with ⟨rfl, _⟩ | ⟨_, h⟩
      · exact ⟨_, live⟩
      · exact ⟨_, h⟩
    have l2 : ∃ a, ρ[j2]? = some (some a) := by
      rcases set_live live d' h2 with ⟨rfl, _⟩ | ⟨_, h⟩
      · exact ⟨_, live⟩
      · exact ⟨_, h⟩
    obtain ⟨a1, l1⟩ := l1
    obtain ⟨a2, l2⟩ := l2
    exact R.apart j1 j2 x a1 a2 ne k1 k2 l1 l2 s1
theorem Post.put {H' : Hp} {O' : Ow} (R : Rel g ks H O σ ρ) {i : Nat} {d d' : D} {r : Addr} (live : ρ[i]? = some (some d)) (hk : ks.getD i 0 ≠ 0) (hs : σ[i]? = some (some (.ref r))) (s : Step (fun x => x = r) H O H' O') (w : WF H' O')
    (new : Slot g H' O' (ks.getD i 0) (.ref r) d') : Post g ks false H O σ ρ (ρ.set i (some d')) H' O' :=
  ⟨s.mono fun x e => ⟨rfl, by rw [e]; exact ⟨i, d, hk, live, hs⟩⟩, R.put live hk hs s w new, fun j e hj => by
    rcases set_live live d' hj with ⟨rfl, _⟩ | ⟨_, h⟩
    · exact ⟨_, live⟩
    · exact ⟨_, h⟩⟩
end
end C

set_option Elab.async false
set_option linter.all false
set_option maxRecDepth 100000
set_option maxHeartbeats 1000000
/-! Sound8: defs where no repr is under way: what they promise, calls of them. -/
namespace C
open PySem PySem.Spec PyProof.Rows L2

/-- a def's promise where no repr is under way (so that repr may be told within) -/
structure FnG (P : Program) (w : World) (K : PySem.W.Frag) (mg : Str → Option Value) (base : Heap) (CX : CXT) (k : Nat) (f : Addr) (fd : FuncData) (ps : List Str) (sp : Sp) : Prop where
  len : ∀ vs H Q E, sp vs H Q E → vs.length = ps.length
  run : ∀ (A : Around) (outer : List PySem.Env) (s : Shared) (H : Hp) (args : Args) (us : List Value) (vs : List V) (Q : VK) (E : XK), Room k A → A.guards = some [] → Env0 P w K mg base A outer s H → BindsTo s fd args (ps.zip us) → Vals vs us → sp vs H Q E →
    codeAny (model P w) A (.call (.ref f) args) (CR CX outer P w H s Q E) s
section
variable {P : Program} {w : World} {K : PySem.W.Frag} {mg : Str → Option Value} {base : Heap} {CX : CXT} {k : Nat} {f : Addr} {fd : FuncData} {ps : List Str} {sp : Sp}
/-- by the body -/
theorem fnG_of {name qual : Str} {params : Arguments} {body : List Stmt} {scope : Scope} {dV kV doc pm cdv ct oc : Value} {an od : Option Addr} {osl : Array (Option Value)} {N : List Str}
    (lk : K.lookup f = some ⟨oc, od, .func (PySem.W.fnOf name qual params body scope dV kV doc pm an cdv ct), osl⟩) (hcd : PySem.W.codeIn K cdv qual = true) (S : FnScope N ps scope) (len : ∀ vs H Q E, sp vs H Q E → vs.length = ps.length)
    (hbody : ∀ (A : Around) (outer : List PySem.Env) (s : Shared) (H : Hp) (vs : List V) (Q : VK) (E : XK), A.guards = some [] → Room k (A.deeper (envOfC qual scope s.heap.objs.size f cdv)) → sp vs H Q E →
      ∃ t, PSs (cxOf CX P w K mg base N qual scope f cdv A outer s H E) body t ∧ t { nx := fun _ H' => Q .non H', rt := Q } (start N vs) H) :
    FnG P w K mg base CX (k + 1) f (PySem.W.fnOf name qual params body scope dV kV doc pm an cdv ct) ps sp := by
  refine ⟨len, fun A outer s H args us vs Q E hr hg e0 hb r h => ?_⟩
  have keep := fun b o e => (e0.bs b o e).1
  have KX : K.In s.heap := e0.mod.kin.keeps keep
  have names : ∀ y ∈ ps.zip us, scope.names.lookup y.1 = some .local ∨ (scope.names.lookup y.1 = some .cell ∧ ((cellsFrom (s.heap.objs.size + 1) scope.names []).lookup y.1).isSome = true) := fun y hy =>
    (S.par y.1 (List.of_mem_zip (show (y.1, y.2) ∈ _ from hy)).1).imp id fun q => ⟨q, PySem.W.cellsFrom_some _ _ _ (.inl q)⟩
  refine codeAny_call_function hr.depth (KX _ _ lk) rfl S.co S.gen rfl (PySem.W.codeRec_of KX hcd) (hb _ _ _ _ (wpAny_newFunctionEnv_cells S.kind names fun env he s1 x => ?_))
  cases he
  obtain ⟨t, ht, hq⟩ := hbody A outer s H vs Q E hg (hr.deeper _) h
  refine ⟨(e0.mod.nolimit.keeps keep).keeps x.toInCall.keep, codeAny_func (wpAny_mono (ht.run [] s1 _ H _ (inv_start S hr.hd e0 (len _ _ _ _ h) r x) hq) (fun fl s' hs => ?_) fun e s' hs => hs)⟩
  match fl, hs with
  | .ret u, ⟨v, σ', H', J, rv, q⟩ => exact ⟨v, H', J.os, J.bare, J.base, J.hok, rv, q⟩
  | .next, ⟨σ', H', J, q⟩ => exact ⟨V.non, H', J.os, J.bare, J.base, J.hok, rfl, q⟩
  | .brk, ⟨_, _, _, q⟩ => exact q.elim
  | .cont, ⟨_, _, _, q⟩ => exact q.elim
end

section
variable {X : Cx} {CX : CXT} {k : Nat} {f : Addr} {fd : FuncData} {ps : List Str} {sp : Sp} {E : XK} {x : Str} {p pos : Pos} {e : Expr} {es : List Expr} {t : TA}
theorem run_g {pins : List (Addr × Obj)} {σ : L2.St} {H : Hp} {s : Shared} {Q : VK} {us : List Value} {vs : List V} (F : FnG X.prog X.w X.K X.mg X.base CX k f fd ps sp) (hr : Room k X.A) (hg : X.A.guards = some []) (hb : Binds X.K fd ps []) (hx : Passes CX X E)
    (I : Inv X pins σ H s) (r : Vals vs us) (h : sp vs H Q E) : wpAny (model X.prog X.w) X.A (call (.ref f) us) (EP X pins σ Q) X.xe s := by
  have b := hb s us I.kIn (by rw [List.append_nil, ← r.length]; exact F.len _ _ _ _ h)
  rw [List.append_nil] at b
  refine wpAny_call (codeAny_mono (F.run X.A X.stack s H ⟨us, []⟩ us vs Q E hr hg I.env0 b r h) fun r s' hq => ?_)
  match r, hq with
  | .error e, hq => exact hx pins σ H s e s' I hq
  | .ok (.ret u), hq => exact I.after hq
  | .ok .next, hq => exact hq.elim
  | .ok .brk, hq => exact hq.elim
  | .ok .cont, hq => exact hq.elim
theorem plainNext (es : List Expr) (env : PySem.Env) (pos : Pos) (h : (starEach es env).any (·.1) = false) : (backTo pos (starEach es env)).any (·.1) = false := by
  unfold backTo
  rw [List.any_map]
  exact h
theorem pe_g (F : FnG X.prog X.w X.K X.mg X.base CX k f fd ps sp) (hr : Room k X.A) (hgd : X.A.guards = some []) (hg : Gl X x) (hm : X.mg x = some (.ref f)) (hk : PySem.W.keepIn X.K (.ref f) = true) (hb : Binds X.K fd ps []) (hx : Passes CX X E)
    (ha : PA X (e :: es) t) (hdb : (x == ("__debug__" : Str)) = false) (he : starEach (e :: es) X.env = (false, eval e X.env) :: starEach es X.env) (hpl : (starEach es X.env).any (·.1) = false) :
    PE X (.Call (.Name x p) (e :: es) [] pos) (fun σ H Q => t σ H fun vs H1 => sp vs H1 Q E) :=
  ⟨fun pins s σ H Q I h => wpAny_Call_Name_kw (ld_glob I hg hm (PySem.W.callWith_K (h₀ := X.base) I.ok.mod.kin hk (thn (ha.run pos pins s σ H _ I h) fun us s1 ⟨vs, H1, I1, r, q⟩ => ⟨I1.kIn, run_g F hr hgd hb hx I1 r q⟩) he (plainNext _ _ _ hpl)) hdb)⟩
theorem pe_g0 (F : FnG X.prog X.w X.K X.mg X.base CX k f fd ps sp) (hr : Room k X.A) (hgd : X.A.guards = some []) (hg : Gl X x) (hm : X.mg x = some (.ref f)) (hk : PySem.W.keepIn X.K (.ref f) = true) (hb : Binds X.K fd ps []) (hx : Passes CX X E)
    (hdb : (x == ("__debug__" : Str)) = false) : PE X (.Call (.Name x p) [] [] pos) (fun σ H Q => sp [] H Q E) :=
  ⟨fun pins s σ H Q I h => wpAny_Call_Name_kw (ld_glob I hg hm (PySem.W.callWith_K0 I.kIn hk (run_g (us := []) F hr hgd hb hx I .nil h)) hdb)⟩
end

/-! ### a def's promise by Core's meaning -/
/-- which values are bound to what: ks are the parameters' kinds -/
def bound (g : Wd) (H : Hp) (O : Ow) : List Nat → List V → List D → List D → Prop
  | [], [], [], [] => True
  | 0 :: ks, v :: vs, d :: ros, ios => Lay g (ro H O) v d ∧ bound g H O ks vs ros ios
  | (k + 1) :: ks, v :: vs, ros, d :: ios => Slot g H O (k + 1) v d ∧ bound g H O ks vs ros ios
  | _, _, _, _ => False
/-- the roots of the arguments that may be changed -/
def argMine : List Nat → List V → Addr → Prop
  | 0 :: ks, _ :: vs, r => argMine ks vs r
  | (_ + 1) :: ks, v :: vs, r => v = .ref r ∨ argMine ks vs r
  | _, _, _ => False
/-- these are apart -/
def argApart : List Nat → List V → Prop
  | 0 :: ks, _ :: vs => argApart ks vs
  | (_ + 1) :: ks, v :: vs => (∀ r, v = .ref r → ¬ argMine ks vs r) ∧ argApart ks vs
  | _, _ => True
/-- what comes back through them -/
def outs (g : Wd) (H : Hp) (O : Ow) : List Nat → List V → List D → Prop
  | [], [], [] => True
  | 0 :: ks, _ :: vs, ds => outs g H O ks vs ds
  | (k + 1) :: ks, v :: vs, d :: ds => Slot g H O (k + 1) v d ∧ outs g H O ks vs ds
  | _, _, _ => False
/-- the promise: ks the parameters' kinds, n how the result comes, F the meaning -/
def spD (g : Wd) (ks : List Nat) (n : Nat) (F : List D → List D → Rs (D × List D)) : Sp := fun vs H Q _ => ∃ O ros ios d os, WF H O ∧ bound g H O ks vs ros ios ∧ argApart ks vs ∧ F ros ios = .ok (d, os) ∧
  ∀ v H' O', Step (argMine ks vs) H O H' O' → WF H' O' → Res g (.own n) H H' O' v d → outs g H' O' ks vs os → Q v H'
theorem bound_len {g : Wd} {H : Hp} {O : Ow} : ∀ {ks : List Nat} {vs : List V} {ros ios : List D}, bound g H O ks vs ros ios → vs.length = ks.length
  | [], [], [], [], _ => rfl
  | 0 :: ks, v :: vs, d :: ros, ios, h => by rw [List.length_cons, List.length_cons, bound_len h.2]
  | (k + 1) :: ks, v :: vs, ros, d :: ios, h => by rw [List.length_cons, List.length_cons, bound_len h.2]
theorem spD_len {g : Wd} {ks : List Nat} {n : Nat} {F : List D → List D → Rs (D × List D)} {ps : List Str} (h : ks.length = ps.length) (vs : List V) (H : Hp) (Q : VK) (E : XK) (q : spD g ks n F vs H Q E) : vs.length = ps.length := by
  obtain ⟨O, ros, ios, d, os, w, b, _⟩ := q
  rw [bound_len b, h]
end C

set_option Elab.async false
set_option linter.all false
set_option maxRecDepth 100000
set_option maxHeartbeats 1000000
/-! Sub: an expression makes no name live. -/
namespace C
/-- live in r' and none of S: live in r -/
def Sx (S : List Nat) (r' r : Env) : Prop := ∀ (i : Nat) d, i ∉ S → r'[i]? = some (some d) → ∃ e, r[i]? = some (some e)
theorem Sx.refl (S : List Nat) (r : Env) : Sx S r r := fun _ d _ h => ⟨d, h⟩
theorem Sx.trans {S : List Nat} {a b c : Env} (h : Sx S a b) (h' : Sx S b c) : Sx S a c := fun i d n e => let ⟨_, e1⟩ := h i d n e; h' i _ n e1
theorem Sub.sx {S : List Nat} {a b : Env} (h : Sub a b) : Sx S a b := fun i d _ e => h i d e
theorem Sx.mono {S T : List Nat} {a b : Env} (h : Sx S a b) (st : ∀ i ∈ S, i ∈ T) : Sx T a b := fun i d n e => h i d (fun z => n (st i z)) e
theorem sx_set {S : List Nat} {r : Env} {i : Nat} {o : Option D} (h : i ∈ S) : Sx S (r.set i o) r := fun j d n e => by
  have : i ≠ j := fun z => n (z ▸ h)
  rw [List.getElem?_set_ne this] at e
  exact ⟨d, e⟩
theorem sub_set {r : Env} {i : Nat} {d d' : D} (h : r[i]? = some (some d)) : Sub (r.set i (some d')) r := fun j e hj => by
  by_cases z : i = j
  · subst z; exact ⟨_, h⟩
  · rw [List.getElem?_set_ne z] at hj; exact ⟨_, hj⟩
theorem sub_none {r : Env} {i : Nat} : Sub (r.set i none) r := fun j e hj => by
  by_cases z : i = j
  · subst z
    by_cases hl : i < r.length
    · rw [List.getElem?_set_self hl] at hj; cases hj
    · rw [List.getElem?_eq_none (by simpa using hl)] at hj; cases hj
  · rw [List.getElem?_set_ne z] at hj; exact ⟨_, hj⟩
theorem clr_sub {r : Env} : ∀ S : List Nat, Sub (clr r S) r
  | [] => Sub.refl _
  | i :: S => (sub_none (r := clr r S) (i := i)).trans (clr_sub S)
mutual
theorem setT_sx : ∀ (t : Tg) (d : D) (r r' : Env), setT t d r = .ok r' → Sx t.slots r' r
  | .nm i, d, r, r', e => by
    unfold setT at e
    split at e
    · injection e with e; subst e; exact sx_set (by simp [Tg.slots])
    · cases e
  | .tup ts, d, r, r', e => by
    cases d <;> first | (simp [setT] at e; done) | skip
    rename_i ds
    simp only [setT] at e
    exact setTs_sx ts ds r r' e
theorem setTs_sx : ∀ (ts : List Tg) (ds : List D) (r r' : Env), setTs ts ds r = .ok r' → Sx (Tg.slotss ts) r' r
  | [], [], r, r', e => by simp only [setTs] at e; injection e with e; subst e; exact Sx.refl _ _
  | [], _ :: _, r, r', e => by simp [setTs] at e
  | _ :: _, [], r, r', e => by simp [setTs] at e
  | t :: ts, d :: ds, r, r', e => by
    simp only [setTs] at e
    obtain ⟨r1, e1, e⟩ := bind_ok e
    refine Sx.trans ((setTs_sx ts ds r1 r' e).mono ?_) ((setT_sx t d r r1 e1).mono ?_) <;> (intro i h; simp [Tg.slotss, h])
end
theorem foldR_inv {α β : Type} {f : β → α → Rs β} (I : β → Prop) (h : ∀ a b b', I b → f b a = .ok b' → I b') : ∀ (xs : List α) (b b' : β), I b → foldR f xs b = .ok b' → I b'
  | [], b, b', i, e => by unfold foldR at e; injection e with e; subst e; exact i
  | a :: xs, b, b', i, e => by
    unfold foldR at e
    obtain ⟨b1, e1, e⟩ := bind_ok e
    exact foldR_inv I h xs b1 b' (h a b b1 i e1) e
theorem rest_sub {r0 r : Env} : ∀ (S : List Nat) {T : List Nat}, Sx (S ++ T) r r0 → Sx T (restE r0 r S) r0
  | [], _, h => h
  | i :: S, T, h => fun j d n e => by
    simp only [restE] at e
    by_cases z : i = j
    · subst z
      by_cases hl : i < (restE r0 r S).length
      · rw [List.getElem?_set_self hl] at e
        cases q : r0[i]? with
        | none => rw [q] at e; cases e
        | some o =>
          rw [q] at e
          injection e with e
          cases o with
          | none => cases e
          | some d' => exact ⟨d', rfl⟩
      · rw [List.getElem?_eq_none (by simpa using hl)] at e; cases e
    · rw [List.getElem?_set_ne z] at e
      refine rest_sub S (T := i :: T) (h.mono ?_) j d ?_ e
      · intro x hx
        simp only [List.cons_append, List.mem_cons, List.mem_append] at hx ⊢
        rcases hx with rfl | hx | hx <;> simp_all
      · simp only [List.mem_cons, not_or]; exact ⟨fun q => z q.symm, n⟩
theorem sx_nil {a b : Env} (h : Sx [] a b) : Sub a b := fun i d e => h i d (by simp) e
theorem putAll_sub : ∀ {io : List Nat} {os : List D} {r r' : Env}, (∀ i ∈ io, ∃ d, r[i]? = some (some d)) → putAll io os r = .ok r' → Sub r' r
  | [], [], r, r', _, e => by unfold putAll at e; injection e with e; subst e; exact Sub.refl _
  | [], _ :: _, _, _, _, e => by simp [putAll] at e
  | _ :: _, [], _, _, _, e => by simp [putAll] at e
  | i :: io, d :: os, r, r', h, e => by
    unfold putAll at e
    split at e
    · obtain ⟨d0, h0⟩ := h i (.head _)
      refine (putAll_sub (fun j hj => ?_) e).trans (sub_set h0)
      obtain ⟨d1, h1⟩ := h j (.tail _ hj)
      by_cases z : i = j
      · subst z; exact ⟨d, List.getElem?_set_self (List.getElem?_eq_some_iff.mp h0).1⟩
      · exact ⟨d1, by rw [List.getElem?_set_ne z]; exact h1⟩
    · cases e
theorem getAll_live : ∀ {io : List Nat} {r : Env} {os : List D}, getAll io r = .ok os → ∀ i ∈ io, ∃ d, r[i]? = some (some d)
  | [], _, _, _, i, h => by cases h
  | j :: io, r, os, e, i, h => by
    unfold getAll at e
    obtain ⟨d, e1, e⟩ := bind_ok e
    obtain ⟨ds, e2, e⟩ := bind_ok e
    rcases List.mem_cons.mp h with rfl | h
    · exact ⟨d, rd_ok e1⟩
    · exact getAll_live e2 i h
section
variable {P : Fs} {rp : D → PySem.Str}
mutual
theorem ev_sub : ∀ (e : E) (r : Env) (d : D) (r' : Env), ev P rp e r = .ok (d, r') → Sub r' r
  | .var i, r, d, r', h => by
    simp only [ev] at h
    obtain ⟨_, _, h⟩ := bind_ok h
    obtain ⟨rfl, rfl⟩ := Prod.mk.inj (pure_inj h)
    exact Sub.refl _
  | .mv i, r, d, r', h => by
    simp only [ev] at h
    obtain ⟨_, _, h⟩ := bind_ok h
    obtain ⟨rfl, rfl⟩ := Prod.mk.inj (pure_inj h)
    exact sub_none
  | .lk e, r, d, r', h => by
    simp only [ev] at h
    obtain ⟨p1, e1, h⟩ := bind_ok h
    obtain ⟨_, _, h⟩ := bind_ok h
    obtain ⟨rfl, rfl⟩ := Prod.mk.inj (pure_inj h)
    exact ev_sub e r _ _ e1
  | .int n, r, d, r', h => by simp only [ev] at h; injection h with h; obtain ⟨rfl, rfl⟩ := Prod.mk.inj h; exact Sub.refl _
  | .str n, r, d, r', h => by simp only [ev] at h; injection h with h; obtain ⟨rfl, rfl⟩ := Prod.mk.inj h; exact Sub.refl _
  | .bl n, r, d, r', h => by simp only [ev] at h; injection h with h; obtain ⟨rfl, rfl⟩ := Prod.mk.inj h; exact Sub.refl _
  | .non, r, d, r', h => by simp only [ev] at h; injection h with h; obtain ⟨rfl, rfl⟩ := Prod.mk.inj h; exact Sub.refl _
  | .dnew n, r, d, r', h => by simp only [ev] at h; injection h with h; obtain ⟨rfl, rfl⟩ := Prod.mk.inj h; exact Sub.refl _
  | .tup es, r, d, r', h => by
    simp only [ev] at h
    obtain ⟨p1, e1, h⟩ := bind_ok h
    obtain ⟨rfl, rfl⟩ := Prod.mk.inj (pure_inj h)
    exact evs_sub es r _ _ e1
  | .lst es, r, d, r', h => by
    simp only [ev] at h
    obtain ⟨p1, e1, h⟩ := bind_ok h
    obtain ⟨rfl, rfl⟩ := Prod.mk.inj (pure_inj h)
    exact evs_sub es r _ _ e1
  | .bin op a b, r, d, r', h => by
    simp only [ev] at h
    obtain ⟨p1, e1, h⟩ := bind_ok h
    obtain ⟨p2, e2, h⟩ := bind_ok h
    obtain ⟨_, _, h⟩ := bind_ok h
    obtain ⟨rfl, rfl⟩ := Prod.mk.inj (pure_inj h)
    exact (ev_sub b _ _ _ e2).trans (ev_sub a r _ _ e1)
  | .neg a, r, d, r', h => by
    simp only [ev] at h
    obtain ⟨p1, e1, h⟩ := bind_ok h
    obtain ⟨_, _, h⟩ := bind_ok h
    obtain ⟨rfl, rfl⟩ := Prod.mk.inj (pure_inj h)
    exact ev_sub a r _ _ e1
  | .not a, r, d, r', h => by
    simp only [ev] at h
    obtain ⟨p1, e1, h⟩ := bind_ok h
    obtain ⟨_, _, h⟩ := bind_ok h
    obtain ⟨rfl, rfl⟩ := Prod.mk.inj (pure_inj h)
    exact ev_sub a r _ _ e1
  | .cmp op a b, r, d, r', h => by
    simp only [ev] at h
    obtain ⟨p1, e1, h⟩ := bind_ok h
    obtain ⟨p2, e2, h⟩ := bind_ok h
    obtain ⟨_, _, h⟩ := bind_ok h
    obtain ⟨rfl, rfl⟩ := Prod.mk.inj (pure_inj h)
    exact (ev_sub b _ _ _ e2).trans (ev_sub a r _ _ e1)
  | .chain o1 o2 a b c, r, d, r', h => by
    simp only [ev] at h
    obtain ⟨p1, e1, h⟩ := bind_ok h
    obtain ⟨p2, e2, h⟩ := bind_ok h
    obtain ⟨t, _, h⟩ := bind_ok h
    split at h
    · obtain ⟨p3, e3, h⟩ := bind_ok h
      obtain ⟨_, _, h⟩ := bind_ok h
      obtain ⟨rfl, rfl⟩ := Prod.mk.inj (pure_inj h)
      exact (ev_sub c _ _ _ e3).trans ((ev_sub b _ _ _ e2).trans (ev_sub a r _ _ e1))
    · obtain ⟨rfl, rfl⟩ := Prod.mk.inj (pure_inj h)
      exact (ev_sub b _ _ _ e2).trans (ev_sub a r _ _ e1)
  | .and a b, r, d, r', h => by
    simp only [ev] at h
    obtain ⟨p1, e1, h⟩ := bind_ok h
    obtain ⟨t, _, h⟩ := bind_ok h
    split at h
    · exact (ev_sub b _ _ _ h).trans (ev_sub a r _ _ e1)
    · obtain ⟨rfl, rfl⟩ := Prod.mk.inj (pure_inj h)
      exact ev_sub a r _ _ e1
  | .or a b, r, d, r', h => by
    simp only [ev] at h
    obtain ⟨p1, e1, h⟩ := bind_ok h
    obtain ⟨t, _, h⟩ := bind_ok h
    split at h
    · obtain ⟨rfl, rfl⟩ := Prod.mk.inj (pure_inj h)
      exact ev_sub a r _ _ e1
    · exact (ev_sub b _ _ _ h).trans (ev_sub a r _ _ e1)
  | .ife c a b, r, d, r', h => by
    simp only [ev] at h
    obtain ⟨p1, e1, h⟩ := bind_ok h
    obtain ⟨t, _, h⟩ := bind_ok h
    split at h
    · exact (ev_sub a _ _ _ h).trans (ev_sub c r _ _ e1)
    · exact (ev_sub b _ _ _ h).trans (ev_sub c r _ _ e1)
  | .idx a b, r, d, r', h => by
    simp only [ev] at h
    obtain ⟨p1, e1, h⟩ := bind_ok h
    obtain ⟨p2, e2, h⟩ := bind_ok h
    obtain ⟨_, _, h⟩ := bind_ok h
    obtain ⟨rfl, rfl⟩ := Prod.mk.inj (pure_inj h)
    exact (ev_sub b _ _ _ e2).trans (ev_sub a r _ _ e1)
  | .slc a lo hi, r, d, r', h => by
    simp only [ev] at h
    obtain ⟨p1, e1, h⟩ := bind_ok h
    obtain ⟨p2, e2, h⟩ := bind_ok h
    obtain ⟨p3, e3, h⟩ := bind_ok h
    obtain ⟨_, _, h⟩ := bind_ok h
    obtain ⟨_, _, h⟩ := bind_ok h
    obtain ⟨_, _, h⟩ := bind_ok h
    obtain ⟨rfl, rfl⟩ := Prod.mk.inj (pure_inj h)
    exact (evs_sub hi _ _ _ e3).trans ((evs_sub lo _ _ _ e2).trans (ev_sub a r _ _ e1))
  | .call f as io, r, d, r', h => by
    simp only [ev] at h
    obtain ⟨p1, e1, h⟩ := bind_ok h
    obtain ⟨os, e2, h⟩ := bind_ok h
    obtain ⟨p3, _, h⟩ := bind_ok h
    obtain ⟨r2, e3, h⟩ := bind_ok h
    obtain ⟨rfl, rfl⟩ := Prod.mk.inj (pure_inj h)
    exact (putAll_sub (getAll_live e2) e3).trans (evs_sub as r _ _ e1)
  | .bcall f as, r, d, r', h => by
    simp only [ev] at h
    obtain ⟨p1, e1, h⟩ := bind_ok h
    obtain ⟨p3, _, h⟩ := bind_ok h
    obtain ⟨_, _, h⟩ := bind_ok h
    obtain ⟨rfl, rfl⟩ := Prod.mk.inj (pure_inj h)
    exact evs_sub as r _ _ e1
  | .bi f as, r, d, r', h => by
    simp only [ev] at h
    obtain ⟨p1, e1, h⟩ := bind_ok h
    obtain ⟨p3, _, h⟩ := bind_ok h
    obtain ⟨rfl, rfl⟩ := Prod.mk.inj (pure_inj h)
    exact evs_sub as r _ _ e1
  | .mt m o as, r, d, r', h => by
    simp only [ev] at h
    obtain ⟨p1, e1, h⟩ := bind_ok h
    obtain ⟨p2, e2, h⟩ := bind_ok h
    obtain ⟨_, _, h⟩ := bind_ok h
    obtain ⟨rfl, rfl⟩ := Prod.mk.inj (pure_inj h)
    exact (evs_sub as _ _ _ e2).trans (ev_sub o r _ _ e1)
  | .pop i, r, d, r', h => by
    simp only [ev] at h
    obtain ⟨x0, e0, h⟩ := bind_ok h
    obtain ⟨_, _, h⟩ := bind_ok h
    obtain ⟨_, _, h⟩ := bind_ok h
    obtain ⟨rfl, rfl⟩ := Prod.mk.inj (pure_inj h)
    exact sub_set (rd_ok e0)
  | .lc t it cs e, r, d, r', h => by
    simp only [ev] at h
    obtain ⟨⟨x, r0⟩, e1, h⟩ := bind_ok h
    obtain ⟨xs, _, h⟩ := bind_ok h
    obtain ⟨⟨acc, r1⟩, e2, h⟩ := bind_ok h
    obtain ⟨rfl, rfl⟩ := Prod.mk.inj (pure_inj h)
    refine Sub.trans (sx_nil (rest_sub _ (T := []) ?_)) (ev_sub it r _ _ e1)
    rw [List.append_nil]
    refine foldR_inv (fun (p : List D × Env) => Sx t.slots p.2 r0) (fun a b b' i h => ?_) xs ([], r0) (acc, r1) (Sx.refl _ _) e2
    obtain ⟨r2, e3, h⟩ := bind_ok h
    obtain ⟨⟨k, r3⟩, e4, h⟩ := bind_ok h
    have s3 := ((evc_sub cs _ _ _ e4).sx.trans ((setT_sx t a _ _ e3).trans (clr_sub _).sx)).trans i
    split at h
    · obtain ⟨⟨y, r4⟩, e5, h⟩ := bind_ok h
      obtain ⟨_, _, h⟩ := bind_ok h
      rw [← pure_inj h]
      exact (ev_sub e _ _ _ e5).sx.trans s3
    · rw [← pure_inj h]
      exact s3
  | .lc2 t it cs t2 it2 cs2 e, r, d, r', h => by
    simp only [ev] at h
    obtain ⟨⟨x, r0⟩, e1, h⟩ := bind_ok h
    obtain ⟨xs, _, h⟩ := bind_ok h
    obtain ⟨⟨acc, r1⟩, e2, h⟩ := bind_ok h
    obtain ⟨rfl, rfl⟩ := Prod.mk.inj (pure_inj h)
    have key : Sx (t.slots ++ t2.slots) r1 r0 := by
      refine foldR_inv (fun (p : List D × Env) => Sx (t.slots ++ t2.slots) p.2 r0) (fun a b b' i h => ?_) xs ([], r0) (acc, r1) (Sx.refl _ _) e2
      obtain ⟨r2, e3, h⟩ := bind_ok h
      obtain ⟨⟨k, r3⟩, e4, h⟩ := bind_ok h
      have s3 : Sx (t.slots ++ t2.slots) r3 r0 := ((evc_sub cs _ _ _ e4).sx.trans (((setT_sx t a _ _ e3).mono fun i h => List.mem_append_left _ h).trans (clr_sub _).sx)).trans i
      split at h
      · obtain ⟨⟨y, r4⟩, e5, h⟩ := bind_ok h
        obtain ⟨ys, _, h⟩ := bind_ok h
        refine foldR_inv (fun (p : List D × Env) => Sx (t.slots ++ t2.slots) p.2 r0) (fun a b b' i h => ?_) ys (b.1, r4) b' ((ev_sub it2 _ _ _ e5).sx.trans s3) h
        obtain ⟨r2, e3, h⟩ := bind_ok h
        obtain ⟨⟨k, r3⟩, e4, h⟩ := bind_ok h
        have s3 : Sx (t.slots ++ t2.slots) r3 r0 := ((evc_sub cs2 _ _ _ e4).sx.trans (((setT_sx t2 a _ _ e3).mono fun i h => List.mem_append_right _ h).trans (clr_sub _).sx)).trans i
        split at h
        · obtain ⟨⟨y, r4⟩, e5, h⟩ := bind_ok h
          obtain ⟨_, _, h⟩ := bind_ok h
          rw [← pure_inj h]
          exact (ev_sub e _ _ _ e5).sx.trans s3
        · rw [← pure_inj h]
          exact s3
      · rw [← pure_inj h]
        exact s3
    refine Sub.trans (sx_nil ?_) (ev_sub it r _ _ e1)
    refine rest_sub _ (T := []) ?_
    rw [List.append_nil]
    exact key
  | .dc b t it k e, r, d, r', h => by
    simp only [ev] at h
    obtain ⟨⟨x, r0⟩, e1, h⟩ := bind_ok h
    obtain ⟨xs, _, h⟩ := bind_ok h
    obtain ⟨⟨acc, r1⟩, e2, h⟩ := bind_ok h
    obtain ⟨rfl, rfl⟩ := Prod.mk.inj (pure_inj h)
    refine Sub.trans (sx_nil (rest_sub _ (T := []) ?_)) (ev_sub it r _ _ e1)
    rw [List.append_nil]
    refine foldR_inv (fun (p : List (D × D) × Env) => Sx t.slots p.2 r0) (fun a b b' i h => ?_) xs ([], r0) (acc, r1) (Sx.refl _ _) e2
    obtain ⟨r2, e3, h⟩ := bind_ok h
    obtain ⟨⟨y, r3⟩, e4, h⟩ := bind_ok h
    obtain ⟨⟨z, r4⟩, e5, h⟩ := bind_ok h
    obtain ⟨_, _, h⟩ := bind_ok h
    rw [← pure_inj h]
    exact (ev_sub e _ _ _ e5).sx.trans ((ev_sub k _ _ _ e4).sx.trans (((setT_sx t a _ _ e3).trans (clr_sub _).sx).trans i))
  | .sc t it e, r, d, r', h => by
    simp only [ev] at h
    obtain ⟨⟨x, r0⟩, e1, h⟩ := bind_ok h
    obtain ⟨xs, _, h⟩ := bind_ok h
    obtain ⟨⟨acc, r1⟩, e2, h⟩ := bind_ok h
    obtain ⟨rfl, rfl⟩ := Prod.mk.inj (pure_inj h)
    refine Sub.trans (sx_nil (rest_sub _ (T := []) ?_)) (ev_sub it r _ _ e1)
    rw [List.append_nil]
    refine foldR_inv (fun (p : List D × Env) => Sx t.slots p.2 r0) (fun a b b' i h => ?_) xs ([], r0) (acc, r1) (Sx.refl _ _) e2
    obtain ⟨r2, e3, h⟩ := bind_ok h
    obtain ⟨⟨z, r4⟩, e5, h⟩ := bind_ok h
    obtain ⟨_, _, h⟩ := bind_ok h
    rw [← pure_inj h]
    exact (ev_sub e _ _ _ e5).sx.trans (((setT_sx t a _ _ e3).trans (clr_sub _).sx).trans i)
theorem evs_sub : ∀ (es : List E) (r : Env) (ds : List D) (r' : Env), evs P rp es r = .ok (ds, r') → Sub r' r
  | [], r, ds, r', h => by simp only [evs] at h; injection h with h; obtain ⟨rfl, rfl⟩ := Prod.mk.inj h; exact Sub.refl _
  | e :: es, r, ds, r', h => by
    simp only [evs] at h
    obtain ⟨p1, e1, h⟩ := bind_ok h
    obtain ⟨p2, e2, h⟩ := bind_ok h
    obtain ⟨rfl, rfl⟩ := Prod.mk.inj (pure_inj h)
    exact (evs_sub es _ _ _ e2).trans (ev_sub e r _ _ e1)
theorem evc_sub : ∀ (es : List E) (r : Env) (b : Bool) (r' : Env), evc P rp es r = .ok (b, r') → Sub r' r
  | [], r, ds, r', h => by simp only [evc] at h; injection h with h; obtain ⟨rfl, rfl⟩ := Prod.mk.inj h; exact Sub.refl _
  | e :: es, r, ds, r', h => by
    simp only [evc] at h
    obtain ⟨p1, e1, h⟩ := bind_ok h
    obtain ⟨t, _, h⟩ := bind_ok h
    split at h
    · exact (evc_sub es _ _ _ h).trans (ev_sub e r _ _ e1)
    · obtain ⟨rfl, rfl⟩ := Prod.mk.inj (pure_inj h)
      exact ev_sub e r _ _ e1
end
end
end C

set_option Elab.async false
set_option linter.all false
set_option maxRecDepth 100000
set_option maxHeartbeats 1000000
/-! Sound9: calls of defs. -/
namespace C
open PySem PySem.Spec PyProof.Rows L2

/-! ### what is one's own is given away -/
section
variable {g : Wd} {ks : List Nat} {pu : Bool} {H H' : Hp} {O O' O'' : Ow} {σ : L2.St} {ρ ρ' : Env} {v : V} {d : D} {r : Addr}
theorem Post.thaw (R : Rel g ks H O σ ρ) (p : Post g ks pu H O σ ρ ρ' H' O') (fr : H r = none) (s : Step (fun x => x = r) H' O' H' O'') (w : WF H' O'') : Post g ks pu H O σ ρ ρ' H' O'' := by
  refine ⟨p.step.trans R.wf s fun x e => .inr (by rw [e]; exact fr), p.rel.stay s w fun x e m => ?_, p.sub⟩
  obtain ⟨_, o, e2⟩ := R.mine (m.sub p.sub)
  rw [e, fr] at e2; cases e2
/-- all that a root owns but itself is given away -/
def free1 (O : Ow) (r : Addr) : Ow := fun a => if O a = some r ∧ a ≠ r then none else O a
theorem free1_of {a : Addr} (h : O a = some r) (n : a ≠ r) : free1 O r a = none := by unfold free1; rw [if_pos ⟨h, n⟩]
theorem free1_ne {a : Addr} (h : ¬ (O a = some r ∧ a ≠ r)) : free1 O r a = O a := by unfold free1; rw [if_neg h]
theorem Step.freed1 (w : WF H O) : Step (fun x => x = r) H O H (free1 O r) ∧ WF H (free1 O r) := by
  have inv : ∀ {a s}, free1 O r a = some s → O a = some s ∧ ¬ (O a = some r ∧ a ≠ r) := fun {a s} e => by
    unfold free1 at e; split at e
    · cases e
    · exact ⟨e, by assumption⟩
  refine ⟨⟨fun a u e q => ⟨by rw [free1_ne (by rw [e]; simp)]; exact e, q⟩, fun a s e n => ⟨?_, rfl⟩, fun a u e => ⟨u, e⟩⟩, ⟨fun a s e => ?_, fun a s e => w.trk _ _ (inv e).1⟩⟩
  · have : ¬ (O a = some r ∧ a ≠ r) := fun z => by rw [e] at z; cases z.1; exact n rfl
    rw [free1_ne this]; exact e
  · have q := w.root _ _ (inv e).1
    rw [free1_ne (by rw [q]; rintro ⟨z, n⟩; cases z; exact n rfl)]; exact q
theorem freed1_le : Le (C.ro H O) (C.ro H (free1 O r)) := fun a o e => by
  obtain ⟨x, y⟩ := ro_inv e
  rw [ro_of (by rw [free1_ne (by rw [x]; simp)]; exact x)]; exact y
theorem Sub1.flat (h : Sub1 g H O r v d) : Lay g (ro H (free1 O r)) v d := by
  cases d with
  | lst ds =>
    obtain ⟨b, xs, rfl, h0, h1, h2, h3⟩ := h
    exact .lst (.of (by rw [ro_of (free1_of h2 h0)]; exact h1)) (h3.le freed1_le)
  | _ => exact h.2.le freed1_le
def fits (m : Md) (n : Nat) : Bool := match m with
  | .own (j + 1) => j + 1 ≤ n && n ≤ 2
  | _ => true
theorem Res.of0 {H0 : Hp} {m : Md} (h : Lay g (ro H O) v d) (e : noOwn m = true) : Res g m H0 H O v d := by
  match m, e with
  | .b, _ => exact Lay.le ro_le h
  | .k, _ => exact Top.of h
  | .own 0, _ => exact h
/-- a result as the caller wants it -/
theorem Post.give {m : Md} {n : Nat} (hm : fits m n = true) (R : Rel g ks H O σ ρ) (p : Post g ks pu H O σ ρ ρ' H' O') (h : Res g (.own n) H H' O' v d) : ∃ O'', Post g ks pu H O σ ρ ρ' H' O'' ∧ Res g m H H' O'' v d := by
  cases n with
  | zero =>
    have : noOwn m = true := by
      match m, hm with
      | .b, _ => rfl
      | .k, _ => rfl
      | .own 0, _ => rfl
      | .own (j + 1), hm => simp [fits] at hm
    exact ⟨O', p, Res.of0 h this⟩
  | succ n =>
    have h : ResO g n H H' O' v d := h
    unfold ResO at h
    by_cases ts : isTS d = true
    · rw [if_pos ts] at h
      refine ⟨O', p, ?_⟩
      match m with
      | .b => exact Lay.le ro_le h
      | .k => exact Top.of h
      | .own 0 => exact h
      | .own (j + 1) => show ResO g j H H' O' v d; unfold ResO; rw [if_pos ts]; exact h
    · rw [if_neg ts] at h
      by_cases no : noOwn m = true
      · rcases h.1.frozen p.rel.wf with ⟨r, rfl, hr, l⟩ | l
        · obtain ⟨s, w⟩ := Step.freed (M := fun x => x = r) p.rel.wf rfl
          exact ⟨_, p.thaw R (h.2 r rfl) s w, Res.of0 l no⟩
        · exact ⟨O', p, Res.of0 l no⟩
      · match m, no, hm with
        | .b, no, _ => exact (no rfl).elim
        | .k, no, _ => exact (no rfl).elim
        | .own 0, no, _ => exact (no rfl).elim
        | .own (j + 1), _, hm =>
          by_cases e : j = n
          · subst e
            refine ⟨O', p, ?_⟩
            show ResO g j H H' O' v d
            unfold ResO; rw [if_neg ts]; exact h
          · have hm' : j + 1 ≤ n + 1 ∧ n + 1 ≤ 2 := by simpa [fits] using hm
            obtain rfl : j = 0 := by omega
            obtain rfl : n = 1 := by omega
            have h1 : Own2 g H' O' v d := h.1
            cases d with
            | lst ds =>
              obtain ⟨a, xs, rfl, e1, e2, e3, e4, e5⟩ := h1
              obtain ⟨s, w⟩ := Step.freed1 (r := a) p.rel.wf
              refine ⟨_, p.thaw R (h.2 a rfl) s w, ?_⟩
              show ResO g 0 H H' _ _ _
              unfold ResO; rw [if_neg ts]
              exact ⟨⟨a, xs, rfl, e1, by rw [free1_ne (fun z => z.2 rfl)]; exact e2, layL_of e3 fun i v d a1 a2 => (e4 i v d a1 a2).flat⟩, h.2⟩
            | _ => exact ⟨O', p, Res.at_ h1.2 h1.1⟩
end

/-! ### arguments -/
def argOk (g : Wd) (H : Hp) (O : Ow) (σ : L2.St) : List Nat → List Nat → List V → List D → Prop
  | [], [], [], [] => True
  | 0 :: kk, io, v :: vs, d :: ds => Lay g (ro H O) v d ∧ argOk g H O σ kk io vs ds
  | (_ + 1) :: kk, i :: io, v :: vs, ds => σ[i]? = some (some v) ∧ argOk g H O σ kk io vs ds
  | _, _, _, _ => False
/-- the changed arguments' slots are of the parameters' kinds -/
def kOk (ks : List Nat) : List Nat → List Nat → Bool
  | [], [] => true
  | 0 :: kk, io => kOk ks kk io
  | (k + 1) :: kk, i :: io => ks.getD i 0 == k + 1 && kOk ks kk io
  | _, _ => false
def TArg (g : Wd) (ks kk : List Nat) (pu : Bool) (P : Fs) (rp : D → Str) (as : List E) (io : List Nat) : TA := fun σ H Q => ∃ O ρ ds os ρ', Rel g ks H O σ ρ ∧ evs P rp as ρ = .ok (ds, ρ') ∧ getAll io ρ' = .ok os ∧
  ∀ vs H' O', Post g ks pu H O σ ρ ρ' H' O' → argOk g H' O' σ kk io vs ds → Q vs H'
section
variable {X : Cx} {g : Wd} {ks kk : List Nat} {P : Fs} {rp : D → Str} {p1 p2 pu : Bool} {c : E} {cs : List E} {io : List Nat} {e : Expr} {es : List Expr} {i k : Nat} {x : Str} {pos : Pos}
theorem argOk.step {M : Addr → Prop} {H H' : Hp} {O O' : Ow} {σ : L2.St} (s : Step M H O H' O') : ∀ {kk io : List Nat} {vs : List V} {ds : List D}, argOk g H O σ kk io vs ds → argOk g H' O' σ kk io vs ds
  | [], [], [], [], _ => True.intro
  | 0 :: kk, io, v :: vs, d :: ds, h => ⟨h.1.le s.le, argOk.step s h.2⟩
  | (_ + 1) :: kk, i :: io, v :: vs, ds, h => ⟨h.1, argOk.step s h.2⟩
theorem a_nil : PA X [] (TArg g ks [] pu P rp [] []) := by
  refine PA.imp pa_nil fun σ H Q ⟨O, ρ, ds, os, ρ', R, e, e2, q⟩ => ?_
  unfold evs at e
  injection e with e
  obtain ⟨rfl, rfl⟩ := Prod.mk.inj e
  exact q [] H O (Post.refl R) True.intro
theorem a_ro (ha : PE X e (TEd g ks (.own 0) p1 (ev P rp c))) (hr : PA X es (TArg g ks kk p2 P rp cs io)) (hs : starEach (e :: es) X.env = (false, eval e X.env) :: starEach es X.env) :
    PA X (e :: es) (TArg g ks (0 :: kk) (p1 && p2) P rp (c :: cs) io) := by
  refine PA.imp (pa_cons ha hr hs) fun σ H Q ⟨O, ρ, ds, os, ρ', R, e, e2, q⟩ => ?_
  unfold evs at e
  obtain ⟨⟨d, ρ1⟩, e1, e⟩ := bind_ok e
  obtain ⟨⟨ds1, ρ2⟩, e3, e⟩ := bind_ok e
  obtain ⟨rfl, rfl⟩ := Prod.mk.inj (pure_inj e)
  refine ⟨O, ρ, d, ρ1, R, e1, fun v H1 O1 p r => ⟨O1, ρ1, ds1, os, ρ2, p.rel, e3, e2, fun vs H2 O2 p' r' => ?_⟩⟩
  exact q (v :: vs) H2 O2 (p.trans R p') ⟨Lay.le p'.step.le r, r'⟩
theorem a_io (hN : X.N[i]? = some x) (hv : Vis X.env.scope x) (hd : (x == ("__debug__" : Str)) = false) (hcd : (x == ("__classdict__" : Str)) = false) (hr : PA X es (TArg g ks kk p2 P rp cs io)) (hs : starEach (.Name x pos :: es) X.env = (false, eval (.Name x pos) X.env) :: starEach es X.env) :
    PA X (.Name x pos :: es) (TArg g ks ((k + 1) :: kk) p2 P rp cs (i :: io)) := by
  refine PA.imp (pa_cons (pe_var hN hv hd hcd) hr hs) fun σ H Q ⟨O, ρ, ds, os, ρ', R, e, e2, q⟩ => ?_
  have lv := getAll_live e2 i (.head _)
  unfold getAll at e2
  obtain ⟨d, e3, e2⟩ := bind_ok e2
  obtain ⟨os1, e4, e2⟩ := bind_ok e2
  obtain ⟨d1, l1⟩ := lv
  obtain ⟨d0, hl⟩ := evs_sub _ _ _ _ e i d1 l1
  obtain ⟨v, ev, _⟩ := R.slot i d0 hl
  exact ⟨v, ev, O, ρ, ds, os1, ρ', R, e, e4, fun vs H' O' p r => q (v :: vs) H' O' p ⟨ev, r⟩⟩
end

/-! ### the call -/
section
variable {g : Wd} {ks : List Nat} {H H' : Hp} {O O' : Ow} {σ : L2.St} {ρ ρ' : Env}
theorem argMine_of : ∀ {kk io : List Nat} {vs : List V} {ds : List D} {r : Addr}, argOk g H O σ kk io vs ds → kOk ks kk io = true → argMine kk vs r → ∃ i ∈ io, ks.getD i 0 ≠ 0 ∧ σ[i]? = some (some (.ref r))
  | [], [], [], [], r, _, _, m => m.elim
  | 0 :: kk, io, v :: vs, d :: ds, r, h, k, m => argMine_of h.2 k m
  | (n + 1) :: kk, i :: io, v :: vs, ds, r, h, k, m => by
    simp only [kOk, Bool.and_eq_true, beq_iff_eq] at k
    rcases m with rfl | m
    · exact ⟨i, .head _, by omega, h.1⟩
    · obtain ⟨j, h1, h2⟩ := argMine_of h.2 k.2 m
      exact ⟨j, .tail _ h1, h2⟩
theorem bound_of (R : Rel g ks H O σ ρ) : ∀ {kk io : List Nat} {vs : List V} {ds os : List D}, argOk g H O σ kk io vs ds → kOk ks kk io = true → getAll io ρ = .ok os → bound g H O kk vs ds os
  | [], [], [], [], os, _, _, e => by
    unfold getAll at e
    injection e with e; subst e; exact True.intro
  | 0 :: kk, io, v :: vs, d :: ds, os, h, k, e => ⟨h.1, bound_of R h.2 k e⟩
  | (n + 1) :: kk, i :: io, v :: vs, ds, os, h, k, e => by
    simp only [kOk, Bool.and_eq_true, beq_iff_eq] at k
    unfold getAll at e
    obtain ⟨d, e1, e⟩ := bind_ok e
    obtain ⟨os1, e2, e⟩ := bind_ok e
    obtain rfl := pure_inj e
    obtain ⟨w, ew, sl⟩ := R.slot i d (rd_ok e1)
    rw [h.1] at ew
    cases ew
    rw [k.1] at sl
    exact ⟨sl, bound_of R h.2 k.2 e2⟩
theorem apart_of (R : Rel g ks H O σ ρ) : ∀ {kk io : List Nat} {vs : List V} {ds os : List D}, argOk g H O σ kk io vs ds → kOk ks kk io = true → getAll io ρ = .ok os → io.Nodup → argApart kk vs
  | [], [], [], [], os, _, _, _, _ => True.intro
  | 0 :: kk, io, v :: vs, d :: ds, os, h, k, e, n => apart_of (kk := kk) R h.2 k e n
  | (n + 1) :: kk, i :: io, v :: vs, ds, os, h, k, e, nd => by
    simp only [kOk, Bool.and_eq_true, beq_iff_eq] at k
    have live := getAll_live e
    unfold getAll at e
    obtain ⟨d, e1, e⟩ := bind_ok e
    obtain ⟨os1, e2, e⟩ := bind_ok e
    rw [List.nodup_cons] at nd
    refine ⟨fun r er m => ?_, apart_of R h.2 k.2 e2 nd.2⟩
    obtain ⟨j, h1, h2, h3⟩ := argMine_of h.2 k.2 m
    obtain ⟨dj, lj⟩ := live j (.tail _ h1)
    have hv := h.1
    rw [er] at hv
    exact R.apart i j r d dj (fun z => nd.1 (z ▸ h1)) (by omega) h2 (rd_ok e1) lj hv h3
theorem putAll_spec : ∀ {io : List Nat} {os : List D} {r r' : Env}, io.Nodup → putAll io os r = .ok r' → r'.length = r.length ∧ (∀ i, i ∉ io → r'[i]? = r[i]?) ∧ ∀ i ∈ io, ∃ j : Nat, io[j]? = some i ∧ ∃ d, os[j]? = some d ∧ r'[i]? = some (some d)
  | [], [], r, r', _, e => by
    unfold putAll at e; injection e with e; subst e
    exact ⟨rfl, fun _ _ => rfl, fun i h => by cases h⟩
  | [], _ :: _, _, _, _, e => by simp [putAll] at e
  | _ :: _, [], _, _, _, e => by simp [putAll] at e
  | i :: io, d :: os, r, r', nd, e => by
    unfold putAll at e
    split at e
    · rename_i hl
      rw [List.nodup_cons] at nd
      obtain ⟨a, b, c⟩ := putAll_spec nd.2 e
      refine ⟨by rw [a, List.length_set], fun j hj => ?_, fun j hj => ?_⟩
      · rw [List.mem_cons, not_or] at hj
        rw [b j hj.2, List.getElem?_set_ne (fun z => hj.1 z.symm)]
      · rcases List.mem_cons.mp hj with rfl | hj
        · exact ⟨0, rfl, d, rfl, by rw [b _ nd.1, List.getElem?_set_self hl]⟩
        · obtain ⟨n, h1, d', h2, h3⟩ := c j hj
          exact ⟨n + 1, h1, d', h2, h3⟩
    · cases e
theorem outs_get : ∀ {kk io : List Nat} {vs : List V} {ds os : List D} {j i : Nat} {d : D}, argOk g H O σ kk io vs ds → kOk ks kk io = true → outs g H' O' kk vs os → io[j]? = some i → os[j]? = some d → ∃ v, σ[i]? = some (some v) ∧ Slot g H' O' (ks.getD i 0) v d
  | [], [], [], [], os, j, i, d, _, _, _, e, _ => by simp at e
  | 0 :: kk, io, v :: vs, d :: ds, os, j, i, _, h, k, o, e1, e2 => outs_get (kk := kk) h.2 k o e1 e2
  | (n + 1) :: kk, i0 :: io, v :: vs, ds, d0 :: os, 0, i, d, h, k, o, e1, e2 => by
    simp only [kOk, Bool.and_eq_true, beq_iff_eq] at k
    cases e1; cases e2
    rw [k.1]
    exact ⟨v, h.1, o.1⟩
  | (n + 1) :: kk, i0 :: io, v :: vs, ds, d0 :: os, j + 1, i, d, h, k, o, e1, e2 => by
    simp only [kOk, Bool.and_eq_true, beq_iff_eq] at k
    exact outs_get h.2 k.2 o.2 (by simpa using e1) (by simpa using e2)
theorem Post.call {kk io : List Nat} {vs : List V} {ds os os' : List D} (R : Rel g ks H O σ ρ) (ao : argOk g H O σ kk io vs ds) (k : kOk ks kk io = true) (e : getAll io ρ = .ok os) (nd : io.Nodup)
    (s : Step (argMine kk vs) H O H' O') (w : WF H' O') (o : outs g H' O' kk vs os') (pe : putAll io os' ρ = .ok ρ') : Post g ks io.isEmpty H O σ ρ ρ' H' O' := by
  obtain ⟨a, b, c⟩ := putAll_spec nd pe
  have live := getAll_live e
  have sub : Sub ρ' ρ := putAll_sub live pe
  have mine : ∀ r, argMine kk vs r → ∃ i ∈ io, ks.getD i 0 ≠ 0 ∧ σ[i]? = some (some (.ref r)) := fun r m => argMine_of ao k m
  refine ⟨s.mono fun r m => ?_, ⟨w, by rw [a, R.len], fun i d hi => ?_, fun i j r d1 d2 ne k1 k2 h1 h2 s1 => ?_⟩, sub⟩
  · obtain ⟨i, hi, hk, hs⟩ := mine r m
    obtain ⟨d, l⟩ := live i hi
    exact ⟨by cases io with | nil => cases hi | cons _ _ => rfl, i, d, hk, l, hs⟩
  · by_cases hm : i ∈ io
    · obtain ⟨j, h1, d', h2, h3⟩ := c i hm
      rw [hi] at h3
      cases h3
      exact outs_get ao k o h1 h2
    · rw [b i hm] at hi
      obtain ⟨v, ev, sl⟩ := R.slot i d hi
      refine ⟨v, ev, sl.step s fun k0 r er m => ?_⟩
      obtain ⟨j, hj, hk, hs⟩ := mine r m
      obtain ⟨dj, lj⟩ := live j hj
      rw [er] at ev
      exact R.apart i j r d dj (fun z => hm (z ▸ hj)) k0 hk hi lj ev hs
  · obtain ⟨e1, l1⟩ := sub i d1 h1
    obtain ⟨e2, l2⟩ := sub j d2 h2
    exact R.apart i j r e1 e2 ne k1 k2 l1 l2 s1
end
/-- a call as an expression -/
theorem call_rd {g : Wd} {ks kk : List Nat} {P : Fs} {rp : D → Str} {pa : Bool} {m : Md} {n f : Nat} {as : List E} {io : List Nat} {σ : L2.St} {H : Hp} {Q : VK} (k : kOk ks kk io = true) (nd : io.Nodup) (hm : fits m n = true)
    (h : TEd g ks m (pa && io.isEmpty) (ev P rp (.call f as io)) σ H Q) : TArg g ks kk pa P rp as io σ H fun vs H1 => spD g kk n (P f) vs H1 Q E0 := by
  obtain ⟨O, ρ, d, ρ', R, e, q⟩ := h
  simp only [ev] at e
  obtain ⟨⟨ds, ρ1⟩, e1, e⟩ := bind_ok e
  obtain ⟨os, e2, e⟩ := bind_ok e
  obtain ⟨⟨d1, os'⟩, e3, e⟩ := bind_ok e
  obtain ⟨ρ2, e4, e⟩ := bind_ok e
  obtain ⟨rfl, rfl⟩ := Prod.mk.inj (pure_inj e)
  refine ⟨O, ρ, ds, os, ρ1, R, e1, e2, fun vs H1 O1 p ao => ?_⟩
  refine ⟨O1, ds, os, d1, os', p.rel.wf, bound_of p.rel ao k e2, apart_of p.rel ao k e2 nd, e3, fun v H' O' s w r o => ?_⟩
  have p2 := p.trans R (Post.call p.rel ao k e2 nd s w o e4)
  obtain ⟨O2, p3, r3⟩ := p2.give hm R (r.early p.step)
  exact q v H' O2 p3 r3
section
variable {X : Cx} {ks kk : List Nat} {P : Fs} {rp : D → Str} {pa : Bool} {m : Md} {n f k : Nat} {as : List E} {io : List Nat} {x : Str} {p pos : Pos} {e : Expr} {es : List Expr} {fa : Addr} {fd : FuncData} {ps : List Str}
/-- a def that may be called by its name x; by Core: number f -/
structure CalG (P : Program) (w : World) (K : PySem.W.Frag) (mg : Str → Option Value) (base : Heap) (k : Nat) (x : Str) (sp : Sp) : Prop where
  ex : ∃ (f : Addr) (fd : FuncData) (ps : List Str), FnG P w K mg base CX0 k f fd ps sp ∧ mg x = some (.ref f) ∧ PySem.W.keepIn K (.ref f) = true ∧ Binds K fd ps []
theorem d_call (c : CalG X.prog X.w X.K X.mg X.base k x (spD (wdOf X) kk n (P f))) (hr : Room k X.A) (hgd : X.A.guards = some []) (hg : Gl X x) (ha : PA X es (TArg (wdOf X) ks kk pa P rp as io)) (hk : kOk ks kk io = true) (nd : io.Nodup) (hm : fits m n = true)
    (h0 : es = [] → kk = [] ∧ as = [] ∧ io = [])
    (hdb : (x == ("__debug__" : Str)) = false) (he : ∀ e es', es = e :: es' → starEach (e :: es') X.env = (false, eval e X.env) :: starEach es' X.env ∧ (starEach es' X.env).any (·.1) = false) :
    PE X (.Call (.Name x p) es [] pos) (TEd (wdOf X) ks m (pa && io.isEmpty) (ev P rp (.call f as io))) := by
  obtain ⟨fa, fd, ps, F, hmg, kp, b⟩ := c.ex
  cases es with
  | nil =>
    refine PE.imp (pe_g0 F hr hgd hg hmg kp b pass0 hdb) fun σ H Q h => ?_
    obtain ⟨rfl, rfl, rfl⟩ := h0 rfl
    obtain ⟨O, ρ, ds, os, ρ', R, e1, e2, q⟩ := call_rd (kk := []) hk nd hm h
    unfold evs at e1
    injection e1 with e1
    obtain ⟨rfl, rfl⟩ := Prod.mk.inj e1
    exact q [] H O (Post.refl R) True.intro
  | cons e es =>
    exact PE.imp (pe_g F hr hgd hg hmg kp b pass0 ha hdb (he e es rfl).1 (he e es rfl).2) fun σ H Q h => call_rd hk nd hm h
theorem ro_none {H : Hp} : ro H (fun _ => none) = H := by
  funext a
  exact ro_of rfl
theorem bound0 {g : Wd} {H : Hp} : ∀ {kk : List Nat} {vs : List V} {ds : List D}, kk.all (· == 0) = true → kk.length = ds.length → LayL g H vs ds → bound g H (fun _ => none) kk vs ds []
  | [], _, _, _, _, .nil => True.intro
  | k :: kk, _, _, hk, hl, .cons a r => by
    simp only [List.all_cons, Bool.and_eq_true, beq_iff_eq] at hk
    obtain ⟨rfl, hk⟩ := hk
    exact ⟨by rw [ro_none]; exact a, bound0 hk (by simpa using hl) r⟩
  | [], _, _, _, hl, .cons a r => by simp at hl
  | _ :: _, _, _, _, hl, .nil => by simp at hl
theorem argMine0 : ∀ {kk : List Nat} {vs : List V} {r : Addr}, kk.all (· == 0) = true → ¬ argMine kk vs r
  | [], _, _, _ => id
  | k :: kk, [], r, hk => by
    simp only [List.all_cons, Bool.and_eq_true, beq_iff_eq] at hk
    obtain ⟨rfl, hk⟩ := hk
    exact id
  | k :: kk, v :: vs, r, hk => by
    simp only [List.all_cons, Bool.and_eq_true, beq_iff_eq] at hk
    obtain ⟨rfl, hk⟩ := hk
    exact argMine0 (kk := kk) hk
theorem argApart0 : ∀ {kk : List Nat} {vs : List V}, kk.all (· == 0) = true → argApart kk vs
  | [], _, _ => True.intro
  | k :: kk, [], hk => by
    simp only [List.all_cons, Bool.and_eq_true, beq_iff_eq] at hk
    obtain ⟨rfl, hk⟩ := hk
    exact True.intro
  | k :: kk, v :: vs, hk => by
    simp only [List.all_cons, Bool.and_eq_true, beq_iff_eq] at hk
    obtain ⟨rfl, hk⟩ := hk
    exact argApart0 (kk := kk) hk
theorem evs_len : ∀ {es : List E} {r r' : Env} {ds : List D}, evs P rp es r = .ok (ds, r') → ds.length = es.length
  | [], _, _, _, h => by simp only [evs] at h; injection h with h; obtain ⟨rfl, rfl⟩ := Prod.mk.inj h; rfl
  | e :: es, r, r', ds, h => by
    simp only [evs] at h
    obtain ⟨p1, e1, h⟩ := bind_ok h
    obtain ⟨p2, e2, h⟩ := bind_ok h
    obtain ⟨rfl, rfl⟩ := Prod.mk.inj (pure_inj h)
    rw [List.length_cons, List.length_cons, evs_len e2]
theorem bcall_rd {g : Wd} {σ : L2.St} {H : Hp} {Q : VK} (hk : kk.all (· == 0) = true) (hl : kk.length = as.length)
    (h : TEd g ks m pa (ev P rp (.bcall f as)) σ H Q) : TAd g ks .b pa (evs P rp as) σ H fun vs H1 => spD g kk n (P f) vs H1 Q E0 := by
  obtain ⟨O, ρ, d, ρ', R, e, q⟩ := h
  simp only [ev] at e
  obtain ⟨⟨ds, ρ1⟩, e1, e⟩ := bind_ok e
  obtain ⟨⟨d1, os⟩, e3, e⟩ := bind_ok e
  obtain ⟨_, e4, e⟩ := bind_ok e
  obtain ⟨rfl, rfl⟩ := Prod.mk.inj (pure_inj e)
  refine ⟨O, ρ, ds, ρ1, R, e1, fun vs H1 O1 p pr => ?_⟩
  refine ⟨fun _ => none, ds, [], d1, os, ⟨(fun a r z => nomatch z), (fun a r z => nomatch z)⟩, bound0 hk (by rw [hl, evs_len e1]) (layL_paired pr), argApart0 hk, e3, fun v H' O' s w r o => ?_⟩
  have le : Le H1 H' := fun a u z => (s.ro a u rfl z).2
  have s1 : Step (fun _ => False) H1 O1 H' O1 := ⟨fun a u z z2 => ⟨z, le _ _ z2⟩, fun a s z _ => by
    obtain ⟨u, hu⟩ := p.rel.wf.trk _ _ z
    exact ⟨z, by rw [hu, le _ _ hu]⟩, fun a u z => ⟨u, le _ _ z⟩⟩
  have w1 : WF H' O1 := ⟨p.rel.wf.root, fun a s z => let ⟨u, hu⟩ := p.rel.wf.trk _ _ z; ⟨u, le _ _ hu⟩⟩
  exact q v H' O1 (p.out R s1 w1) (Res.at_ (r.lay) (grd_ok e4))
theorem d_bcall (c : CalG X.prog X.w X.K X.mg X.base k x (spD (wdOf X) kk n (P f))) (hr : Room k X.A) (hgd : X.A.guards = some []) (hg : Gl X x) (ha : PA X (e :: es) (TAd (wdOf X) ks .b pa (evs P rp as))) (hk : kk.all (· == 0) = true) (hl : kk.length = as.length)
    (hdb : (x == ("__debug__" : Str)) = false) (he : starEach (e :: es) X.env = (false, eval e X.env) :: starEach es X.env) (hpl : (starEach es X.env).any (·.1) = false) :
    PE X (.Call (.Name x p) (e :: es) [] pos) (TEd (wdOf X) ks m pa (ev P rp (.bcall f as))) := by
  obtain ⟨fa, fd, ps, F, hmg, kp, b⟩ := c.ex
  exact PE.imp (pe_g F hr hgd hg hmg kp b pass0 ha hdb he hpl) fun σ H Q h => bcall_rd hk hl h
end
end C

set_option Elab.async false
set_option linter.all false
set_option maxRecDepth 100000
set_option maxHeartbeats 1000000
/-! Sort1: a total order of data that agrees with < where < is told; insertion is the sort that sorted does. -/
namespace C
open PySem PySem.Spec PyProof.Rows L2

/-! ### the order -/
def c2 (i j : Int) : Ordering := if i < j then .lt else if j < i then .gt else .eq
def cS (a b : List Nat) : Ordering := if a < b then .lt else if b < a then .gt else .eq
def rk : D → Int
  | .int _ => 0 | .bl _ => 0 | .str _ => 1 | .tup _ => 2 | _ => 3
mutual
def c3 : D → D → Ordering
  | .int i, .int j => c2 i j
  | .int i, .bl b => c2 i (b2i b)
  | .bl a, .int j => c2 (b2i a) j
  | .bl a, .bl b => c2 (b2i a) (b2i b)
  | .str a, .str b => cS a.cps.toList b.cps.toList
  | .tup a, .tup b => c3s a b
  | a, b => c2 (rk a) (rk b)
def c3s : List D → List D → Ordering
  | [], [] => .eq
  | [], _ :: _ => .lt
  | _ :: _, [] => .gt
  | a :: r, b :: s => (c3 a b).then (c3s r s)
end
/-- the way of an order: swapped and chained -/
def Sw (x y : Ordering) : Prop := y = x.swap
def Ch (x y z : Ordering) : Prop := x ≠ .gt → y ≠ .gt → z = x.then y
theorem c2_sw (i j : Int) : Sw (c2 i j) (c2 j i) := by
  unfold Sw c2
  rcases Int.lt_trichotomy i j with h | h | h
  · rw [if_neg (by omega), if_pos h, if_pos h]; rfl
  · subst h; simp
  · rw [if_pos h, if_neg (by omega), if_pos h]; rfl
theorem c2_ch (i j k : Int) : Ch (c2 i j) (c2 j k) (c2 i k) := by
  unfold Ch c2
  rcases Int.lt_trichotomy i j with h | h | h
  · rcases Int.lt_trichotomy j k with h' | h' | h'
    · simp [h, h', show i < k by omega]
    · subst h'; simp [h]
    · simp [h', show ¬ j < k by omega]
  · subst h; simp
  · simp [h, show ¬ i < j by omega]
theorem lS (a b : List Nat) : (a < b ∧ ¬ b < a) ∨ a = b ∨ (b < a ∧ ¬ a < b) := by
  by_cases h1 : a < b
  · exact .inl ⟨h1, List.lt_asymm h1⟩
  · by_cases h2 : b < a
    · exact .inr (.inr ⟨h2, h1⟩)
    · exact .inr (.inl (List.le_antisymm (List.not_lt.mp h2) (List.not_lt.mp h1)))
theorem cS_sw (a b : List Nat) : Sw (cS a b) (cS b a) := by
  unfold Sw cS
  rcases lS a b with ⟨h, h'⟩ | h | ⟨h, h'⟩
  · simp [h, h']
  · subst h; simp [List.lt_irrefl]
  · simp [h, h']
theorem cS_ch (a b c : List Nat) : Ch (cS a b) (cS b c) (cS a c) := by
  unfold Ch cS
  rcases lS a b with ⟨h, h'⟩ | h | ⟨h, h'⟩
  · rcases lS b c with ⟨k, k'⟩ | k | ⟨k, k'⟩
    · simp [h, k, List.lt_trans h k]
    · subst k; simp [h]
    · simp [k, k']
  · subst h; simp [List.lt_irrefl]
  · simp [h, h']
theorem rk_ne {a b : D} (h : rk a ≠ rk b) : c3 a b = c2 (rk a) (rk b) := by
  cases a <;> cases b <;> first | (exact absurd rfl h) | rfl
theorem then_sw {x x' y y' : Ordering} (a : Sw x x') (b : Sw y y') : Sw (x.then y) (x'.then y') := by
  unfold Sw at *; subst a; subst b; cases x <;> cases y <;> rfl
theorem then_ch {x y z x' y' z' : Ordering} (a : Ch x y z) (b : Ch x' y' z') : Ch (x.then x') (y.then y') (z.then z') := by
  unfold Ch at *
  intro h1 h2
  cases x <;> cases y <;> simp_all <;> (cases x' <;> cases y' <;> simp_all)
mutual
theorem c3_sw : ∀ a b : D, Sw (c3 a b) (c3 b a)
  | .tup a, .tup b => by simp only [c3]; exact c3s_sw a b
  | .tup a, .int _ => by simp only [c3]; exact c2_sw _ _
  | .tup a, .bl _ => by simp only [c3]; exact c2_sw _ _
  | .tup a, .non => by simp only [c3]; exact c2_sw _ _
  | .tup a, .str _ => by simp only [c3]; exact c2_sw _ _
  | .tup a, .lst _ => by simp only [c3]; exact c2_sw _ _
  | .tup a, .dct _ _ => by simp only [c3]; exact c2_sw _ _
  | .tup a, .set _ => by simp only [c3]; exact c2_sw _ _
  | .int _, b => by cases b <;> (simp only [c3]; exact c2_sw _ _)
  | .bl _, b => by cases b <;> (simp only [c3]; exact c2_sw _ _)
  | .non, b => by cases b <;> (simp only [c3]; exact c2_sw _ _)
  | .str _, b => by cases b <;> (simp only [c3]; first | exact cS_sw _ _ | exact c2_sw _ _)
  | .lst _, b => by cases b <;> (simp only [c3]; exact c2_sw _ _)
  | .dct _ _, b => by cases b <;> (simp only [c3]; exact c2_sw _ _)
  | .set _, b => by cases b <;> (simp only [c3]; exact c2_sw _ _)
theorem c3s_sw : ∀ a b : List D, Sw (c3s a b) (c3s b a)
  | [], [] => by simp only [c3s]; rfl
  | [], _ :: _ => by simp only [c3s]; rfl
  | _ :: _, [] => by simp only [c3s]; rfl
  | a :: r, b :: s => by simp only [c3s]; exact then_sw (c3_sw a b) (c3s_sw r s)
end
/-- numbers for what is no tuple and no text -/
def nm : D → Option Int
  | .int i => some i
  | .bl b => some (b2i b)
  | _ => none
theorem c3_nm {a b : D} {i j : Int} (ha : nm a = some i) (hb : nm b = some j) : c3 a b = c2 i j := by
  cases a <;> first | (simp [nm] at ha; done) | skip
  all_goals (cases b <;> first | (simp [nm] at hb; done) | skip)
  all_goals (simp only [nm, Option.some.injEq] at ha hb; subst ha; subst hb; rfl)
theorem c3_rest {a b : D} (ha : rk a = 3) (hb : rk b = 3) : c3 a b = .eq := by
  cases a <;> first | (simp [rk] at ha; done) | skip
  all_goals (cases b <;> first | (simp [rk] at hb; done) | rfl)
theorem ch_rk {a b c : D} (h : ¬ (rk a = rk b ∧ rk b = rk c)) (hb : c3 a b ≠ .gt → rk a ≤ rk b) : True := True.intro
theorem c3_le {a b : D} (h : c3 a b ≠ .gt) : rk a ≤ rk b := by
  by_cases e : rk a = rk b
  · omega
  · rw [rk_ne e] at h
    unfold c2 at h
    by_cases k : rk a < rk b
    · omega
    · rw [if_neg k, if_pos (by omega)] at h; exact absurd rfl h
theorem c3_lt {a b : D} (h : rk a < rk b) : c3 a b = .lt := by
  rw [rk_ne (by omega)]; unfold c2; rw [if_pos h]
mutual
theorem c3_ch : ∀ a b c : D, Ch (c3 a b) (c3 b c) (c3 a c)
  | .tup a, .tup b, .tup c => by simp only [c3]; exact c3s_ch a b c
  | .tup a, .tup b, .int _ => fun _ h => absurd (c3_le h) (by simp [rk])
  | .tup a, .tup b, .bl _ => fun _ h => absurd (c3_le h) (by simp [rk])
  | .tup a, .tup b, .str _ => fun _ h => absurd (c3_le h) (by simp [rk])
  | .tup a, .tup b, .non => fun h _ => by
    rw [c3_lt (a := .tup a) (b := .non) (by decide : (2:Int) < 3), c3_lt (a := .tup b) (b := .non) (by decide : (2:Int) < 3)]
    cases q : c3 (.tup a) (.tup b) <;> first | rfl | exact absurd q h
  | .tup a, .tup b, .lst z => fun h _ => by
    rw [c3_lt (a := .tup a) (b := .lst z) (by decide : (2:Int) < 3), c3_lt (a := .tup b) (b := .lst z) (by decide : (2:Int) < 3)]
    cases q : c3 (.tup a) (.tup b) <;> first | rfl | exact absurd q h
  | .tup a, .tup b, .dct y z => fun h _ => by
    rw [c3_lt (a := .tup a) (b := .dct y z) (by decide : (2:Int) < 3), c3_lt (a := .tup b) (b := .dct y z) (by decide : (2:Int) < 3)]
    cases q : c3 (.tup a) (.tup b) <;> first | rfl | exact absurd q h
  | .tup a, .tup b, .set z => fun h _ => by
    rw [c3_lt (a := .tup a) (b := .set z) (by decide : (2:Int) < 3), c3_lt (a := .tup b) (b := .set z) (by decide : (2:Int) < 3)]
    cases q : c3 (.tup a) (.tup b) <;> first | rfl | exact absurd q h
  | a, b, c => fun h1 h2 => by
    have l1 := c3_le h1
    have l2 := c3_le h2
    by_cases e1 : rk a < rk b
    · rw [c3_lt e1, c3_lt (by omega : rk a < rk c)]; rfl
    · have e1' : rk a = rk b := by omega
      by_cases e2 : rk b < rk c
      · rw [c3_lt e2, c3_lt (by omega : rk a < rk c)]
        cases q : c3 a b <;> first | rfl | exact absurd q h1
      · have e2' : rk b = rk c := by omega
        cases a with
        | tup a => cases b <;> first | (exfalso; revert e1'; simp [rk]; done) | skip
                   cases c <;> first | (exfalso; revert e2'; simp [rk]; done) | skip
                   simp only [c3] at h1 h2 ⊢
                   exact c3s_ch _ _ _ h1 h2
        | str a => cases b <;> first | (exfalso; revert e1'; simp [rk]; done) | skip
                   cases c <;> first | (exfalso; revert e2'; simp [rk]; done) | skip
                   exact cS_ch _ _ _ h1 h2
        | int a => cases b <;> first | (exfalso; revert e1'; simp [rk]; done) | skip
                   all_goals (cases c <;> first | (exfalso; revert e2'; simp [rk]; done) | exact c2_ch _ _ _ h1 h2)
        | bl a => cases b <;> first | (exfalso; revert e1'; simp [rk]; done) | skip
                  all_goals (cases c <;> first | (exfalso; revert e2'; simp [rk]; done) | exact c2_ch _ _ _ h1 h2)
        | _ =>
          have r3 : rk b = 3 := by rw [← e1']; rfl
          rw [c3_rest rfl r3, c3_rest r3 (e2' ▸ r3), c3_rest rfl (e2' ▸ r3)]; rfl
theorem c3s_ch : ∀ a b c : List D, Ch (c3s a b) (c3s b c) (c3s a c)
  | [], [], [] => by simp only [c3s]; intro _ _; rfl
  | [], [], _ :: _ => by simp only [c3s]; intro _ _; rfl
  | [], _ :: _, [] => by simp only [c3s]; intro _ h; exact absurd rfl h
  | [], _ :: _, _ :: _ => by simp only [c3s]; intro _ _; rfl
  | _ :: _, [], _ => by simp only [c3s]; intro h; exact absurd rfl h
  | _ :: _, _ :: _, [] => by simp only [c3s]; intro _ h; exact absurd rfl h
  | a :: r, b :: s, c :: t => by simp only [c3s]; exact then_ch (c3_ch a b c) (c3s_ch r s t)
end
def lt3 (a b : D) : Bool := c3 a b == .lt
theorem lt3_swo : SrtO.Swo lt3 := by
  refine ⟨fun x y h => ?_, fun x y z h1 h2 => ?_⟩
  · have h : c3 x y = .lt := by simpa [lt3] using h
    have s := c3_sw x y
    unfold Sw at s
    unfold lt3; rw [s, h]; rfl
  · have g1 : c3 x y ≠ .gt := fun e => by
      have s := c3_sw x y
      unfold Sw at s
      rw [e] at s
      unfold lt3 at h1; rw [s] at h1; cases h1
    have g2 : c3 y z ≠ .gt := fun e => by
      have s := c3_sw y z
      unfold Sw at s
      rw [e] at s
      unfold lt3 at h2; rw [s] at h2; cases h2
    have c := c3_ch x y z g1 g2
    have s := c3_sw x z
    unfold Sw at s
    unfold lt3; rw [s, c]
    cases q1 : c3 x y <;> first | exact absurd q1 g1 | (cases q2 : c3 y z <;> first | exact absurd q2 g2 | rfl)
mutual
theorem eqv_c3 : ∀ a b : D, eqv a b = true → c3 a b = .eq
  | .tup a, .tup b, h => by simp only [c3]; simp only [eqv] at h; exact eqvs_c3 a b h
  | .tup a, .non, h => by simp [eqv] at h
  | .tup a, .bl _, h => by simp [eqv] at h
  | .tup a, .int _, h => by simp [eqv] at h
  | .tup a, .str _, h => by simp [eqv] at h
  | .tup a, .lst _, h => by simp [eqv] at h
  | .tup a, .dct _ _, h => by simp [eqv] at h
  | .tup a, .set _, h => by simp [eqv] at h
  | .int i, b, h => by cases b <;> simp [eqv] at h <;> (subst h; simp [c3, c2])
  | .bl i, b, h => by cases b <;> simp [eqv] at h <;> (subst h; simp [c3, c2])
  | .str i, b, h => by cases b <;> simp [eqv] at h; subst h; simp [c3, cS, List.lt_irrefl]
  | .non, b, h => by cases b <;> simp [eqv] at h; rfl
  | .lst i, b, h => by cases b <;> simp [eqv] at h; rfl
  | .dct _ _, b, h => by cases b <;> simp [eqv] at h
  | .set _, b, h => by cases b <;> simp [eqv] at h
theorem eqvs_c3 : ∀ a b : List D, eqvs a b = true → c3s a b = .eq
  | [], [], _ => by simp only [c3s]
  | [], _ :: _, h => by simp [eqvs] at h
  | _ :: _, [], h => by simp [eqvs] at h
  | a :: r, b :: s, h => by
    simp only [eqvs, Bool.and_eq_true] at h
    simp only [c3s]
    rw [eqv_c3 a b h.1, eqvs_c3 r s h.2]; rfl
end
theorem ltb_int (i j : Int) : ltb (.int i) (.int j) = lt3 (.int i) (.int j) ∧ (eqv (.int i) (.int j) = false → c3 (.int i) (.int j) ≠ .eq) := by
  unfold lt3; simp only [ltb, c3, c2, eqv]
  rcases Int.lt_trichotomy i j with h | h | h
  · simp [h]
  · subst h; simp
  · simp [h, show ¬ i < j by omega]
theorem ltb_str (i j : Str) : ltb (.str i) (.str j) = lt3 (.str i) (.str j) ∧ (eqv (.str i) (.str j) = false → c3 (.str i) (.str j) ≠ .eq) := by
  unfold lt3; simp only [ltb, c3, cS, eqv]
  rcases lS i.cps.toList j.cps.toList with ⟨h, h'⟩ | h | ⟨h, h'⟩
  · simp [h]
  · have : i = j := by cases i; cases j; simpa using h
    subst this; simp [List.lt_irrefl]
  · simp [h, h']
theorem ltbs_step {a b : D} {r s : List D} (h : (eqv a b || cmpb a b) = true) (ih : ltbs r s = (c3s r s == .lt) ∧ (eqvs r s = false → c3s r s ≠ .eq)) (l : cmpb a b = true → ltb a b = lt3 a b ∧ (eqv a b = false → c3 a b ≠ .eq)) :
    ltbs (a :: r) (b :: s) = (c3s (a :: r) (b :: s) == .lt) ∧ (eqvs (a :: r) (b :: s) = false → c3s (a :: r) (b :: s) ≠ .eq) := by
  rw [Bool.or_eq_true] at h
  simp only [ltbs, c3s, eqvs]
  by_cases e : eqv a b = true
  · rw [if_pos e, eqv_c3 a b e, e, Bool.true_and]
    exact ih
  · have e' : eqv a b = false := by simpa using e
    obtain ⟨l1, l2⟩ := l (h.resolve_left e)
    have l2 := l2 e'
    rw [if_neg e, l1]
    unfold lt3
    generalize c3 a b = x at l2 ⊢
    cases x
    · exact ⟨rfl, fun _ z => by cases z⟩
    · exact absurd rfl l2
    · exact ⟨rfl, fun _ z => by cases z⟩
mutual
theorem ltb_c3 : ∀ a b : D, cmpb a b = true → ltb a b = lt3 a b ∧ (eqv a b = false → c3 a b ≠ .eq)
  | .tup a, b, h => by
    cases b with
    | tup b =>
      have := ltbs_c3 a b (by simpa only [cmpb] using h)
      unfold lt3; simp only [ltb, c3, eqv]
      exact this
    | _ => simp [cmpb] at h
  | .int i, b, h => by
    cases b with
    | int j => exact ltb_int i j
    | _ => simp [cmpb] at h
  | .str i, b, h => by
    cases b with
    | str j => exact ltb_str i j
    | _ => simp [cmpb] at h
  | .non, b, h => by simp [cmpb] at h
  | .bl _, b, h => by simp [cmpb] at h
  | .lst _, b, h => by simp [cmpb] at h
  | .dct _ _, b, h => by simp [cmpb] at h
  | .set _, b, h => by simp [cmpb] at h
theorem ltbs_c3 : ∀ a b : List D, cmpbs a b = true → ltbs a b = (c3s a b == .lt) ∧ (eqvs a b = false → c3s a b ≠ .eq)
  | [], [], _ => ⟨by simp only [ltbs, c3s]; rfl, fun h => by simp [eqvs] at h⟩
  | [], _ :: _, _ => ⟨by simp only [ltbs, c3s]; rfl, fun _ h => by simp only [c3s] at h; cases h⟩
  | _ :: _, [], _ => ⟨by simp only [ltbs, c3s]; rfl, fun _ h => by simp only [c3s] at h; cases h⟩
  | a :: r, b :: s, h => by
    have h1 : (eqv a b || cmpb a b) = true ∧ cmpbs r s = true := by simpa only [cmpbs, Bool.and_eq_true] using h
    exact ltbs_step h1.1 (ltbs_c3 r s h1.2) (ltb_c3 a b)
end

/-! ### insertion -/
section
variable {α : Type} {lt : α → α → Bool}
def insA (lt : α → α → Bool) (x : α) : List α → List α
  | [] => [x]
  | y :: r => if lt y x then y :: insA lt x r else x :: y :: r
def sortA (lt : α → α → Bool) : List α → List α
  | [] => []
  | x :: r => insA lt x (sortA lt r)
theorem insA_perm (x : α) : ∀ l : List α, (insA lt x l).Perm (x :: l)
  | [] => List.Perm.refl _
  | y :: r => by
    unfold insA
    split
    · exact ((insA_perm x r).cons y).trans (List.Perm.swap x y r)
    · exact List.Perm.refl _
theorem sortA_perm : ∀ l : List α, (sortA lt l).Perm l
  | [] => List.Perm.refl _
  | x :: r => (insA_perm x _).trans ((sortA_perm r).cons x)
theorem insA_srtd (O : SrtO.Swo lt) (x : α) : ∀ l : List α, SrtO.Srtd lt l → SrtO.Srtd lt (insA lt x l)
  | [], _ => List.pairwise_singleton _ _
  | y :: r, h => by
    have hr := List.pairwise_cons.mp h
    unfold insA
    split
    · rename_i hy
      refine List.pairwise_cons.mpr ⟨fun z hz => ?_, insA_srtd O x r hr.2⟩
      rcases List.mem_cons.mp ((insA_perm x r).mem_iff.mp hz) with e | hz
      · subst e; exact O.asym _ _ hy
      · exact hr.1 z hz
    · rename_i hy
      have hy : lt y x = false := by simpa using hy
      refine List.pairwise_cons.mpr ⟨fun z hz => ?_, h⟩
      rcases List.mem_cons.mp hz with e | hz
      · subst e; exact hy
      · exact O.tr x y z hy (hr.1 z hz)
theorem sortA_srtd (O : SrtO.Swo lt) : ∀ l : List α, SrtO.Srtd lt (sortA lt l)
  | [] => List.Pairwise.nil
  | x :: r => insA_srtd O x _ (sortA_srtd O r)
theorem insA_cls (O : SrtO.Swo lt) (x u : α) : ∀ l : List α, (insA lt x l).filter (SrtO.eqv lt u) = (x :: l).filter (SrtO.eqv lt u)
  | [] => rfl
  | y :: r => by
    unfold insA
    split
    · rename_i hy
      have ih := insA_cls O x u r
      by_cases ux : SrtO.eqv lt u x = true
      · have uy : SrtO.eqv lt u y = false := by
          rcases SrtO.bcase (SrtO.eqv lt u y) with q | q
          · exfalso
            obtain ⟨a1, a2⟩ := SrtO.eqv_iff.mp ux
            obtain ⟨b1, b2⟩ := SrtO.eqv_iff.mp q
            have c1 : ∀ {p q : α}, True := fun {_ _} => True.intro
            -- y and x are alike
            have : lt y x = false := by
              first
                | exact O.tr x u y a1 b2
                | exact O.tr x u y a2 b1
                | exact O.tr x u y a1 b1
                | exact O.tr x u y a2 b2
            rw [hy] at this; cases this
          · exact q
        rw [List.filter_cons_of_neg (by rw [uy]; decide), ih, List.filter_cons_of_pos ux, List.filter_cons_of_pos ux, List.filter_cons_of_neg (by rw [uy]; decide)]
      · by_cases uy : SrtO.eqv lt u y = true
        · rw [List.filter_cons_of_pos uy, ih, List.filter_cons_of_neg ux, List.filter_cons_of_neg ux, List.filter_cons_of_pos uy]
        · rw [List.filter_cons_of_neg uy, ih, List.filter_cons_of_neg ux, List.filter_cons_of_neg ux, List.filter_cons_of_neg uy]
    · rfl
theorem sortA_cls (O : SrtO.Swo lt) (u : α) : ∀ l : List α, (sortA lt l).filter (SrtO.eqv lt u) = l.filter (SrtO.eqv lt u)
  | [] => rfl
  | x :: r => by
    have ih := sortA_cls O u r
    show (insA lt x (sortA lt r)).filter _ = _
    rw [insA_cls O x u]
    by_cases ux : SrtO.eqv lt u x = true
    · rw [List.filter_cons_of_pos ux, List.filter_cons_of_pos ux, ih]
    · rw [List.filter_cons_of_neg ux, List.filter_cons_of_neg ux, ih]
/-- what is sorted stably is the sort by insertion -/
theorem sortA_uniq (O : SrtO.Swo lt) {l m : List α} (h1 : SrtO.Srtd lt l) (h2 : SrtO.Stb lt l m) : l = sortA lt m :=
  SrtO.stb_uniq O h1 (sortA_srtd O m) (h2.trans ⟨(sortA_perm m).symm, fun u => (sortA_cls O u m).symm⟩)
end
end C

set_option Elab.async false
set_option linter.all false
set_option maxRecDepth 100000
set_option maxHeartbeats 1000000
/-! Sort2: sorted(xs), xs a list of ints, of tuples that begin with an int. -/
namespace C
open PySem PySem.Spec PyProof.Rows L2

/-! ### what lies at a place is one thing -/
theorem rd_det {H : Hp} {a : Addr} {o o' : HO} (h : Rd H a o) (h' : Rd H a o') (n : ∀ u w, o ≠ .frz u w) (n' : ∀ u w, o' ≠ .frz u w) : o = o' := by
  rcases h with h | ⟨u, h⟩ <;> rcases h' with h' | ⟨u', h'⟩
  · rw [h] at h'; cases h'; rfl
  · rw [h] at h'; cases h'; exact absurd rfl (n _ _)
  · rw [h] at h'; cases h'; exact absurd rfl (n' _ _)
  · rw [h] at h'; cases h'; rfl
section
variable {g : Wd} {H : Hp}
mutual
theorem Lay.det : ∀ (n : Nat) (d : D) {v : V} {e : D}, pl n d = true → pl n e = true → Lay g H v d → Lay g H v e → d = e
  | n, .non, v, e, _, q, l, l' => by cases l; cases l'; rfl
  | n, .bl _, v, e, _, q, l, l' => by cases l; cases l'; rfl
  | n, .int _, v, e, _, q, l, l' => by cases l; cases l'; rfl
  | n, .str _, v, e, _, q, l, l' => by cases l; cases l'; rfl
  | n, .dct _ _, v, e, p, q, l, l' => by simp [pl] at p
  | n, .set _, v, e, p, q, l, l' => by simp [pl] at p
  | 0, .tup _, v, e, p, q, l, l' => by simp [pl] at p
  | 0, .lst _, v, e, p, q, l, l' => by simp [pl] at p
  | n + 1, .tup ds, v, e, p, q, l, l' => by
    cases l with
    | tup h1 l1 =>
      cases l' with
      | tup h2 l2 =>
        rw [h1] at h2; cases h2
        simp only [pl] at p q
        rw [LayL.det n ds p q l1 l2]
      | lst h2 l2 =>
        have := rd_det (.of h1) h2 (by intro u w z; cases z) (by intro u w z; cases z)
        cases this
      | dk h2 _ => rw [h1] at h2; cases h2
      | dt h2 _ => rw [h1] at h2; cases h2
      | set h2 _ => rw [h1] at h2; cases h2
  | n + 1, .lst ds, v, e, p, q, l, l' => by
    cases l with
    | lst h1 l1 =>
      cases l' with
      | lst h2 l2 =>
        have := rd_det h1 h2 (by intro u w z; cases z) (by intro u w z; cases z)
        cases this
        simp only [pl] at p q
        rw [LayL.det n ds p q l1 l2]
      | tup h2 l2 =>
        have := rd_det h1 (.of h2) (by intro u w z; cases z) (by intro u w z; cases z)
        cases this
      | dk h2 _ => simp [pl] at q
      | dt h2 _ => simp [pl] at q
      | set h2 _ => simp [pl] at q
theorem LayL.det : ∀ (n : Nat) (ds : List D) {vs : List V} {es : List D}, pls n ds = true → pls n es = true → LayL g H vs ds → LayL g H vs es → ds = es
  | n, [], _, _, _, _, .nil, .nil => rfl
  | n, _ :: _, _, [], _, _, l, l' => by cases l; cases l'
  | n, d :: ds, _, e :: es, p, q, .cons a r, .cons a' r' => by
    simp only [pls, Bool.and_eq_true] at p q
    rw [Lay.det n d p.1 q.1 a a', LayL.det n ds p.2 q.2 r r']
end
end

/-! ### sorting threes: the written value, the value, what it means -/
section
variable {α β : Type}
theorem insA_map (f : α → β) {lt : β → β → Bool} (x : α) : ∀ l : List α, insA lt (f x) (l.map f) = (insA (fun x y => lt (f x) (f y)) x l).map f
  | [] => rfl
  | y :: r => by
    simp only [List.map_cons, insA]
    split
    · rw [insA_map f x r]; rfl
    · rfl
theorem sortA_map (f : α → β) {lt : β → β → Bool} : ∀ l : List α, sortA lt (l.map f) = (sortA (fun x y => lt (f x) (f y)) l).map f
  | [] => rfl
  | x :: r => by simp only [List.map_cons, sortA]; rw [sortA_map f r, insA_map]
theorem insA_congr {lt lt' : α → α → Bool} (x : α) : ∀ l : List α, (∀ y ∈ l, lt y x = lt' y x) → insA lt x l = insA lt' x l
  | [], _ => rfl
  | y :: r, h => by
    simp only [insA]
    rw [h y (.head _), insA_congr x r fun z hz => h z (.tail _ hz)]
theorem sortA_congr {lt lt' : α → α → Bool} : ∀ l : List α, (∀ x ∈ l, ∀ y ∈ l, lt x y = lt' x y) → sortA lt l = sortA lt' l
  | [], _ => rfl
  | x :: r, h => by
    simp only [sortA]
    rw [sortA_congr r fun a ha b hb => h a (.tail _ ha) b (.tail _ hb)]
    exact insA_congr x _ fun y hy => h y (.tail _ ((sortA_perm r).mem_iff.mp hy)) x (.head _)
end
theorem insD_A (x : D) : ∀ l : List D, insD x l = insA ltb x l
  | [] => rfl
  | y :: r => by simp only [insD, insA]; rw [insD_A x r]
theorem sortD_A : ∀ l : List D, sortD l = sortA ltb l
  | [] => rfl
  | x :: r => by simp only [sortD, sortA]; rw [sortD_A r, insD_A]
theorem LayL.of_map {g : Wd} {H : Hp} {α : Type} {f : α → V} {k : α → D} : ∀ {l : List α}, (∀ x ∈ l, Lay g H (f x) (k x)) → LayL g H (l.map f) (l.map k)
  | [], _ => .nil
  | x :: r, h => .cons (h x (.head _)) (LayL.of_map fun y hy => h y (.tail _ hy))
theorem LayL.to_map {g : Wd} {H : Hp} {α : Type} {f : α → V} {k : α → D} : ∀ {l : List α}, LayL g H (l.map f) (l.map k) → ∀ x ∈ l, Lay g H (f x) (k x)
  | [], _, x, hx => by cases hx
  | y :: r, h, x, hx => by
    cases h with
    | cons a r' =>
      rcases List.mem_cons.mp hx with rfl | hx
      · exact a
      · exact LayL.to_map r' x hx
/-- three lists as one -/
theorem three : ∀ {vs : List V} {us : List Value} {ds : List D}, Vals vs us → vs.length = ds.length → ∃ T : List (V × Value × D), vs = T.map (·.1) ∧ us = T.map (·.2.1) ∧ ds = T.map (·.2.2) ∧ ∀ t ∈ T, RelV t.1 t.2.1
  | _, _, [], .nil, _ => ⟨[], rfl, rfl, rfl, fun t h => by cases h⟩
  | _, _, _ :: _, .nil, h => by simp at h
  | _, _, [], .cons _ _, h => by simp at h
  | v :: vs, u :: us, d :: ds, .cons r rs, h => by
    obtain ⟨T, e1, e2, e3, e4⟩ := three rs (ds := ds) (by simpa using h)
    refine ⟨(v, u, d) :: T, by rw [e1]; rfl, by rw [e2]; rfl, by rw [e3]; rfl, fun t ht => ?_⟩
    rcases List.mem_cons.mp ht with rfl | ht
    · exact r
    · exact e4 t ht
theorem vals_map {α : Type} {f : α → V} {k : α → Value} : ∀ {l : List α}, (∀ t ∈ l, RelV (f t) (k t)) → Vals (l.map f) (l.map k)
  | [], _ => .nil
  | x :: r, h => .cons (h x (.head _)) (vals_map fun y hy => h y (.tail _ hy))
/-- what a place means among these -/
def dOf (T : List (V × Value × D)) : Value → D
  | .ref a => match T.find? (fun t => decide (t.1 = V.ref a)) with
    | some t => t.2.2
    | none => .non
  | _ => .non

section
variable {X : Cx} {pins : List (Addr × Obj)} {σ : L2.St} {H : Hp} {s : Shared}
/-- the comparing of two tuples, item by item -/
theorem kat_D (I : Inv X pins σ H s) {A : Around} (hu : A.units + 14 < cLine) {b fin : Bool} {Q : Bool → Shared → Prop} : ∀ {xs ys : List Value} {vs ws : List V} {as bs : List D} (i : Nat), Vals vs xs → Vals ws ys → LayL (wdOf X) H vs as → LayL (wdOf X) H ws bs →
    pls 11 as = true → pls 11 bs = true → cmpbs as bs = true → (i = 0 → b = true → ∃ p q r r', as = .int p :: r ∧ bs = .int q :: r') → fin = decide (as.length < bs.length) → Q (ltbs as bs) s → PySem.W.KatLex X.prog X.w A b fin Q (xs.zip ys) i s
  | [], ys, vs, ws, as, bs, i, r, r', l, l', p, q, c, hi, hf, hq => by
    cases r
    cases l
    refine PySem.W.kat_nil ?_
    rw [hf]
    cases bs with
    | nil => simpa [ltbs] using hq
    | cons _ _ => simpa [ltbs] using hq
  | x :: xs, [], vs, ws, as, bs, i, r, r', l, l', p, q, c, hi, hf, hq => by
    cases r'
    cases l'
    cases r
    cases l
    refine PySem.W.kat_nil ?_
    rw [hf]
    simpa [ltbs] using hq
  | x :: xs, y :: ys, vs, ws, as, bs, i, r, r', l, l', p, q, c, hi, hf, hq => by
    cases r with
    | cons r rs =>
    cases r' with
    | cons r' rs' =>
    cases l with
    | @cons _ _ a as l ls =>
    cases l' with
    | @cons _ _ e bs l' ls' =>
    simp only [pls, Bool.and_eq_true] at p q
    simp only [cmpbs, Bool.and_eq_true, Bool.or_eq_true] at c
    show PySem.W.KatLex X.prog X.w A b fin Q ((x, y) :: xs.zip ys) i s
    obtain ⟨d1, ra⟩ := Dp.reads I (toPy a) _ _ (l.dp 11 p.1) r
    obtain ⟨d2, rb⟩ := Dp.reads I (toPy e) _ _ (l'.dp 11 q.1) r'
    have eq := SeqAt.eqAt_reads (toPy a) (toPy e) A s _ _ d1 d2 ra rb (pl_can 11 a p.1).1 (pl_can 11 e q.1).1 (by
      have := (pl_can 11 a p.1).2
      show A.units + min _ _ < cLine
      omega)
    rw [eqv_py 11 11 a e p.1 q.1] at eq
    refine PySem.W.kat_cons (eq X.prog X.w _ _ ?_)
    refine PySem.W.kat_go (fun e1 => ?_) fun e1 => ?_
    · refine PySem.W.kat_yes (kat_D I hu (i + 1) rs rs' ls ls' p.2 q.2 c.2 (fun z => absurd z (by omega)) (by rw [hf]; simp) ?_)
      simp only [ltbs] at hq
      rw [if_pos e1] at hq
      exact hq
    · refine PySem.W.kat_no ?_
      simp only [ltbs] at hq
      rw [if_neg (by rw [e1]; exact Bool.false_ne_true)] at hq
      have cc := c.1.resolve_left (by rw [e1]; exact Bool.false_ne_true)
      by_cases hb : (b && i == 0) = true
      · rw [hb]
        simp only [Bool.and_eq_true, beq_iff_eq] at hb
        obtain ⟨m, n, z1, z2, h1, h2⟩ := hi hb.2 hb.1
        cases h1
        cases h2
        obtain rfl := lay_int l
        obtain rfl := lay_int l'
        obtain ⟨t, rfl⟩ := r
        obtain ⟨t', rfl⟩ := r'
        simp only [ltb] at hq
        exact PyProof.Rows.oneLt_int hq
      · have hb : (b && i == 0) = false := by simpa using hb
        rw [hb]
        exact PySem.W.kat_one _ _ (rc_lt I 11 A a e _ _ x y (by omega) p.1 q.1 l l' r r' cc X.prog X.w _ (PySem.W.BoolBack Q) hq)
theorem kat_firstsD {ds : List D} (I : Inv X pins σ H s) : ∀ {vs : List V} {us : List Value} {ds : List D}, Vals vs us → LayL (wdOf X) H vs ds → (∀ d ∈ ds, ∃ i r, d = .tup (.int i :: r)) → ∃ fs, PySem.W.KatTups s.heap us fs ∧ fs.length = us.length ∧ ∀ f ∈ fs, ∃ n t, f = Value.int n t
  | _, _, _, .nil, .nil, _ => ⟨[], PySem.W.KatTups.nil, rfl, fun f hf => by cases hf⟩
  | _, _, _, .cons r rs, .cons l ls, h => by
    obtain ⟨fs, k1, k2, k3⟩ := kat_firstsD (ds := ds) I rs ls fun d hd => h d (.tail _ hd)
    obtain ⟨i, rr, rfl⟩ := h _ (.head _)
    obtain ⟨a, ws, rfl, h1, l1⟩ := lay_tup l
    cases r
    cases l1 with
    | cons la lr =>
      obtain rfl := lay_int la
      obtain ⟨its, r1, ⟨o, ho, hc, n, hd⟩, _⟩ := I.tuple (.of h1)
      cases r1 with
      | cons r2 r3 =>
        obtain ⟨t, rfl⟩ := r2
        refine ⟨.int i t :: fs, PySem.W.KatTups.cons ho hc hd rfl k1, by rw [List.length_cons, List.length_cons, k2], fun f hf => ?_⟩
        rcases List.mem_cons.mp hf with rfl | hf
        · exact ⟨i, t, rfl⟩
        · exact k3 f hf
theorem tup_parts {ds : List D} (h : tupOk ds = true) : (∀ d ∈ ds, plain d = true ∧ ∃ i r, d = .tup (.int i :: r)) ∧ ∀ x ∈ ds, ∀ y ∈ ds, cmpb x y = true := by
  unfold tupOk at h
  simp only [Bool.and_eq_true, List.all_eq_true] at h
  refine ⟨fun d hd => ?_, fun x hx y hy => h.2 x hx y hy⟩
  have := h.1 d hd
  split at this
  · exact ⟨this, _, _, rfl⟩
  · cases this
theorem sorted_D (hu : X.A.units + 20 < cLine) {p : Addr} {xs : List V} {ds : List D} {Q : VK} (I : Inv X pins σ H s) (h : SqL X.K H p xs) (l : LayL (wdOf X) H xs ds) (ok : tupOk ds = true)
    (q : ∀ a ys, H a = none → (∀ H', LayL (wdOf X) H' xs ds → LayL (wdOf X) H' ys (sortD ds)) → Q (.ref a) (upd H a (.lst ys))) : wpAny (model X.prog X.w) X.A (call (.builtin "sorted") [.ref p]) (EP X pins σ Q) X.xe s := by
  obtain ⟨its, rv, hl, hz⟩ := I.list h
  obtain ⟨T, e1, e2, e3, e4⟩ := three rv l.length
  subst e1; subst e2; subst e3
  obtain ⟨ok1, ok2⟩ := tup_parts ok
  have hL : ∀ t ∈ T, Lay (wdOf X) H t.1 t.2.2 := LayL.to_map l
  have hP : ∀ t ∈ T, plain t.2.2 = true ∧ ∃ i r, t.2.2 = .tup (.int i :: r) := fun t ht => ok1 _ (List.mem_map.mpr ⟨t, ht, rfl⟩)
  have hC : ∀ t ∈ T, ∀ u ∈ T, cmpb t.2.2 u.2.2 = true := fun t ht u hu => ok2 _ (List.mem_map.mpr ⟨t, ht, rfl⟩) _ (List.mem_map.mpr ⟨u, hu, rfl⟩)
  have hR : ∀ t ∈ T, ∃ a, t.1 = .ref a ∧ t.2.1 = .ref a := fun t ht => by
    obtain ⟨_, i, r, e⟩ := hP t ht
    have := hL t ht
    rw [e] at this
    obtain ⟨a, ws, e5, _, _⟩ := lay_tup this
    have rr := e4 t ht
    rw [e5] at rr
    exact ⟨a, e5, rr⟩
  have hD : ∀ t ∈ T, dOf T t.2.1 = t.2.2 := fun t ht => by
    obtain ⟨a, a1, a2⟩ := hR t ht
    rw [a2]
    simp only [dOf]
    cases q : T.find? (fun t => decide (t.1 = V.ref a)) with
    | none =>
      have := List.find?_eq_none.mp q t ht
      rw [a1] at this
      simp at this
    | some u =>
      have m := List.mem_of_find?_eq_some q
      have p1 := List.find?_some q
      have p2 : u.1 = V.ref a := of_decide_eq_true p1
      have l1 := hL u m
      have l2 := hL t ht
      rw [p2] at l1
      rw [a1] at l2
      exact Lay.det 12 _ (hP u m).1 (hP t ht).1 l1 l2
  let ltv : Value → Value → Bool := fun v u => lt3 (dOf T v) (dOf T u)
  have O : SrtO.Swo ltv := ⟨fun x y => lt3_swo.asym _ _, fun x y z => lt3_swo.tr _ _ _⟩
  refine SrtO.sorted_ord O hl.isList (by rw [← rv.length]; exact hz) (fun h2 h₁ a' ha kk => ?_) fun out h1 h2 => ?_
  · intro h' keep
    have I' : Inv X pins σ H { s with heap := h' } := I.kept (t' := s.toks) fun b o e => by
      have := kk b o e
      exact keep b o this.1 this.2
    obtain ⟨fs, k1, k2, k3⟩ := kat_firstsD (ds := []) I' rv l fun d hd => (ok1 d hd).2
    refine ⟨tuples' true, fun Q' E hq => ?_, ?_⟩
    · refine PySem.W.kat_kind (s := { s with heap := h' }) (T := .type "int") k1 (by omega) (fun f hm => ?_) (by rfl) ?_
      · obtain ⟨x, t, rfl⟩ := k3 f hm
        exact PySem.W.Looks.now
      · have e : (Value.type "int" != Value.type "tuple") = true := by first | decide +kernel | rfl | decide
        rw [e]
        exact hq
    · intro p q hp hq
      obtain ⟨t, ht, et⟩ := List.mem_map.mp hp
      obtain ⟨u, hu', eu⟩ := List.mem_map.mp hq
      show wpAny (model X.prog X.w) _ (keyLt' (tuples' true) p.1 q.1) (fun r s' => s' = _ ∧ r = lt3 (dOf T p.1) (dOf T q.1)) (fun _ _ => False) _
      rw [← et, ← eu, hD t ht, hD u hu']
      obtain ⟨a, a1, a2⟩ := hR t ht
      obtain ⟨b, b1, b2⟩ := hR u hu'
      rw [a2, b2]
      have l1 := hL t ht
      have l2 := hL u hu'
      have c := hC t ht u hu'
      have p1 := (hP t ht).1
      have p2 := (hP u hu').1
      obtain ⟨_, i, r, er⟩ := hP t ht
      obtain ⟨_, j, r', er'⟩ := hP u hu'
      rw [er] at l1 c p1 ⊢
      rw [er'] at l2 c p2 ⊢
      rw [a1] at l1
      rw [b1] at l2
      have lt := (ltb_c3 _ _ c).1
      rw [← lt]
      obtain ⟨_, vs, ea, g1, m1⟩ := lay_tup l1
      obtain ⟨_, ws, eb, g2, m2⟩ := lay_tup l2
      cases ea
      cases eb
      obtain ⟨as, ra, ⟨oa, ho, _, na, da⟩, _⟩ := I'.tuple (.of g1)
      obtain ⟨bs, rb, ⟨ob, ho', _, nb, db⟩, _⟩ := I'.tuple (.of g2)
      unfold plain at p1 p2
      simp only [pl] at p1 p2
      simp only [cmpb] at c
      refine PySem.W.kat_lt ho da ho' db ?_
      refine kat_D I' (by show X.A.units + 1 + 1 + 14 < cLine; omega) 0 ra rb m1 m2 p1 p2 c (fun _ _ => ⟨i, j, r, r', rfl, rfl⟩) ?_ ⟨rfl, by simp only [ltb]⟩
      rw [List.size_toArray, List.size_toArray, ← ra.length, ← rb.length, m1.length, m2.length]
  · have eo : out = (sortA (fun x y : V × Value × D => lt3 x.2.2 y.2.2) T).map (·.2.1) := by
      rw [sortA_uniq O h1 h2, sortA_map]
      congr 1
      exact sortA_congr T fun x hx y hy => by show lt3 (dOf T x.2.1) (dOf T y.2.1) = _; rw [hD x hx, hD y hy]
    have es : sortD (T.map (·.2.2)) = (sortA (fun x y : V × Value × D => lt3 x.2.2 y.2.2) T).map (·.2.2) := by
      rw [sortD_A, sortA_map]
      congr 1
      exact sortA_congr T fun x hx y hy => (ltb_c3 _ _ (hC x hx y hy)).1
    have pm := sortA_perm (lt := fun x y : V × Value × D => lt3 x.2.2 y.2.2) T
    obtain ⟨ep, he'⟩ := PyProof.Rows.sortedAll_at s.heap (T.map (·.2.1)) out.toArray
    have rvs : Vals ((sortA (fun x y : V × Value × D => lt3 x.2.2 y.2.2) T).map (·.1)) out := by
      rw [eo]; exact vals_map fun t ht => e4 t (pm.mem_iff.mp ht)
    refine ⟨.ref _, upd H (s.heap.objs.size + 1) (.lst ((sortA (fun x y : V × Value × D => lt3 x.2.2 y.2.2) T).map (·.1))), I.laid (t' := s.toks) (fun _ _ => PyProof.Rows.sortedAll_old) (Nat.le_succ _) ⟨?_, out, ep, rvs, he'⟩, rfl, q _ _ (I.hok.fresh (Nat.le_succ _)) fun H' l' => ?_⟩
    · rw [List.length_map, pm.length_eq]; rw [List.length_map] at hz; exact hz
    · rw [es]
      exact LayL.of_map fun t ht => LayL.to_map l' t (pm.mem_iff.mp ht)
/-- ints -/
theorem sortD_ints {ns ns' : List Int} (h : ns'.Perm ns) (s : ns'.Pairwise (· ≤ ·)) : sortD (ns.map D.int) = ns'.map D.int := by
  have e : sortD (ns.map D.int) = (sortA (fun i j : Int => decide (i < j)) ns).map D.int := by
    rw [sortD_A, sortA_map]
    congr 1
  rw [e]
  congr 1
  have O : SrtO.Swo (fun i j : Int => decide (i < j)) := ⟨fun x y h => by simp at h ⊢; omega, fun x y z h1 h2 => by simp at h1 h2 ⊢; omega⟩
  refine List.Perm.eq_of_pairwise (le := (· ≤ ·)) (fun a b _ _ h1 h2 => by omega) ?_ s ((sortA_perm ns).trans h.symm)
  exact (sortA_srtd O ns).imp fun {a b} h => by simp at h; omega
end
end C

set_option Elab.async false
set_option linter.all false
set_option maxRecDepth 100000
set_option maxHeartbeats 4000000
/-! SetL: set(xs), xs a list of ints (turned from the road of tuples). -/
namespace C
open PySem PySem.Spec PyProof.Rows L2
section
variable {P : Program} {w : World} {A : Around} {E : Value → Shared → Prop} {s : Shared}
set_option maxRecDepth 100000 in
set_option maxHeartbeats 3200000 in
theorem call_set_listI {l : Addr} {items : Array Value} (ns : List Int) {Q : Value → Shared → Prop} (hh : A.handled = none) (hl : s.heap.IsList l items) (hit : IntsAre items.toList ns) (hb : ns.length + 1 < scanBound)
    (h : ∀ (h' : Heap) (tk c : Nat), SetR w h' s.heap.objs.size (fun j => decide (j ∈ ns)) c → c ≤ ns.length → (∀ b o, s.heap.get? b = some o → h'.get? b = some o) → Q (.ref s.heap.objs.size) { s with heap := h', toks := tk }) :
    wpAny (model P w) A (call (.type "set") [.ref l]) Q E s := by
  have hisz : items.size = ns.length := by
    have q := IntsAre.length hit
    rw [Array.length_toList] at q
    exact q
  obtain ⟨c, tl, hmro⟩ := F.called_set.mro
  have hmade := F.called_set.made
  have hsub := F.called_set.sub
  refine wpAny_call (codeAny_of_tree ?_)
  show wpAny _ _ (callAny (.type "set") _) _ _ _
  refine wpAny_pure ⟨Code.quiet_builtin _ (by decide +kernel), codeAny_builtin F.entry_type_call ?_⟩
  rw [Around.under_plain (weight_type_call_type "set" [.ref l] []) rfl]
  have h1 := F.called_set.notType
  have h2 := F.called_set.canCreate
  have hct := F.typeCall_set_1 (.ref l)
  repeat (any_goals (first | assumption | wp_step))

  refine codeAny_mono (code_set_led1 (.ref l) (E := E) (Q₁ := fun obj s₁ => obj = .ref s.heap.objs.size ∧ s₁ = { s with heap := s.heap.push { cls := .type "set", dict := none, data := .set #[] 0 (.fresh 0 0 (!w.params.followText "set-order")) } }) ⟨rfl, rfl⟩) fun r s₁ hr => ?_
  cases r with
  | error e => exact hr
  | ok fl =>
    cases fl with
    | ret obj =>
      obtain ⟨rfl, rfl⟩ := hr
      have hS : (s.heap.push { cls := .type "set", dict := none, data := .set #[] 0 (.fresh 0 0 (!w.params.followText "set-order")) }).get? s.heap.objs.size = some { cls := .type "set", dict := none, data := .set #[] 0 (.fresh 0 0 (!w.params.followText "set-order")) } := Heap.get?_push_size _ rfl
      have hT : Shared.TypeIs { s with heap := s.heap.push { cls := .type "set", dict := none, data := .set #[] 0 (.fresh 0 0 (!w.params.followText "set-order")) } } (.ref s.heap.objs.size) "set" := ⟨_, hS, rfl⟩
      have hli := F.called_set.init.lookup
      have hbi := F.called_set.init.bind (.ref s.heap.objs.size)
      repeat (any_goals (first | assumption | wp_step))

      refine codeAny_mono (codeAny_call_builtin (R := wants (fun r s₂ => r = .none ∧ ∃ h' tk c, s₂ = { s with heap := h', toks := tk } ∧ SetR w h' s.heap.objs.size (fun j => decide (j ∈ ns)) c ∧ c ≤ ns.length ∧
          (∀ b o, s.heap.get? b = some o → h'.get? b = some o)) E) F.called_set.init.plain F.entry_set_init (check_set_init_1 hT ?_)) fun r₂ s₂ hr₂ => ?_
      · obtain ⟨ol, hol, hcl, nl, hdl⟩ := hl
        obtain ⟨ocls, odict, odata, oslots⟩ := ol
        simp only at hcl hdl
        subst hcl; subst hdl
        have hol' : (s.heap.push { cls := .type "set", dict := none, data := .set #[] 0 (.fresh 0 0 (!w.params.followText "set-order")) }).get? l = some { cls := .type "list", dict := odict, data := .seq items nl, slots := oslots } := Heap.get?_push_of_some _ hol
        have hsls := F.sub_list_set
        have hslf := F.sub_list_frozenset
        have hne : (Value.type "list" == Value.type "dict") = false := by decide
        have hl1 : (s.heap.push { cls := .type "set", dict := none, data := .set #[] 0 (.fresh 0 0 (!w.params.followText "set-order")) }).IsList l items := ⟨_, hol', rfl, nl, rfl⟩
        unfold Builtin.«set.__init__» noKeywords Builtin.Frozenset.updateFrom
        generalize hPI : pyIter = PI
        wp_walk
        subst hPI

        refine wpAny_pyIter_list hl1 ?_
        refine wpAny_bind (wpAny_runValue ?_)
        have hlS : l < s.heap.objs.size := Heap.lt_size hol
        have hh3 : A.in1.in1.in1.handled = none := by simp [hh]
        have hz1 : (s.heap.push { cls := .type "set", dict := none, data := .set #[] 0 (.fresh 0 0 (!w.params.followText "set-order")) }).objs.size = s.heap.objs.size + 1 := Heap.size_push ..
        have hneI : l ≠ (s.heap.push { cls := .type "set", dict := none, data := .set #[] 0 (.fresh 0 0 (!w.params.followText "set-order")) }).objs.size := by
          rw [Heap.size_push]; exact Nat.ne_of_lt (Nat.lt_succ_of_lt hlS)
        have hSf : s.heap.objs.size ∉ [(s.heap.push { cls := .type "set", dict := none, data := .set #[] 0 (.fresh 0 0 (!w.params.followText "set-order")) }).objs.size, l] := by
          rw [Heap.size_push]; simp only [List.mem_cons, List.mem_singleton, List.not_mem_nil, or_false, not_or]
          exact ⟨Nat.ne_of_lt (Nat.lt_succ_self _), Nat.ne_of_gt hlS⟩
        have hval : ∀ (i : Nat) (v : Value), items[i]? = some v → ∃ k t, ns[i]? = some k ∧ v = .int k t := fun i v hv => by
          have hi : i < ns.length := by rw [← hisz]; exact (Array.getElem?_eq_some_iff.mp hv).1
          obtain ⟨t, e⟩ := PyProof.Rows.IntsAre.int_at hit i v (by rw [Array.getElem?_toList]; exact hv)
          refine ⟨ns[i], t, List.getElem?_eq_getElem hi, ?_⟩
          rw [e, List.getD_eq_getElem?_getD, List.getElem?_eq_getElem hi] <;> rfl
        refine set_update_ints ((Walks.list hh3 _ l hneI items).toS) s.heap.objs.size
          hSf ns hisz hb hval (items.size - 0) 0 _ (by omega) (Nat.zero_le _)
          ⟨⟨_, Heap.get?_push_size _ rfl, rfl, rfl⟩, (hl1.push _)⟩ ?hS0 ?hR
        case hS0 =>
          have hget : ((s.heap.push { cls := .type "set", dict := none, data := .set #[] 0 (.fresh 0 0 (!w.params.followText "set-order")) }).push { cls := .type "list_iterator", data := .fields #[.ref l, .int 0 0] }).get? s.heap.objs.size
              = some { cls := .type "set", dict := none, data := .set #[] 0 (.fresh 0 0 (!w.params.followText "set-order")) } := Heap.get?_push_of_some _ hS
          exact ⟨0, Nat.le_refl 0, setR_new_at hget⟩
        case hR =>
          intro s' c' hm hc' hS'
          obtain ⟨h', g2, d', tk', os'⟩ := s'
          have eg : g2 = s.gens := hm.gens
          have ed : d' = s.drawn := hm.drawn
          have eo : os' = s.os := hm.os
          subst eg; subst ed; subst eo
          show wpAny _ _ _ _ _ _
          refine wpAny_pure ?_
          show wpAny _ _ (ret Value.none) _ _ _
          rw [hisz] at hc'
          refine wpAny_pure ⟨rfl, h', tk', c', rfl, hS', hc', fun b o e => ?_⟩
          have hb0 : b < s.heap.objs.size := Heap.lt_size e
          have hb1 : b ≠ s.heap.objs.size := Nat.ne_of_lt hb0
          have hb2 : b ≠ (s.heap.push { cls := .type "set", dict := none, data := .set #[] 0 (.fresh 0 0 (!w.params.followText "set-order")) }).objs.size := by
            rw [Heap.size_push]; exact Nat.ne_of_lt (Nat.lt_succ_of_lt hb0)
          exact hm.heap b o (by simp only [List.mem_cons, List.mem_singleton, List.not_mem_nil, or_false, not_or]; exact ⟨hb1, hb2⟩) (Heap.get?_push_of_some _ (Heap.get?_push_of_some _ e))

      · cases r₂ with
        | error e => exact hr₂
        | ok fl₂ =>
          cases fl₂ with
          | ret r =>
            obtain ⟨rfl, h', tk, c', rfl, hS', hc', hk'⟩ := hr₂
            repeat (any_goals (first | assumption | wp_step))
            exact h _ _ _ hS' hc' hk'
          | _ => exact hr₂.elim
    | _ => exact hr.elim
end
end C

set_option Elab.async false
set_option linter.all false
set_option maxRecDepth 100000
set_option maxHeartbeats 1000000
set_option exponentiation.threshold 3000
/-! Sound10: built-in functions of values. -/
namespace C
open PySem PySem.Spec PyProof.Rows L2

/-- a built-in function by Core's meaning -/
def rBi (g : Wd) (ma m : Md) (rp : D → Str) (f : Bi) : List V → Hp → VK → Prop := fun vs H Q => ∃ O ds d, WF H O ∧ Paired (Res g ma H H O) vs ds ∧ bi rp f ds = .ok d ∧ Out g m H O d Q
section
variable {X : Cx} {g : Wd} {ks : List Nat} {P : Fs} {rp : D → Str} {m ma : Md} {pa : Bool} {f : Bi} {as : List E} {x : Str} {p pos : Pos} {e : Expr} {es : List Expr}
theorem bi_rd {σ : L2.St} {H : Hp} {Q : VK} (na : noOwn ma = true) (h : TEd g ks m pa (ev P rp (.bi f as)) σ H Q) : TAd g ks ma pa (evs P rp as) σ H fun vs H1 => rBi g ma m rp f vs H1 Q := by
  obtain ⟨O, ρ, d, ρ', R, e, q⟩ := h
  simp only [ev] at e
  obtain ⟨⟨ds, ρ1⟩, e1, e⟩ := bind_ok e
  obtain ⟨d1, e3, e⟩ := bind_ok e
  obtain ⟨rfl, rfl⟩ := Prod.mk.inj (pure_inj e)
  exact ⟨O, ρ, ds, ρ1, R, e1, fun vs H1 O1 p pr => ⟨O1, ds, d1, p.rel.wf, Paired.mapP pr fun a b z => Res.any na z, e3, Out.post R p q⟩⟩
theorem d_biB {id : String} (hc : CallR X (.builtin id) (rBi (wdOf X) ma m rp f)) (hg : Gl X x) (hm : X.mg x = none) (hv : bootBuiltins x = some (.builtin id)) (ha : PA X (e :: es) (TAd (wdOf X) ks ma pa (evs P rp as))) (na : noOwn ma = true)
    (hn : x ≠ "__name__") (hdb : (x == ("__debug__" : Str)) = false) (he : starEach (e :: es) X.env = (false, eval e X.env) :: starEach es X.env) (hpl : (starEach es X.env).any (·.1) = false) :
    PE X (.Call (.Name x p) (e :: es) [] pos) (TEd (wdOf X) ks m pa (ev P rp (.bi f as))) :=
  PE.imp (pe_callB hc hg hm hv ha hn hdb he (plainNext _ _ _ hpl)) fun σ H Q h => bi_rd na h
theorem d_biT {T : String} (hc : CallR X (.type T) (rBi (wdOf X) ma m rp f)) (hg : Gl X x) (hm : X.mg x = none) (hv : bootBuiltins x = some (.type T)) (ha : PA X (e :: es) (TAd (wdOf X) ks ma pa (evs P rp as))) (na : noOwn ma = true)
    (hn : x ≠ "__name__") (hdb : (x == ("__debug__" : Str)) = false) (he : starEach (e :: es) X.env = (false, eval e X.env) :: starEach es X.env) (hpl : (starEach es X.env).any (·.1) = false) :
    PE X (.Call (.Name x p) (e :: es) [] pos) (TEd (wdOf X) ks m pa (ev P rp (.bi f as))) :=
  PE.imp (pe_callTy hc hg hm hv ha hn hdb he (plainNext _ _ _ hpl)) fun σ H Q h => bi_rd na h
theorem d_biT0 {T : String} (hc : CallR X (.type T) (rBi (wdOf X) .b m rp f)) (hg : Gl X x) (hm : X.mg x = none) (hv : bootBuiltins x = some (.type T)) (hn : x ≠ "__name__") (hdb : (x == ("__debug__" : Str)) = false) :
    PE X (.Call (.Name x p) [] [] pos) (TEd (wdOf X) ks m true (ev P rp (.bi f []))) :=
  PE.imp (pe_callTy0 hc hg hm hv hn hdb) fun σ H Q h => by
    obtain ⟨O, ρ, ds, ρ', R, e, q⟩ := bi_rd (ma := .b) rfl h
    unfold evs at e
    injection e with e
    obtain ⟨rfl, rfl⟩ := Prod.mk.inj e
    exact q [] H O (Post.refl R) .nil
end

/-! ### what the arguments are -/
theorem pr1 {α β : Type} {R : α → β → Prop} {vs : List α} {d : β} (h : Paired R vs [d]) : ∃ v, vs = [v] ∧ R v d := by
  cases h with
  | cons a r => cases r; exact ⟨_, rfl, a⟩
theorem pr2 {α β : Type} {R : α → β → Prop} {vs : List α} {d e : β} (h : Paired R vs [d, e]) : ∃ v w, vs = [v, w] ∧ R v d ∧ R w e := by
  cases h with
  | cons a r => obtain ⟨w, rfl, b⟩ := pr1 r; exact ⟨_, w, rfl, a, b⟩
theorem pr_len {α β : Type} {R : α → β → Prop} : ∀ {vs : List α} {ds : List β}, Paired R vs ds → vs.length = ds.length
  | _, _, .nil => rfl
  | _, _, .cons _ r => by rw [List.length_cons, List.length_cons, pr_len r]

/-! ### ints among data -/
theorem lay_intsL {g : Wd} {H : Hp} : ∀ {xs : List V} {ds : List D}, LayL g H xs ds → ds.all isInt = true → ∃ ns : List Int, ds = ns.map D.int ∧ xs = ns.map V.int
  | _, _, .nil, _ => ⟨[], rfl, rfl⟩
  | _, d :: ds, .cons a r, h => by
    simp only [List.all_cons, Bool.and_eq_true] at h
    obtain ⟨ns, rfl, rfl⟩ := lay_intsL r h.2
    cases d <;> first | (simp [isInt] at h; done) | skip
    obtain rfl := lay_int a
    exact ⟨_ :: ns, rfl, rfl⟩
theorem intsD_all : ∀ {ds : List D} {ns : List Int}, intsD ds = .ok ns → ds = ns.map D.int
  | [], ns, h => by simp only [intsD] at h; injection h with h; subst h; rfl
  | d :: ds, ns, h => by
    cases d <;> first | (simp [intsD] at h; done) | skip
    simp only [intsD] at h
    obtain ⟨ns', e1, h⟩ := bind_ok h
    obtain rfl := pure_inj h
    rw [intsD_all e1]; rfl
theorem boolsD_all : ∀ {ds : List D} {ns : List Bool}, boolsD ds = .ok ns → ds = ns.map D.bl
  | [], ns, h => by simp only [boolsD] at h; injection h with h; subst h; rfl
  | d :: ds, ns, h => by
    cases d <;> first | (simp [boolsD] at h; done) | skip
    simp only [boolsD] at h
    obtain ⟨ns', e1, h⟩ := bind_ok h
    obtain rfl := pure_inj h
    rw [boolsD_all e1]; rfl
theorem ints_all (ns : List Int) : (ns.map D.int).all isInt = true := by simp [isInt]
theorem layL_ints {g : Wd} {H : Hp} {xs : List V} {ns : List Int} (l : LayL g H xs (ns.map D.int)) : xs = ns.map V.int := by
  obtain ⟨ms, e1, e2⟩ := lay_intsL l (ints_all ns)
  have : ns = ms := by
    have := congrArg (List.map fun d => match d with | D.int i => i | _ => 0) e1
    simpa [List.map_map, Function.comp_def] using this
  rw [this]; exact e2
theorem layL_bools {g : Wd} {H : Hp} : ∀ {xs : List V} {bs : List Bool}, LayL g H xs (bs.map D.bl) → xs = bs.map V.bl
  | _, [], l => by cases l; rfl
  | _, b :: bs, l => by
    cases l with
    | cons a r =>
      obtain rfl := lay_bl a
      rw [layL_bools r]; rfl
theorem sumD_all : ∀ {ds : List D} {n : Int}, sumD ds = .ok n → ∃ ns : List Int, ds = ns.map D.int ∧ n = ns.sum
  | [], n, h => by simp only [sumD] at h; injection h with h; subst h; exact ⟨[], rfl, rfl⟩
  | d :: ds, n, h => by
    cases d <;> first | (simp [sumD] at h; done) | skip
    simp only [sumD] at h
    obtain ⟨ns', e1, h⟩ := bind_ok h
    obtain rfl := pure_inj h
    obtain ⟨ns, rfl, rfl⟩ := sumD_all e1
    exact ⟨_ :: ns, rfl, by simp⟩
theorem maxI_spec : ∀ (m : Int) (r : List Int), maxI m r ∈ m :: r ∧ ∀ y ∈ m :: r, y ≤ maxI m r
  | m, [] => ⟨.head _, fun y hy => by simp at hy; subst hy; exact Int.le_refl _⟩
  | m, x :: r => by
    obtain ⟨h1, h2⟩ := maxI_spec (if m < x then x else m) r
    unfold maxI
    by_cases h : m < x
    · rw [if_pos h] at h1 h2 ⊢
      refine ⟨.tail _ h1, fun y hy => ?_⟩
      rcases List.mem_cons.mp hy with rfl | hy
      · have := h2 x (.head _); omega
      · exact h2 y hy
    · rw [if_neg h] at h1 h2 ⊢
      refine ⟨?_, fun y hy => ?_⟩
      · rcases List.mem_cons.mp h1 with e | e
        · rw [e]; exact .head _
        · exact .tail _ (.tail _ e)
      · rcases List.mem_cons.mp hy with rfl | hy
        · exact h2 y (.head _)
        · rcases List.mem_cons.mp hy with rfl | hy
          · have := h2 m (.head _); omega
          · exact h2 y (.tail _ hy)
theorem minI_spec : ∀ (m : Int) (r : List Int), minI m r ∈ m :: r ∧ ∀ y ∈ m :: r, minI m r ≤ y
  | m, [] => ⟨.head _, fun y hy => by simp at hy; subst hy; exact Int.le_refl _⟩
  | m, x :: r => by
    obtain ⟨h1, h2⟩ := minI_spec (if x < m then x else m) r
    unfold minI
    by_cases h : x < m
    · rw [if_pos h] at h1 h2 ⊢
      refine ⟨.tail _ h1, fun y hy => ?_⟩
      rcases List.mem_cons.mp hy with rfl | hy
      · have := h2 x (.head _); omega
      · exact h2 y hy
    · rw [if_neg h] at h1 h2 ⊢
      refine ⟨?_, fun y hy => ?_⟩
      · rcases List.mem_cons.mp h1 with e | e
        · rw [e]; exact .head _
        · exact .tail _ (.tail _ e)
      · rcases List.mem_cons.mp hy with rfl | hy
        · exact h2 y (.head _)
        · rcases List.mem_cons.mp hy with rfl | hy
          · have := h2 m (.head _); omega
          · exact h2 y (.tail _ hy)

/-! ### sets of ints -/
theorem memD_append (x : D) : ∀ a b : List D, memD x (a ++ b) = (memD x a || memD x b)
  | [], b => rfl
  | y :: a, b => by simp only [List.cons_append, memD, memD_append x a b, Bool.or_assoc]
def dedupI : List Int → List Int → List Int
  | acc, [] => acc
  | acc, x :: r => dedupI (if x ∈ acc then acc else acc ++ [x]) r
theorem dedup_ints : ∀ (ns acc : List Int), dedup (acc.map D.int) (ns.map D.int) = (dedupI acc ns).map D.int
  | [], acc => rfl
  | x :: r, acc => by
    simp only [List.map_cons, dedup, dedupI]
    rw [mem_ints]
    by_cases h : x ∈ acc
    · rw [if_pos (by simpa using h), if_pos h]; exact dedup_ints r acc
    · rw [if_neg (by simpa using h), if_neg h]
      rw [show acc.map D.int ++ [D.int x] = (acc ++ [x]).map D.int by simp]
      exact dedup_ints r (acc ++ [x])
theorem dedupI_spec : ∀ (ns acc : List Int), acc.Nodup → (dedupI acc ns).Nodup ∧ ∀ k, k ∈ dedupI acc ns ↔ k ∈ acc ∨ k ∈ ns
  | [], acc, h => ⟨h, fun k => by simp [dedupI]⟩
  | x :: r, acc, h => by
    simp only [dedupI]
    by_cases hx : x ∈ acc
    · rw [if_pos hx]
      obtain ⟨h1, h2⟩ := dedupI_spec r acc h
      refine ⟨h1, fun k => ?_⟩
      rw [h2 k, List.mem_cons]
      constructor
      · rintro (h | h) <;> simp [h]
      · rintro (h | rfl | h) <;> simp_all
    · rw [if_neg hx]
      have nd : (acc ++ [x]).Nodup := by
        rw [List.nodup_append]
        exact ⟨h, by simp, fun a ha b hb => by simp at hb; subst hb; exact fun z => hx (z ▸ ha)⟩
      obtain ⟨h1, h2⟩ := dedupI_spec r (acc ++ [x]) nd
      refine ⟨h1, fun k => ?_⟩
      rw [h2 k, List.mem_append, List.mem_singleton, List.mem_cons]
      constructor
      · rintro ((h | h) | h) <;> simp [h]
      · rintro (h | h | h) <;> simp [h]
theorem setR_count {w : World} {h : Heap} {a : Addr} {ns ms : List Int} {c : Nat} (R : SetR w h a (fun j => decide (j ∈ ns)) c) (nd : ms.Nodup) (hm : ∀ k, k ∈ ms ↔ k ∈ ns) : SetR w h a (fun i => decide (i ∈ ms)) ms.length := by
  obtain ⟨o, es, ep, t, h1, h2, h3, h4, h5, h6, h7, h8, h9, h10, h11⟩ := R
  have e : c = ms.length := by
    rw [← h9]
    have : (es.toList.map keyOf).Perm ms := (List.perm_ext_iff_of_nodup h5 nd).mpr fun k => by
      rw [← h6 k, hm k]; simp
    have := this.length_eq
    simpa using this
  exact ⟨o, es, ep, t, h1, h2, h3, h4, h5, fun k => by rw [← h6 k]; simp [hm k], h7, h8, by rw [h9, e], h10, h11⟩

/-! ### the rules -/
section
variable {X : Cx} {rp : D → Str} {m : Md}
theorem cr_len : CallR X (.builtin "len") (rBi (wdOf X) .b m rp .len) := by
  intro pins s σ H vs us Q I r ⟨O, ds, d, w, pr, e, q⟩
  match ds, e with
  | [.lst xs], e =>
    obtain rfl : _ = d := pure_inj e
    obtain ⟨v, rfl, l⟩ := pr1 pr
    obtain ⟨a, ws, rfl, h1, l1⟩ := lay_lst l
    exact call_len pins s σ H _ us Q I r ⟨_, _, rfl, .inl ⟨ws, .inl h1, rfl⟩, by rw [l1.length]; exact q.at_ w (.int _) rfl⟩
  | [.tup xs], e =>
    obtain rfl : _ = d := pure_inj e
    obtain ⟨v, rfl, l⟩ := pr1 pr
    obtain ⟨a, ws, rfl, h1, l1⟩ := lay_tup l
    exact call_len pins s σ H _ us Q I r ⟨_, _, rfl, .inr ⟨ws, .of h1, rfl⟩, by rw [l1.length]; exact q.at_ w (.int _) rfl⟩
  | [.str z], e =>
    obtain ⟨_, e1, e2⟩ := bind_ok e
    obtain rfl : _ = d := pure_inj e2
    obtain ⟨v, rfl, l⟩ := pr1 pr
    have hz := of_decide_eq_true (grd_ok e1)
    cases l
    exact call_len pins s σ H _ us Q I r ⟨_, _, rfl, ⟨by rw [line_eq]; exact hz, rfl⟩, q.at_ w (.int _) rfl⟩
  | [.dct false kvs], e =>
    obtain rfl : _ = d := pure_inj e
    obtain ⟨v, rfl, l⟩ := pr1 pr
    obtain ⟨a, ws, rfl, h1, l1⟩ := lay_dk l
    exact call_lenD pins s σ H _ us Q I r ⟨_, ws, rfl, h1, by rw [l1.length]; exact q.at_ w (.int _) rfl⟩
  | [.dct true kvs], e =>
    obtain rfl : _ = d := pure_inj e
    obtain ⟨v, rfl, l⟩ := pr1 pr
    obtain ⟨a, ws, rfl, h1, l1⟩ := lay_dt l
    exact call_len_dT pins s σ H _ us Q I r ⟨_, ws, rfl, h1, by rw [l1.length]; exact q.at_ w (.int _) rfl⟩
  | [.set kvs], e =>
    obtain rfl : _ = d := pure_inj e
    obtain ⟨v, rfl, l⟩ := pr1 pr
    obtain ⟨a, ns, rfl, rfl, h1, nd⟩ := lay_set l
    obtain ⟨u, rfl, ru⟩ := vals1 r
    obtain rfl : u = Value.ref a := ru
    obtain ⟨o, es, ep, t, k1, k2, k3, k4, k5, k6, k7, k8, k9, k10, k11⟩ := setO_get I h1
    refine call_len_set k1 k2 k3 k8 (by unfold scanBound at k7; omega) ⟨.int _, H, I.tok _, ⟨_, rfl⟩, ?_⟩
    rw [k9]
    rw [List.length_map] at q
    exact q.at_ w (.int _) rfl
theorem cr_tuple {ma : Md} (ta : isTop ma = true) : CallR X (.type "tuple") (rBi (wdOf X) ma m rp .tuple) := by
  intro pins s σ H vs us Q I r ⟨O, ds, d, w, pr, e, q⟩
  match ds, e with
  | [d0], e =>
    obtain ⟨xs, e1, e2⟩ := bind_ok e
    obtain rfl : _ = d := pure_inj e2
    obtain ⟨v, rfl, l⟩ := pr1 pr
    have t := topOf ta l
    cases d0 <;> first | (cases e1; done) | skip
    · obtain rfl : _ = xs := pure_inj e1
      obtain ⟨a, ws, rfl, h1, l1⟩ := lay_tup t
      exact call_tuple_of pins s σ H _ us Q I r ⟨a, ws, rfl, .inr ⟨.of (ro_le _ _ h1), q.same w t rfl⟩⟩
    · obtain rfl : _ = xs := pure_inj e1
      obtain ⟨a, ws, rfl, h1, l1⟩ := t
      exact call_tuple_of pins s σ H _ us Q I r ⟨a, ws, rfl, .inl ⟨.inl h1, fun p hp => q.tup w hp l1⟩⟩
theorem cr_list {ma : Md} (ta : isTop ma = true) (h2 : no2 m = true) : CallR X (.type "list") (rBi (wdOf X) ma m rp .list) := by
  intro pins s σ H vs us Q I r ⟨O, ds, d, w, pr, e, q⟩
  match ds, e with
  | [d0], e =>
    obtain ⟨xs, e1, e2⟩ := bind_ok e
    obtain rfl : _ = d := pure_inj e2
    obtain ⟨v, rfl, l⟩ := pr1 pr
    have t := topOf ta l
    cases d0 <;> first | (cases e1; done) | skip
    · obtain rfl : _ = xs := pure_inj e1
      obtain ⟨a, ws, rfl, h1, l1⟩ := lay_tup t
      exact call_list_of pins s σ H _ us Q I r ⟨a, ws, rfl, .inr (.of (ro_le _ _ h1)), fun p hp => q.lst w hp l1 (no2_of h2)⟩
    · obtain rfl : _ = xs := pure_inj e1
      obtain ⟨a, ws, rfl, h1, l1⟩ := t
      exact call_list_of pins s σ H _ us Q I r ⟨a, ws, rfl, .inl (.inl h1), fun p hp => q.lst w hp l1 (no2_of h2)⟩
theorem cr_sum_ (hc : X.calm = true) : CallR X (.builtin "sum") (rBi (wdOf X) .b m rp .sum) := by
  intro pins s σ H vs us Q I r ⟨O, ds, d, w, pr, e, q⟩
  match ds, e with
  | [.lst xs], e =>
    obtain ⟨n, e1, e2⟩ := bind_ok e
    obtain rfl : _ = d := pure_inj e2
    obtain ⟨v, rfl, l⟩ := pr1 pr
    obtain ⟨a, ws, rfl, h1, l1⟩ := lay_lst l
    obtain ⟨ns, rfl, rfl⟩ := sumD_all e1
    obtain rfl := layL_ints l1
    exact L2.cr_sum hc pins s σ H _ us Q I r ⟨a, ns, rfl, .inl h1, q.at_ w (.int _) rfl⟩
theorem cr_max1 (hc : X.calm = true) : CallR X (.builtin "max") (rBi (wdOf X) .b m rp .max1) := by
  intro pins s σ H vs us Q I r ⟨O, ds, d, w, pr, e, q⟩
  match ds, e with
  | [.lst xs], e =>
    obtain ⟨ns, e1, e2⟩ := bind_ok e
    cases ns with
    | nil => cases e2
    | cons n ns =>
      obtain rfl : _ = d := pure_inj e2
      obtain ⟨v, rfl, l⟩ := pr1 pr
      obtain ⟨a, ws, rfl, h1, l1⟩ := lay_lst l
      obtain rfl := intsD_all e1
      obtain rfl := layL_ints l1
      refine L2.cr_max hc pins s σ H _ us Q I r ⟨a, n :: ns, rfl, .inl h1, by simp, fun k hk hm => ?_⟩
      obtain ⟨k1, k2⟩ := maxI_spec n ns
      obtain rfl : k = maxI n ns := by have := k2 k hk; have := hm _ k1; omega
      exact q.at_ w (.int _) rfl
theorem cr_min1 (hc : X.calm = true) : CallR X (.builtin "min") (rBi (wdOf X) .b m rp .min1) := by
  intro pins s σ H vs us Q I r ⟨O, ds, d, w, pr, e, q⟩
  match ds, e with
  | [.lst xs], e =>
    obtain ⟨ns, e1, e2⟩ := bind_ok e
    cases ns with
    | nil => cases e2
    | cons n ns =>
      obtain rfl : _ = d := pure_inj e2
      obtain ⟨v, rfl, l⟩ := pr1 pr
      obtain ⟨a, ws, rfl, h1, l1⟩ := lay_lst l
      obtain rfl := intsD_all e1
      obtain rfl := layL_ints l1
      refine L2.cr_min hc pins s σ H _ us Q I r ⟨a, n :: ns, rfl, .inl h1, by simp, fun k hk hm => ?_⟩
      obtain ⟨k1, k2⟩ := minI_spec n ns
      obtain rfl : k = minI n ns := by have := k2 k hk; have := hm _ k1; omega
      exact q.at_ w (.int _) rfl
theorem cr_max2 (hc : X.calm = true) : CallR X (.builtin "max") (rBi (wdOf X) .b m rp .max2) := by
  intro pins s σ H vs us Q I r ⟨O, ds, d, w, pr, e, q⟩
  match ds, e with
  | [.int i, .int j], e =>
    obtain rfl : _ = d := pure_inj e
    obtain ⟨v, v', rfl, l, l'⟩ := pr2 pr
    obtain rfl := lay_int l
    obtain rfl := lay_int l'
    exact call_max2 hc pins s σ H _ us Q I r ⟨i, j, rfl, q.at_ w (.int _) rfl⟩
theorem cr_min2 (hc : X.calm = true) : CallR X (.builtin "min") (rBi (wdOf X) .b m rp .min2) := by
  intro pins s σ H vs us Q I r ⟨O, ds, d, w, pr, e, q⟩
  match ds, e with
  | [.int i, .int j], e =>
    obtain rfl : _ = d := pure_inj e
    obtain ⟨v, v', rfl, l, l'⟩ := pr2 pr
    obtain rfl := lay_int l
    obtain rfl := lay_int l'
    exact call_min2 hc pins s σ H _ us Q I r ⟨i, j, rfl, q.at_ w (.int _) rfl⟩
theorem cr_abs : CallR X (.builtin "abs") (rBi (wdOf X) .b m rp .abs) := by
  intro pins s σ H vs us Q I r ⟨O, ds, d, w, pr, e, q⟩
  match ds, e with
  | [.int i], e =>
    obtain rfl : _ = d := pure_inj e
    obtain ⟨v, rfl, l⟩ := pr1 pr
    obtain rfl := lay_int l
    refine call_abs pins s σ H _ us Q I r ⟨i, rfl, ?_⟩
    have : (if i < 0 then -i else i) = (i.natAbs : Int) := by split <;> omega
    rw [this]
    exact q.at_ w (.int _) rfl
theorem cr_int : CallR X (.type "int") (rBi (wdOf X) .b m rp .int) := by
  intro pins s σ H vs us Q I r ⟨O, ds, d, w, pr, e, q⟩
  match ds, e with
  | [.int i], e =>
    obtain rfl : _ = d := pure_inj e
    obtain ⟨v, rfl, l⟩ := pr1 pr
    obtain rfl := lay_int l
    exact call_int1 pins s σ H _ us Q I r (.inl ⟨i, rfl, q.at_ w (.int _) rfl⟩)
  | [.bl b], e =>
    obtain rfl : _ = d := pure_inj e
    obtain ⟨v, rfl, l⟩ := pr1 pr
    obtain rfl := lay_bl l
    exact call_int1 pins s σ H _ us Q I r (.inr ⟨b, rfl, q.at_ w (.int _) rfl⟩)
theorem cr_bool : CallR X (.type "bool") (rBi (wdOf X) .b m rp .bool) := by
  intro pins s σ H vs us Q I r ⟨O, ds, d, w, pr, e, q⟩
  match ds, e with
  | [.bl b], e =>
    obtain rfl : _ = d := pure_inj e
    obtain ⟨v, rfl, l⟩ := pr1 pr
    obtain rfl := lay_bl l
    exact call_bool1 pins s σ H _ us Q I r (.inr ⟨b, rfl, q.at_ w (.bl _) rfl⟩)
theorem cr_any_ (hc : X.calm = true) : CallR X (.builtin "any") (rBi (wdOf X) .b m rp .any) := by
  intro pins s σ H vs us Q I r ⟨O, ds, d, w, pr, e, q⟩
  match ds, e with
  | [.lst xs], e =>
    obtain ⟨n, e1, e2⟩ := bind_ok e
    obtain rfl : _ = d := pure_inj e2
    obtain ⟨v, rfl, l⟩ := pr1 pr
    obtain ⟨a, ws, rfl, h1, l1⟩ := lay_lst l
    obtain rfl := boolsD_all e1
    obtain rfl := layL_bools l1
    exact L2.cr_any hc pins s σ H _ us Q I r ⟨a, n, rfl, .inl h1, q.at_ w (.bl _) rfl⟩
theorem cr_all_ (hc : X.calm = true) : CallR X (.builtin "all") (rBi (wdOf X) .b m rp .all) := by
  intro pins s σ H vs us Q I r ⟨O, ds, d, w, pr, e, q⟩
  match ds, e with
  | [.lst xs], e =>
    obtain ⟨n, e1, e2⟩ := bind_ok e
    obtain rfl : _ = d := pure_inj e2
    obtain ⟨v, rfl, l⟩ := pr1 pr
    obtain ⟨a, ws, rfl, h1, l1⟩ := lay_lst l
    obtain rfl := boolsD_all e1
    obtain rfl := layL_bools l1
    exact L2.cr_all hc pins s σ H _ us Q I r ⟨a, n, rfl, .inl h1, q.at_ w (.bl _) rfl⟩
theorem sizeOk_log {i : Int} (h : sizeOk i = true) : i.natAbs.log2 < 1920 := by
  have h : i.natAbs < 2 ^ 1900 := of_decide_eq_true h
  by_cases z : i.natAbs = 0
  · rw [z]; decide
  · have := (Nat.log2_lt z).mpr (Nat.lt_of_lt_of_le h (Nat.pow_le_pow_right (by decide) (by decide : 1900 ≤ 1920)))
    exact this
theorem cr_str : CallR X (.type "str") (rBi (wdOf X) .b m rp .str) := by
  intro pins s σ H vs us Q I r ⟨O, ds, d, w, pr, e, q⟩
  match ds, e with
  | [.int i], e =>
    obtain ⟨_, e1, e2⟩ := bind_ok e
    obtain rfl : _ = d := pure_inj e2
    obtain ⟨v, rfl, l⟩ := pr1 pr
    obtain rfl := lay_int l
    exact call_str_int pins s σ H _ us Q I r ⟨i, rfl, sizeOk_log (grd_ok e1), q.at_ w (.str _) rfl⟩
theorem cr_set_ (hc : X.calm = true) : CallR X (.type "set") (rBi (wdOf X) .b m rp .set) := by
  intro pins s σ H vs us Q I r ⟨O, ds, d, w, pr, e, q⟩
  match ds, e with
  | [d0], e =>
    obtain ⟨xs, e1, e⟩ := bind_ok e
    obtain ⟨_, e2, e⟩ := bind_ok e
    obtain rfl : _ = d := pure_inj e
    have hz := grd_ok e2
    rw [Bool.and_eq_true] at hz
    have h4 : xs.length ≤ 4000 := of_decide_eq_true hz.2
    obtain ⟨v, rfl, l⟩ := pr1 pr
    have fin : ∀ (ns : List Int), xs = ns.map D.int → ∀ (h' : Heap) (tk c : Nat), SetR X.w h' s.heap.objs.size (fun j => decide (j ∈ ns)) c → (∀ b o, s.heap.get? b = some o → h'.get? b = some o) →
        EP X pins σ Q (.ref s.heap.objs.size) { s with heap := h', toks := tk } := fun ns en h' tk c R1 hk => by
      obtain ⟨d1, d2⟩ := dedupI_spec ns [] List.nodup_nil
      have R2 := setR_count R1 d1 fun k => by rw [d2 k]; simp
      have hp := I.hok.fresh (Nat.le_refl s.heap.objs.size)
      refine ⟨.ref s.heap.objs.size, upd H s.heap.objs.size (SetI (wdOf X) s.heap.objs.size (dedupI [] ns)), I.laid hk (Nat.le_refl _) (setO_new R2), rfl, ?_⟩
      obtain ⟨st, w', op⟩ := Step.new (M := fun _ => False) (o := SetI (wdOf X) s.heap.objs.size (dedupI [] ns)) w hp
      refine q _ _ O st w' (Res.ts ?_ rfl)
      rw [en, show ([] : List D) = ([] : List Int).map D.int from rfl, dedup_ints]
      exact Lay.set (by rw [ro_of op]; exact upd_same) d1
    cases d0 <;> first | (cases e1; done) | skip
    · obtain rfl : _ = xs := pure_inj e1
      obtain ⟨a, ws, rfl, h1, l1⟩ := lay_tup l
      obtain ⟨ns, en, rfl⟩ := lay_intsL l1 hz.1
      obtain ⟨its, rv, pt, _⟩ := I.tuple (.of h1)
      rw [Vals.ref1 r]
      obtain ⟨o, ho, hcl, n, hd⟩ := pt
      have hb : ns.length + 1 < scanBound := by unfold scanBound; rw [en, List.length_map] at h4; omega
      exact call_set_tupI ns (I.ok.hd hc) ⟨o, ho, hcl, n, hd⟩ rv.ints hb fun h' tk c R1 _ hk => fin ns en h' tk c R1 hk
    · obtain rfl : _ = xs := pure_inj e1
      obtain ⟨a, ws, rfl, h1, l1⟩ := lay_lst l
      obtain ⟨ns, en, rfl⟩ := lay_intsL l1 hz.1
      obtain ⟨its, rv, pt, _⟩ := I.list (.inl h1)
      rw [Vals.ref1 r]
      have hb : ns.length + 1 < scanBound := by unfold scanBound; rw [en, List.length_map] at h4; omega
      exact call_set_listI ns (I.ok.hd hc) pt.isList rv.ints hb fun h' tk c R1 _ hk => fin ns en h' tk c R1 hk
theorem cr_sorted_ {ma : Md} (ta : isTop ma = true) (h2 : no2 m = true) (hc : X.calm = true) (hu : X.A.units + 20 < cLine) : CallR X (.builtin "sorted") (rBi (wdOf X) ma m rp .sorted) := by
  intro pins s σ H vs us Q I r ⟨O, ds, d, w, pr, e, q⟩
  match ds, e with
  | [.set xs], e =>
    obtain ⟨_, e2, e⟩ := bind_ok e
    obtain rfl : _ = d := pure_inj e
    have hz := grd_ok e2
    rw [Bool.and_eq_true] at hz
    have h4 : xs.length < 64 := of_decide_eq_true hz.2
    obtain ⟨v, rfl, l⟩ := pr1 pr
    obtain ⟨a, ns, rfl, rfl, h1, nd⟩ := lay_set l.lay
    refine cr_sortedSet hc pins s σ H _ us Q I r ⟨a, _, _, rfl, h1, by simpa using h4, fun ns' p hs hm hl hp => ?_⟩
    have pm : ns'.Perm ns := (List.perm_ext_iff_of_nodup (hs.imp fun {a b} h z => by subst z; omega) nd).mpr fun k => by rw [hm k]; simp
    rw [sortD_ints pm (hs.imp fun {a b} h => by omega)] at q
    exact q.lst w hp (LayL.ints ns') (no2_of h2)
  | [.lst xs], e =>
    obtain ⟨_, e2, e⟩ := bind_ok e
    obtain rfl : _ = d := pure_inj e
    obtain ⟨v, rfl, l⟩ := pr1 pr
    obtain ⟨a, ws, rfl, h1, l1⟩ := topOf ta l
    have hz := grd_ok e2
    unfold sortOk at hz
    by_cases hi : xs.all isInt = true
    · obtain ⟨ns, rfl, rfl⟩ := lay_intsL l1 hi
      refine cr_sortedI pins s σ H _ us Q I r ⟨a, ns, rfl, .inl h1, fun ns' p pm hs hp => ?_⟩
      rw [sortD_ints pm hs] at q
      exact q.lst w hp (LayL.ints ns') (no2_of h2)
    · rw [Bool.or_eq_true] at hz
      have ok := hz.resolve_left hi
      obtain ⟨u, rfl, ru⟩ := vals1 r
      obtain rfl : u = Value.ref a := ru
      exact sorted_D hu I (.inl h1) (l1.le ro_le) ok fun p ys hp hL => q.lst w hp (hL _ l1) (no2_of h2)

/-! ### repr -/
def rpD (d : D) : Str := (toPy d).shown
mutual
theorem shown_room : ∀ (n : Nat) (d : D), pl n d = true → small d = true → (toPy d).shown.length ≤ room d ∧ (toPy d).showable = true
  | n, .non, _, _ => ⟨by show (4 : Nat) ≤ 600; decide, rfl⟩
  | n, .bl b, _, _ => ⟨by cases b <;> decide, rfl⟩
  | n, .int i, _, h => by
    have h : sizeOk i = true := by simpa only [small] using h
    refine ⟨?_, ?_⟩
    · have h' : i.natAbs < 2 ^ 1900 := of_decide_eq_true h
      have e := int_text_length_le10 (a := i) (k := 573) (by decide) (Nat.lt_of_lt_of_le h' (by decide +kernel))
      simp only [toPy, PyData.shown, room]
      show (Str.ofString (toString i)).length ≤ 600
      rw [PySem.ofString_length]; omega
    · simp only [toPy, PyData.showable]; exact decide_eq_true (sizeOk_log h)
  | n, .str x, p, _ => by
    have p' : (x.cps.all fun c => decide (c < 1114112)) = true := by cases n <;> simpa [pl] using p
    refine ⟨?_, by simp only [toPy, PyData.showable]⟩
    simp only [toPy, PyData.shown, room]
    have e := StrLaws.reprText_len x fun c hc => by
      have := Array.all_eq_true_iff_forall_mem.mp p' c (by simpa using hc)
      have : c < 1114112 := of_decide_eq_true this
      omega
    omega
  | n, .tup xs, p, h => by
    cases n with
    | zero => simp [pl] at p
    | succ n =>
      obtain ⟨e1, e2⟩ := showns_room n xs (by simpa only [pl] using p) (by simpa only [small] using h)
      refine ⟨?_, by simpa only [toPy, PyData.showable] using e2⟩
      simp only [toPy, PyData.shown, room]
      have := tupleText_len_le (PyData.shownAll (toPys xs))
      omega
  | n, .lst xs, p, h => by
    cases n with
    | zero => simp [pl] at p
    | succ n =>
      obtain ⟨e1, e2⟩ := showns_room n xs (by simpa only [pl] using p) (by simpa only [small] using h)
      refine ⟨?_, by simpa only [toPy, PyData.showable] using e2⟩
      simp only [toPy, PyData.shown, room]
      have := listText_len_le (PyData.shownAll (toPys xs))
      omega
  | n, .dct _ _, p, _ => by cases n <;> simp [pl] at p
  | n, .set _, p, _ => by cases n <;> simp [pl] at p
theorem showns_room : ∀ (n : Nat) (ds : List D), pls n ds = true → smalls ds = true → ((PyData.shownAll (toPys ds)).map (·.length)).sum + 2 * (PyData.shownAll (toPys ds)).length ≤ rooms ds ∧ PyData.showableAll (toPys ds) = true
  | n, [], _, _ => by simp [toPys, PyData.shownAll, rooms, PyData.showableAll]
  | n, d :: ds, p, h => by
    simp only [pls, Bool.and_eq_true] at p
    simp only [smalls, Bool.and_eq_true] at h
    obtain ⟨a1, a2⟩ := shown_room n d p.1 h.1
    obtain ⟨b1, b2⟩ := showns_room n ds p.2 h.2
    simp only [toPys, PyData.shownAll, rooms, PyData.showableAll, List.map_cons, List.sum_cons, List.length_cons]
    exact ⟨by omega, by rw [a2, b2]; rfl⟩
end
theorem cr_repr (hg : X.A.guards = some []) (hu : X.A.units + 20 < cLine) : CallR X (.builtin "repr") (rBi (wdOf X) .b m rpD .repr) := by
  intro pins s σ H vs us Q I r ⟨O, ds, d, w, pr, e, q⟩
  match ds, e with
  | [d0], e =>
    obtain ⟨_, e2, e⟩ := bind_ok e
    obtain rfl : _ = d := pure_inj e
    have hz := grd_ok e2
    unfold reprOk at hz
    simp only [Bool.and_eq_true] at hz
    have hr : room d0 ≤ 16000000 := of_decide_eq_true hz.2
    obtain ⟨s1, s2⟩ := shown_room 12 d0 hz.1.1 hz.1.2
    obtain ⟨v, rfl, l⟩ := pr1 pr
    obtain ⟨u, rfl, ru⟩ := vals1 r
    have l : Lay (wdOf X) H v d0 := l
    obtain ⟨as, rd⟩ := Dp.reads I (toPy d0) v u (l.dp 12 hz.1.1) ru
    have c := pl_can 12 d0 hz.1.1
    have fin : ∀ (h' : Heap) (tk u : Nat), (∀ b o, s.heap.get? b = some o → h'.get? b = some o) → EP X pins σ Q (.str (toPy d0).shown u) { s with heap := h', toks := tk } := fun h' tk u hk =>
      ⟨.str _, H, I.kept hk, ⟨u, rfl⟩, q.at_ w (.str _) rfl⟩
    have hsz : (toPy d0).shown.length ≤ sizeLine := by rw [sizeLine_eq]; omega
    cases d0 with
    | non => cases l; cases ru; exact P.repr_of_none (fin s.heap _ _ fun _ _ e => e)
    | bl b => cases l; cases ru; exact P.repr_of_bool (by have := fin s.heap (s.toks + 1) s.toks fun _ _ e => e; cases b <;> exact this)
    | int i => cases l; obtain ⟨t, rfl⟩ := ru; exact P.repr_of_int (sizeOk_log (by simpa only [small] using hz.1.2)) (fin s.heap _ _ fun _ _ e => e)
    | str z => cases l; obtain ⟨t, rfl⟩ := ru; exact P.repr_of_str (fin s.heap _ _ fun _ _ e => e) hsz
    | tup xs =>
      obtain ⟨a, ws, rfl, h1, l1⟩ := lay_tup l
      cases ru
      exact repr_of_reads' rd s2 (PyData.noDict_hsm (PyData.hasDict_of_canLay _ c.1)) hg (by have := c.2; omega) (fun _ _ e => e) (fun h' u tk hk => fin h' tk u hk) hsz
    | lst xs =>
      obtain ⟨a, ws, rfl, h1, l1⟩ := lay_lst l
      cases ru
      exact repr_of_reads' rd s2 (PyData.noDict_hsm (PyData.hasDict_of_canLay _ c.1)) hg (by have := c.2; omega) (fun _ _ e => e) (fun h' u tk hk => fin h' tk u hk) hsz
    | _ => simp [plain, pl] at hz
end
end C

set_option Elab.async false
set_option linter.all false
set_option maxRecDepth 100000
set_option maxHeartbeats 1000000
/-! Sound11: targets, and what loops walk. -/
namespace C
open PySem PySem.Spec PyProof.Rows L2

/-! ### slots -/
def Agr (S : List Nat) (σ' σ : L2.St) : Prop := σ'.length = σ.length ∧ ∀ i, i ∉ S → σ'[i]? = σ[i]?
theorem Agr.refl (S : List Nat) (σ : L2.St) : Agr S σ σ := ⟨rfl, fun _ _ => rfl⟩
theorem Agr.trans {S : List Nat} {a b c : L2.St} (h : Agr S a b) (h' : Agr S b c) : Agr S a c := ⟨h.1.trans h'.1, fun i n => (h.2 i n).trans (h'.2 i n)⟩
theorem Agr.mono {S T : List Nat} {a b : L2.St} (h : Agr S a b) (st : ∀ i ∈ S, i ∈ T) : Agr T a b := ⟨h.1, fun i n => h.2 i fun z => n (st i z)⟩
theorem wipe_in {σ : L2.St} {i : Nat} : ∀ {vs : List Nat}, i ∈ vs → i < σ.length → (wipe σ vs)[i]? = some none
  | v :: vs, h, hl => by
    unfold wipe
    by_cases e : v = i
    · subst e
      exact List.getElem?_set_self (by rw [wipe_length]; exact hl)
    · rw [List.getElem?_set_ne e]
      exact wipe_in ((List.mem_cons.mp h).resolve_left fun z => e z.symm) hl
theorem wipe_agr {σ σ' : L2.St} {vs : List Nat} (h : Agr vs σ' σ) : wipe σ' vs = wipe σ vs := by
  apply List.ext_getElem?
  intro i
  by_cases hi : i ∈ vs
  · by_cases hl : i < σ.length
    · rw [wipe_in hi hl, wipe_in hi (by rw [h.1]; exact hl)]
    · rw [List.getElem?_eq_none (by rw [wipe_length]; rw [h.1]; omega), List.getElem?_eq_none (by rw [wipe_length]; omega)]
  · rw [wipe_out hi, wipe_out hi, h.2 i hi]
theorem agr_wipe (σ : L2.St) (vs : List Nat) : Agr vs (wipe σ vs) σ := ⟨wipe_length _ _, fun i n => wipe_out n⟩
theorem clr_length (r : Env) : ∀ S : List Nat, (clr r S).length = r.length
  | [] => rfl
  | i :: S => by unfold clr; rw [List.length_set, clr_length r S]
theorem clr_out {r : Env} {i : Nat} : ∀ {S : List Nat}, i ∉ S → (clr r S)[i]? = r[i]?
  | [], _ => rfl
  | v :: vs, h => by
    rw [List.mem_cons, not_or] at h
    unfold clr
    rw [List.getElem?_set_ne (fun e => h.1 e.symm)]
    exact clr_out h.2
theorem clr_live {r : Env} {i : Nat} {d : D} : ∀ {S : List Nat}, (clr r S)[i]? = some (some d) → i ∉ S ∧ r[i]? = some (some d)
  | [], h => ⟨by simp, h⟩
  | v :: vs, h => by
    unfold clr at h
    by_cases e : v = i
    · subst e
      by_cases hl : v < (clr r vs).length
      · rw [List.getElem?_set_self hl] at h; cases h
      · rw [List.getElem?_eq_none (by simpa using hl)] at h; cases h
    · rw [List.getElem?_set_ne e] at h
      obtain ⟨h1, h2⟩ := clr_live h
      exact ⟨by simp only [List.mem_cons, not_or]; exact ⟨fun z => e z.symm, h1⟩, h2⟩
section
variable {g : Wd} {ks : List Nat} {H : Hp} {O : Ow} {σ σ' : L2.St} {ρ : Env}
/-- slots out of sight -/
theorem Rel.clr (R : Rel g ks H O σ ρ) {S : List Nat} (h : Agr S σ' σ) : Rel g ks H O σ' (C.clr ρ S) := by
  refine ⟨R.wf, by rw [clr_length, h.1, R.len], fun i d e => ?_, fun i j r d e ne k1 k2 h1 h2 s1 => ?_⟩
  · obtain ⟨n, e⟩ := clr_live e
    rw [h.2 i n]
    exact R.slot i d e
  · obtain ⟨n1, h1⟩ := clr_live h1
    obtain ⟨n2, h2⟩ := clr_live h2
    rw [h.2 i n1] at s1
    rw [h.2 j n2]
    exact R.apart i j r d e ne k1 k2 h1 h2 s1
theorem Rel.set0 (R : Rel g ks H O σ ρ) {i : Nat} {v : V} {d : D} (hk : ks.getD i 0 = 0) (l : Lay g (ro H O) v d) : Rel g ks H O (σ.set i (some v)) (ρ.set i (some d)) := by
  refine ⟨R.wf, by rw [List.length_set, List.length_set]; exact R.len, fun j e hj => ?_, fun j1 j2 r e1 e2 ne k1 k2 h1 h2 s1 => ?_⟩
  · by_cases z : i = j
    · subst z
      by_cases hl : i < ρ.length
      · rw [List.getElem?_set_self hl] at hj
        cases hj
        refine ⟨v, List.getElem?_set_self (by rw [← R.len]; exact hl), ?_⟩
        rw [hk]; exact l
      · rw [List.getElem?_eq_none (by simpa using hl)] at hj; cases hj
    · rw [List.getElem?_set_ne z] at hj ⊢
      exact R.slot j e hj
  · have z1 : i ≠ j1 := fun z => k1 (z ▸ hk)
    have z2 : i ≠ j2 := fun z => k2 (z ▸ hk)
    rw [List.getElem?_set_ne z1] at h1 s1
    rw [List.getElem?_set_ne z2] at h2 ⊢
    exact R.apart j1 j2 r e1 e2 ne k1 k2 h1 h2 s1
end

/-! ### targets -/
def gD (g : Wd) (ks : List Nat) (t : Tg) : TG := fun v σ H Q => ∃ O ρ d ρ', Rel g ks H O σ ρ ∧ Lay g (ro H O) v d ∧ setT t d ρ = .ok ρ' ∧ ∀ σ', Rel g ks H O σ' ρ' → Agr t.slots σ' σ → Q σ' H
def gDs (g : Wd) (ks : List Nat) (ts : List Tg) : TGs := fun vs σ H Q => ∃ O ρ ds ρ', Rel g ks H O σ ρ ∧ LayL g (ro H O) vs ds ∧ setTs ts ds ρ = .ok ρ' ∧ ∀ σ', Rel g ks H O σ' ρ' → Agr (Tg.slotss ts) σ' σ → Q σ' H
theorem PG.imp {X : Cx} {e : Expr} {t t' : TG} (h : PG X e t) (w : ∀ v σ H Q, t' v σ H Q → t v σ H Q) : PG X e t' := ⟨fun pins s σ H v u Q I r q => h.run pins s σ H v u Q I r (w v σ H Q q)⟩
theorem PGs.imp {X : Cx} {e : List Expr} {t t' : TGs} (h : PGs X e t) (w : ∀ v σ H Q, t' v σ H Q → t v σ H Q) : PGs X e t' := ⟨fun pins s σ H v u Q I r q => h.run pins s σ H v u Q I r (w v σ H Q q)⟩
section
variable {X : Cx} {ks : List Nat} {pos : Pos}
theorem g_name {i : Nat} {x : Str} (hN : X.N.Nodup) (hi : X.N[i]? = some x) (hx : Loc X.env.scope x) (hf : X.fn x = true ∨ X.env.scope.names.lookup x = some .local) (hk : ks.getD i 0 = 0) : PG X (.Name x pos) (gD (wdOf X) ks (.nm i)) := by
  refine PG.imp (pg_name hN hi hx hf) fun v σ H Q ⟨O, ρ, d, ρ', R, l, e, q⟩ => ?_
  unfold setT at e
  split at e
  · injection e with e
    subst e
    refine q _ (R.set0 hk l) ⟨List.length_set .., fun j n => List.getElem?_set_ne fun z => n ?_⟩
    simp [Tg.slots, z]
  · cases e
theorem gs_nil : PGs X [] (gDs (wdOf X) ks []) := by
  refine PGs.imp pgs_nil fun vs σ H Q ⟨O, ρ, ds, ρ', R, l, e, q⟩ => ?_
  cases ds with
  | cons d ds => simp [setTs] at e
  | nil =>
    cases l
    simp only [setTs] at e
    injection e with e
    subst e
    exact ⟨rfl, q σ R (Agr.refl _ _)⟩
theorem gs_cons {e : Expr} {es : List Expr} {t : Tg} {ts : List Tg} (h1 : PG X e (gD (wdOf X) ks t)) (h2 : PGs X es (gDs (wdOf X) ks ts))
    (hs : (assignEach (e :: es) X.env).map (·.2) = assign e X.env :: (assignEach es X.env).map (·.2)) : PGs X (e :: es) (gDs (wdOf X) ks (t :: ts)) := by
  refine PGs.imp (pgs_cons h1 h2 hs) fun vs σ H Q ⟨O, ρ, ds, ρ', R, l, e, q⟩ => ?_
  cases ds with
  | nil => simp [setTs] at e
  | cons d ds =>
    cases l with
    | cons a r =>
      simp only [setTs] at e
      obtain ⟨ρ1, e1, e⟩ := bind_ok e
      refine ⟨_, _, rfl, O, ρ, d, ρ1, R, a, e1, fun σ1 R1 g1 => ⟨O, ρ1, ds, ρ', R1, r, e, fun σ2 R2 g2 => q σ2 R2 ((g2.mono ?_).trans (g1.mono ?_))⟩⟩ <;> (intro i h; simp [Tg.slotss, h])
theorem setTs_len : ∀ {ts : List Tg} {ds : List D} {r r' : Env}, setTs ts ds r = .ok r' → ds.length = ts.length
  | [], [], _, _, _ => rfl
  | [], _ :: _, _, _, h => by simp [setTs] at h
  | _ :: _, [], _, _, h => by simp [setTs] at h
  | t :: ts, d :: ds, r, r', h => by
    simp only [setTs] at h
    obtain ⟨r1, e1, h⟩ := bind_ok h
    rw [List.length_cons, List.length_cons, setTs_len h]
theorem g_tup {es : List Expr} {k : Nat} {ts : List Tg} (hc : X.calm = true) (h : PGs X es (gDs (wdOf X) ks ts)) (hn : (assignEach es X.env).length = ts.length) (hst : (assignEach es X.env).findIdx? (·.1) = none) :
    PG X (.Tuple es k pos) (gD (wdOf X) ks (.tup ts)) := by
  refine PG.imp (pg_tup hc h hn hst) fun v σ H Q ⟨O, ρ, d, ρ', R, l, e, q⟩ => ?_
  cases d <;> first | (simp [setT] at e; done) | skip
  obtain ⟨a, xs, rfl, h1, l1⟩ := lay_tup l
  simp only [setT] at e
  exact ⟨a, xs, rfl, .of (ro_le _ _ h1), by rw [l1.length]; exact setTs_len e, O, ρ, _, ρ', R, l1, e, fun σ' R' g' => q σ' R' (by simpa [Tg.slots] using g')⟩
end

/-! ### what is walked -/
/-- the iterator goes over these, whatever is done: with fz to what may be changed, without to nothing -/
def ItOk (g : Wd) (fz : Bool) (J : It) (H : Hp) (O : Ow) (ds : List D) : Prop := ∀ Hn On, Step (fun _ => fz = true) H O Hn On → WF Hn On →
  (∀ (i : Nat) d, ds[i]? = some d → J.go i Hn ∧ ∀ x H', J.yld i Hn x H' → Step (fun _ => False) Hn On H' On ∧ WF H' On ∧ Lay g (ro H' On) x d) ∧ ∀ i, ds.length ≤ i → J.stop i Hn
def iterE (P : Fs) (rp : D → Str) (e : E) (r : Env) : Rs (List D × Env) := do let (x, r) ← ev P rp e r; let ds ← items x; return (ds, r)
def TId (g : Wd) (ks : List Nat) (fz pu : Bool) (f : Env → Rs (List D × Env)) : TI := fun σ H R => ∃ O ρ ds ρ', Rel g ks H O σ ρ ∧ f ρ = .ok (ds, ρ') ∧ ∀ J H' O', Post g ks pu H O σ ρ ρ' H' O' → ItOk g fz J H' O' ds → R J H'
theorem PI.imp {X : Cx} {tg e : Expr} {t t' : TI} (h : PI X tg e t) (w : ∀ σ H R, t' σ H R → t σ H R) : PI X tg e t' := ⟨fun pins s σ H R I q => h.run pins s σ H R I (w σ H R q)⟩
section
variable {g : Wd} {H : Hp} {O : Ow}
theorem it_list {fz : Bool} {a : Addr} {xs : List V} {ds : List D} (l : LayL g (ro H O) xs ds) (h : Rd (ro H O) a (.lst xs) ∨ (fz = false ∧ Rd H a (.lst xs))) : ItOk g fz (Itl g.K a) H O ds := by
  intro Hn On s w
  have sq : SqL g.K Hn a xs := by
    rcases h with h | ⟨rfl, h⟩
    · exact .inl (ro_le.rd (s.le.rd h))
    · exact .inl ((s.mono (M' := fun _ => False) fun _ z => by cases z).le0.rd h)
  have l' := l.le s.le
  refine ⟨fun i d hd => ?_, fun i hi => ⟨xs, sq, by rw [l.length]; exact hi⟩⟩
  obtain ⟨v, hv, lv⟩ := l'.get hd
  exact ⟨⟨xs, v, sq, hv⟩, fun x H' ⟨e, y⟩ => by
    subst e
    have : xs[i]? = some x := y xs sq
    rw [hv] at this; cases this
    exact ⟨Step.refl, w, lv⟩⟩
theorem it_tup {fz : Bool} {a : Addr} {xs : List V} {ds : List D} (l : LayL g (ro H O) xs ds) (h : ro H O a = some (.tup xs)) : ItOk g fz (Itt g.K a) H O ds := by
  intro Hn On s w
  have sq : SqT g.K Hn a xs := .of (ro_le _ _ (s.le _ _ h))
  have l' := l.le s.le
  refine ⟨fun i d hd => ?_, fun i hi => ⟨xs, sq, by rw [l.length]; exact hi⟩⟩
  obtain ⟨v, hv, lv⟩ := l'.get hd
  exact ⟨⟨xs, v, sq, hv⟩, fun x H' ⟨e, y⟩ => by
    subst e
    have : xs[i]? = some x := y xs sq
    rw [hv] at this; cases this
    exact ⟨Step.refl, w, lv⟩⟩
theorem it_range {fz : Bool} {lo : Int} {n : Nat} : ItOk g fz (Itr lo n) H O ((List.range n).map fun i => D.int (lo + (i : Nat))) := by
  intro Hn On s w
  refine ⟨fun i d hd => ?_, fun i hi => by
    have : n ≤ i := by simpa using hi
    exact this⟩
  rw [List.getElem?_map] at hd
  obtain ⟨j, h1, rfl⟩ := Option.map_eq_some_iff.mp hd
  have hi : i < n := by
    have := (List.getElem?_eq_some_iff.mp h1).1
    simpa using this
  rw [List.getElem?_range hi] at h1
  cases h1
  exact ⟨hi, fun x H' ⟨e, y⟩ => by subst e; subst y; exact ⟨Step.refl, w, .int _⟩⟩
theorem it_rangeC {fz : Bool} {lo c : Int} {n : Nat} : ItOk g fz (Itc lo c n) H O ((List.range n).map fun i => D.int (lo + (i : Nat) * c)) := by
  intro Hn On s w
  refine ⟨fun i d hd => ?_, fun i hi => by
    have : n ≤ i := by simpa using hi
    exact this⟩
  rw [List.getElem?_map] at hd
  obtain ⟨j, h1, rfl⟩ := Option.map_eq_some_iff.mp hd
  have hi : i < n := by
    have := (List.getElem?_eq_some_iff.mp h1).1
    simpa using this
  rw [List.getElem?_range hi] at h1
  cases h1
  exact ⟨hi, fun x H' ⟨e, y⟩ => by subst e; subst y; exact ⟨Step.refl, w, .int _⟩⟩
/-- a pair that the iterator makes -/
theorem yld_pair {T : Addr} {x y : V} {d e : D} (w : WF H O) (hT : H T = none) (lx : Lay g (ro H O) x d) (ly : Lay g (ro H O) y e) :
    Step (fun _ => False) H O (upd H T (.tup [x, y])) O ∧ WF (upd H T (.tup [x, y])) O ∧ Lay g (ro (upd H T (.tup [x, y])) O) (.ref T) (.tup [d, e]) := by
  obtain ⟨s, w', o⟩ := Step.new (M := fun _ => False) (o := .tup [x, y]) w hT
  exact ⟨s, w', .tup (by rw [ro_of o]; exact upd_same) (.cons (lx.le s.le) (.cons (ly.le s.le) .nil))⟩
theorem enumD_get : ∀ {xs : List D} {n : Int} {i : Nat} {d : D}, (enumD n xs)[i]? = some d → ∃ x, xs[i]? = some x ∧ d = .tup [.int (n + i), x]
  | [], n, i, d, h => by simp [enumD] at h
  | x :: xs, n, 0, d, h => by simp only [enumD, List.getElem?_cons_zero] at h; cases h; exact ⟨x, rfl, by simp⟩
  | x :: xs, n, i + 1, d, h => by
    simp only [enumD, List.getElem?_cons_succ] at h
    obtain ⟨z, h1, h2⟩ := enumD_get h
    exact ⟨z, by simpa using h1, by rw [h2]; congr 3; omega⟩
theorem enumD_len : ∀ {xs : List D} {n : Int}, (enumD n xs).length = xs.length
  | [], n => rfl
  | x :: xs, n => by simp only [enumD, List.length_cons, enumD_len]
theorem zipD_get : ∀ {xs ys : List D} {i : Nat} {d : D}, (zipD xs ys)[i]? = some d → ∃ x y, xs[i]? = some x ∧ ys[i]? = some y ∧ d = .tup [x, y]
  | [], _, i, d, h => by simp [zipD] at h
  | _ :: _, [], i, d, h => by simp [zipD] at h
  | x :: xs, y :: ys, 0, d, h => by simp only [zipD, List.getElem?_cons_zero] at h; cases h; exact ⟨x, y, rfl, rfl, rfl⟩
  | x :: xs, y :: ys, i + 1, d, h => by
    simp only [zipD, List.getElem?_cons_succ] at h
    obtain ⟨a, b, h1, h2, h3⟩ := zipD_get h
    exact ⟨a, b, by simpa using h1, by simpa using h2, h3⟩
theorem zipD_len : ∀ {xs ys : List D}, (zipD xs ys).length = min xs.length ys.length
  | [], _ => by simp [zipD]
  | _ :: _, [] => by simp [zipD]
  | x :: xs, y :: ys => by simp only [zipD, List.length_cons, zipD_len]; omega
/-- a list that is read on: shared, or one's own while nothing is changed -/
def Stays (fz : Bool) (H : Hp) (O : Ow) (a : Addr) (xs : List V) : Prop := Rd (ro H O) a (.lst xs) ∨ (fz = false ∧ Rd H a (.lst xs))
theorem Stays.sq {K : PySem.W.Frag} {fz : Bool} {a : Addr} {xs : List V} (h : Stays fz H O a xs) {Hn : Hp} {On : Ow} (s : Step (fun _ => fz = true) H O Hn On) : SqL K Hn a xs := by
  rcases h with h | ⟨rfl, h⟩
  · exact .inl (ro_le.rd (s.le.rd h))
  · exact .inl ((s.mono (M' := fun _ => False) fun _ z => by cases z).le0.rd h)
theorem it_zipT {fz : Bool} {a b : Addr} {xs ys : List V} {ds es : List D} (l : LayL g (ro H O) xs ds) (l2 : LayL g (ro H O) ys es) (h : ro H O a = some (.tup xs)) (h2 : ro H O b = some (.tup ys)) : ItOk g fz (RZ.ItzT g.K a b) H O (zipD ds es) := by
  intro Hn On s w
  have sq : SqT g.K Hn a xs := .of (ro_le _ _ (s.le _ _ h))
  have sq2 : SqT g.K Hn b ys := .of (ro_le _ _ (s.le _ _ h2))
  have l' := l.le s.le
  have l2' := l2.le s.le
  refine ⟨fun i d hd => ?_, fun i hi => ⟨xs, ys, sq, sq2, by rw [l.length, l2.length]; rw [zipD_len] at hi; omega⟩⟩
  obtain ⟨x, y, hx, hy, rfl⟩ := zipD_get hd
  obtain ⟨v, hv, lv⟩ := l'.get hx
  obtain ⟨u, hu, lu⟩ := l2'.get hy
  refine ⟨⟨xs, ys, v, u, sq, sq2, hv, hu⟩, fun x H' ⟨T, y, z, e1, e2, e3, e4, e5⟩ => ?_⟩
  subst e1; subst e3
  have a1 := e4 xs sq
  have a2 := e5 ys sq2
  rw [hv] at a1; cases a1
  rw [hu] at a2; cases a2
  exact yld_pair w e2 lv lu
theorem it_enum {fz : Bool} {a : Addr} {xs : List V} {ds : List D} (l : LayL g (ro H O) xs ds) (h : Stays fz H O a xs) : ItOk g fz (Ite g.K a) H O (enumD 0 ds) := by
  intro Hn On s w
  have sq := h.sq (K := g.K) s
  have l' := l.le s.le
  refine ⟨fun i d hd => ?_, fun i hi => ⟨xs, sq, by rw [l.length]; rw [enumD_len] at hi; exact hi⟩⟩
  obtain ⟨z, hz, rfl⟩ := enumD_get hd
  obtain ⟨v, hv, lv⟩ := l'.get hz
  refine ⟨⟨xs, v, sq, hv⟩, fun x H' ⟨T, y, e1, e2, e3, e4⟩ => ?_⟩
  subst e1; subst e3
  have := e4 xs sq
  rw [hv] at this; cases this
  refine yld_pair w e2 ?_ lv
  rw [Int.zero_add]
  exact .int _
theorem it_zip {fz : Bool} {a b : Addr} {xs ys : List V} {ds es : List D} (l : LayL g (ro H O) xs ds) (l2 : LayL g (ro H O) ys es) (h : Stays fz H O a xs) (h2 : Stays fz H O b ys) : ItOk g fz (Itz g.K a b) H O (zipD ds es) := by
  intro Hn On s w
  have sq := h.sq (K := g.K) s
  have sq2 := h2.sq (K := g.K) s
  have l' := l.le s.le
  have l2' := l2.le s.le
  refine ⟨fun i d hd => ?_, fun i hi => ⟨xs, ys, sq, sq2, by rw [l.length, l2.length]; rw [zipD_len] at hi; omega⟩⟩
  obtain ⟨x, y, hx, hy, rfl⟩ := zipD_get hd
  obtain ⟨v, hv, lv⟩ := l'.get hx
  obtain ⟨u, hu, lu⟩ := l2'.get hy
  refine ⟨⟨xs, ys, v, u, sq, sq2, hv, hu⟩, fun x H' ⟨T, y, z, e1, e2, e3, e4, e5⟩ => ?_⟩
  subst e1; subst e3
  have a1 := e4 xs sq
  have a2 := e5 ys sq2
  rw [hv] at a1; cases a1
  rw [hu] at a2; cases a2
  exact yld_pair w e2 lv lu
end
section
variable {X : Cx} {ks : List Nat} {P : Fs} {rp : D → Str} {ma : Md} {pa fz : Bool} {a b c : E} {as : List E} {e : Expr} {tg : Expr} {p pos : Pos}
/-- how a walked value is wanted -/
def okIt (fz : Bool) (ma : Md) : Bool := match ma with
  | .own 0 => true
  | .k => !fz
  | _ => false
theorem okIt_top (h : okIt fz ma = true) : isTop ma = true := by
  match ma, h with
  | .own 0, _ => rfl
  | .k, _ => rfl
theorem stays_of {g : Wd} {H0 H : Hp} {O : Ow} {v : V} {ds : List D} (h : okIt fz ma = true) (r : Res g ma H0 H O v (.lst ds)) : ∃ p xs, v = V.ref p ∧ LayL g (ro H O) xs ds ∧ Stays fz H O p xs ∧ Rd H p (.lst xs) := by
  match ma, h, r with
  | .own 0, _, r =>
    obtain ⟨p, xs, rfl, h1, l⟩ := lay_lst (show Lay g (ro H O) v (.lst ds) from r)
    exact ⟨p, xs, rfl, l, .inl h1, ro_le.rd h1⟩
  | .k, h, r =>
    obtain ⟨p, xs, rfl, h1, l⟩ := r
    exact ⟨p, xs, rfl, l, .inr ⟨by simpa [okIt] using h, h1⟩, h1⟩
/-- a list or a tuple -/
theorem i_val (ha : PE X e (TEd (wdOf X) ks ma pa (ev P rp a))) (h : okIt fz ma = true) : PI X tg e (TId (wdOf X) ks fz pa (fun r => do let (x, r) ← ev P rp a r; let ds ← seqOf x; return (ds, r))) := by
  refine ⟨fun pins s σ H R I ⟨O, ρ, ds, ρ', R0, e1, q⟩ => ?_⟩
  obtain ⟨⟨d, ρ1⟩, e2, e1⟩ := bind_ok e1
  obtain ⟨xs, e3, e1⟩ := bind_ok e1
  obtain ⟨rfl, rfl⟩ := Prod.mk.inj (pure_inj e1)
  cases d <;> first | (cases e3; done) | skip
  · obtain rfl : _ = xs := pure_inj e3
    refine (pi_tup ha).run pins s σ H R I ⟨O, ρ, _, ρ1, R0, e2, fun v H' O' pp r => ?_⟩
    obtain ⟨p0, ys, rfl, h1, l⟩ := lay_tup (show Lay (wdOf X) (ro H' O') v (.tup _) from topOf (okIt_top h) r)
    exact ⟨p0, rfl, ⟨ys, .of (ro_le _ _ h1)⟩, q _ H' O' pp (it_tup l h1)⟩
  · obtain rfl : _ = xs := pure_inj e3
    refine (pi_list ha).run pins s σ H R I ⟨O, ρ, _, ρ1, R0, e2, fun v H' O' pp r => ?_⟩
    obtain ⟨p0, ys, rfl, l, st, h1⟩ := stays_of h r
    exact ⟨p0, rfl, ⟨ys, .inl h1⟩, q _ H' O' pp (it_list l st)⟩
/-- range(n) -/
theorem i_range1 (hg : Gl X "range") (hm : X.mg "range" = none) (ha : PA X [e] (TAd (wdOf X) ks .b pa (evs P rp as))) (hs : starEach [e] X.env = [(false, eval e X.env)]) :
    PI X tg (.Call (.Name "range" p) [e] [] pos) (TId (wdOf X) ks fz pa (iterE P rp (.bi .range1 as))) := by
  refine PI.imp (pi_range1 hg hm ha hs) fun σ H R ⟨O, ρ, ds, ρ', R0, e1, q⟩ => ?_
  unfold iterE at e1
  simp only [ev] at e1
  obtain ⟨⟨d, ρ1⟩, e2, e1⟩ := bind_ok e1
  obtain ⟨⟨es, ρ2⟩, e3, e2⟩ := bind_ok e2
  obtain ⟨d2, e4, e2⟩ := bind_ok e2
  obtain ⟨rfl, rfl⟩ := Prod.mk.inj (pure_inj e2)
  obtain ⟨ds', e5, e1⟩ := bind_ok e1
  obtain ⟨rfl, rfl⟩ := Prod.mk.inj (pure_inj e1)
  match es, e4 with
  | [.int n], e4 =>
    obtain ⟨_, e6, e4⟩ := bind_ok e4
    obtain rfl := pure_inj e4
    obtain rfl : _ = ds' := pure_inj e5
    have hz := of_decide_eq_true (grd_ok e6)
    refine ⟨O, ρ, [.int n], ρ2, R0, e3, fun vs H' O' pp pr => ?_⟩
    obtain ⟨v, rfl, l⟩ := pr1 pr
    obtain rfl := lay_int (show Lay (wdOf X) H' v (.int n) from l)
    have : (line : Int) < 2 ^ 62 := by decide
    refine ⟨n, rfl, by omega, by omega, q _ H' O' pp ?_⟩
    have := it_range (g := wdOf X) (H := H') (O := O') (fz := fz) (lo := 0) (n := n.toNat)
    unfold rangeI
    rw [Int.sub_zero]
    exact this
/-- range(a, b) -/
theorem i_range2 {e2 : Expr} (hg : Gl X "range") (hm : X.mg "range" = none) (ha : PA X [e, e2] (TAd (wdOf X) ks .b pa (evs P rp as))) (hs : starEach [e, e2] X.env = [(false, eval e X.env), (false, eval e2 X.env)]) (hs2 : starEach [e2] X.env = [(false, eval e2 X.env)]) :
    PI X tg (.Call (.Name "range" p) [e, e2] [] pos) (TId (wdOf X) ks fz pa (iterE P rp (.bi .range2 as))) := by
  refine PI.imp (pi_range2 hg hm ha hs hs2) fun σ H R ⟨O, ρ, ds, ρ', R0, e1, q⟩ => ?_
  unfold iterE at e1
  simp only [ev] at e1
  obtain ⟨⟨d, ρ1⟩, e2, e1⟩ := bind_ok e1
  obtain ⟨⟨es, ρ2⟩, e3, e2⟩ := bind_ok e2
  obtain ⟨d2, e4, e2⟩ := bind_ok e2
  obtain ⟨rfl, rfl⟩ := Prod.mk.inj (pure_inj e2)
  obtain ⟨ds', e5, e1⟩ := bind_ok e1
  obtain ⟨rfl, rfl⟩ := Prod.mk.inj (pure_inj e1)
  match es, e4 with
  | [.int m, .int n], e4 =>
    obtain ⟨_, e6, e4⟩ := bind_ok e4
    obtain rfl := pure_inj e4
    obtain rfl : _ = ds' := pure_inj e5
    have hz := of_decide_eq_true (grd_ok e6)
    refine ⟨O, ρ, [.int m, .int n], ρ2, R0, e3, fun vs H' O' pp pr => ?_⟩
    obtain ⟨v, v2, rfl, l, l2⟩ := pr2 pr
    obtain rfl := lay_int (show Lay (wdOf X) H' v (.int m) from l)
    obtain rfl := lay_int (show Lay (wdOf X) H' v2 (.int n) from l2)
    have : (line : Int) < 2 ^ 62 := by decide
    exact ⟨m, n, rfl, ⟨by omega, by omega, by omega, by omega⟩, q _ H' O' pp it_range⟩
/-- enumerate(xs) -/
theorem i_enum {elts : List Expr} {kk : Nat} {tpos : Pos} (hg : Gl X "enumerate") (hm : X.mg "enumerate" = none) (ha : PA X [e] (TAd (wdOf X) ks ma pa (evs P rp as))) (h : okIt fz ma = true) (hs : starEach [e] X.env = [(false, eval e X.env)]) :
    PI X (.Tuple elts kk tpos) (.Call (.Name "enumerate" p) [e] [] pos) (TId (wdOf X) ks fz pa (iterE P rp (.bi .enum as))) := by
  refine PI.imp (pi_enum hg hm ha hs) fun σ H R ⟨O, ρ, ds, ρ', R0, e1, q⟩ => ?_
  unfold iterE at e1
  simp only [ev] at e1
  obtain ⟨⟨d, ρ1⟩, e2, e1⟩ := bind_ok e1
  obtain ⟨⟨es, ρ2⟩, e3, e2⟩ := bind_ok e2
  obtain ⟨d2, e4, e2⟩ := bind_ok e2
  obtain ⟨rfl, rfl⟩ := Prod.mk.inj (pure_inj e2)
  obtain ⟨ds', e5, e1⟩ := bind_ok e1
  obtain ⟨rfl, rfl⟩ := Prod.mk.inj (pure_inj e1)
  match es, e4 with
  | [.lst xs], e4 =>
    obtain rfl := pure_inj e4
    obtain rfl : _ = ds' := pure_inj e5
    refine ⟨O, ρ, _, ρ2, R0, e3, fun vs H' O' pp pr => ?_⟩
    obtain ⟨v, rfl, r⟩ := pr1 pr
    obtain ⟨p0, ys, rfl, l, st, h1⟩ := stays_of h r
    exact ⟨p0, ys, rfl, .inl h1, q _ H' O' pp (it_enum l st)⟩
/-- zip(xs, ys) -/
theorem i_zip {e2 : Expr} {elts : List Expr} {kk : Nat} {tpos : Pos} (hg : Gl X "zip") (hm : X.mg "zip" = none) (ha : PA X [e, e2] (TAd (wdOf X) ks ma pa (evs P rp as))) (h : okIt fz ma = true)
    (hs : starEach [e, e2] X.env = (false, eval e X.env) :: starEach [e2] X.env) (hpl : (starEach [e2] X.env).any (·.1) = false) :
    PI X (.Tuple elts kk tpos) (.Call (.Name "zip" p) [e, e2] [] pos) (TId (wdOf X) ks fz pa (iterE P rp (.bi .zip2 as))) := by
  refine PI.imp (RZ.pi_zipA hg hm ha hs (plainNext _ _ _ hpl)) fun σ H R ⟨O, ρ, ds, ρ', R0, e1, q⟩ => ?_
  unfold iterE at e1
  simp only [ev] at e1
  obtain ⟨⟨d, ρ1⟩, e2, e1⟩ := bind_ok e1
  obtain ⟨⟨es, ρ2⟩, e3, e2⟩ := bind_ok e2
  obtain ⟨d2, e4, e2⟩ := bind_ok e2
  obtain ⟨rfl, rfl⟩ := Prod.mk.inj (pure_inj e2)
  obtain ⟨ds', e5, e1⟩ := bind_ok e1
  obtain ⟨rfl, rfl⟩ := Prod.mk.inj (pure_inj e1)
  match es, e4 with
  | [.lst xs, .lst ys], e4 =>
    obtain rfl := pure_inj e4
    obtain rfl : _ = ds' := pure_inj e5
    refine ⟨O, ρ, _, ρ2, R0, e3, fun vs H' O' pp pr => ?_⟩
    obtain ⟨v, v2, rfl, r, r2⟩ := pr2 pr
    obtain ⟨p0, xs', rfl, l, st, h1⟩ := stays_of h r
    obtain ⟨p1, ys', rfl, l2, st2, h2⟩ := stays_of h r2
    exact ⟨p0, p1, xs', ys', rfl, .inl ⟨.inl h1, .inl h2, q _ H' O' pp (it_zip l l2 st st2)⟩⟩
  | [.tup xs, .tup ys], e4 =>
    obtain rfl := pure_inj e4
    obtain rfl : _ = ds' := pure_inj e5
    refine ⟨O, ρ, _, ρ2, R0, e3, fun vs H' O' pp pr => ?_⟩
    obtain ⟨v, v2, rfl, r, r2⟩ := pr2 pr
    obtain ⟨p0, xs', rfl, h1, l⟩ := lay_tup (show Lay (wdOf X) (ro H' O') v (.tup _) from topOf (okIt_top h) r)
    obtain ⟨p1, ys', rfl, h2, l2⟩ := lay_tup (show Lay (wdOf X) (ro H' O') v2 (.tup _) from topOf (okIt_top h) r2)
    exact ⟨p0, p1, xs', ys', rfl, .inr ⟨.of (ro_le _ _ h1), .of (ro_le _ _ h2), q _ H' O' pp (it_zipT l l2 h1 h2)⟩⟩
/-- list(range(n)) -/
theorem d_listRg1 {e0 : Expr} {p2 pos2 : Pos} {m : Md} (hc : X.calm = true) (h2 : no2 m = true) (hg : Gl X "list") (hm : X.mg "list" = none) (hg2 : Gl X "range") (hm2 : X.mg "range" = none) (ha : PE X e0 (TEd (wdOf X) ks .b pa (ev P rp a)))
    (na : ∀ x : Expr, x = e0 ∨ x = .Call (.Name "range" p2) [e0] [] pos2 → starEach [x] X.env = (false, eval x X.env) :: starEach [] X.env) :
    PE X (.Call (.Name "list" p) [.Call (.Name "range" p2) [e0] [] pos2] [] pos) (TEd (wdOf X) ks m pa (ev P rp (.bi .list [.bi .range1 [a]]))) := by
  refine PE.imp (pe_listRg hc hg hm (prg_1 hg2 hm2 ha (na _ (.inl rfl))) (na _ (.inr rfl))) fun σ H Q ⟨O, ρ, d, ρ', R0, e1, q⟩ => ?_
  simp only [ev, evs] at e1
  obtain ⟨⟨es, ρ2⟩, e3, e2⟩ := bind_ok e1
  obtain ⟨⟨d1, ρ3⟩, e4, e3⟩ := bind_ok e3
  obtain ⟨⟨es2, ρ4⟩, e5, e4⟩ := bind_ok e4
  obtain ⟨⟨d5, ρ5⟩, e6, e5⟩ := bind_ok e5
  obtain ⟨⟨es6, ρ6⟩, e7, e5⟩ := bind_ok e5
  injection e7 with e7
  obtain ⟨rfl, rfl⟩ := Prod.mk.inj e7
  obtain ⟨rfl, rfl⟩ := Prod.mk.inj (pure_inj e5)
  obtain ⟨d7, e8, e4⟩ := bind_ok e4
  obtain ⟨rfl, rfl⟩ := Prod.mk.inj (pure_inj e4)
  obtain ⟨⟨es8, ρ8⟩, e9, e3⟩ := bind_ok e3
  injection e9 with e9
  obtain ⟨rfl, rfl⟩ := Prod.mk.inj e9
  obtain ⟨rfl, rfl⟩ := Prod.mk.inj (pure_inj e3)
  obtain ⟨d9, e10, e2⟩ := bind_ok e2
  obtain ⟨rfl, rfl⟩ := Prod.mk.inj (pure_inj e2)
  match d5, e8, e6, e10 with
  | .int n, e8, e6, e10 =>
  obtain ⟨_, e11, e8⟩ := bind_ok e8
  obtain rfl : _ = d7 := pure_inj e8
  obtain ⟨xs, e12, e10⟩ := bind_ok e10
  obtain rfl : _ = xs := pure_inj e12
  obtain rfl : _ = d9 := pure_inj e10
  have hz := of_decide_eq_true (grd_ok e11)
  refine ⟨O, ρ, .int n, ρ5, R0, e6, fun v H' O' pp r => ?_⟩
  obtain rfl := lay_int (show Lay (wdOf X) H' v (.int n) from r)
  refine ⟨n, rfl, ⟨by omega, by omega, by simp only [line] at hz; omega, by simp only [line] at hz; omega, by simp only [line] at hz; omega⟩, fun a ha => ?_⟩
  have out := Out.post (m := m) (d := .lst (rangeI 0 n)) R0 pp q
  refine out.lst pp.rel.wf ha ?_ (no2_of h2)
  unfold rgV rangeI
  exact LayL.of_map fun i hi => .int _
end
end C

set_option Elab.async false
set_option linter.all false
set_option maxRecDepth 100000
set_option maxHeartbeats 1000000
/-! Sound12: list comprehensions. -/
namespace C
open PySem PySem.Spec PyProof.Rows L2

theorem restE_length (r0 r : Env) : ∀ S : List Nat, (restE r0 r S).length = r.length
  | [] => rfl
  | i :: S => by simp only [restE, List.length_set]; exact restE_length r0 r S
theorem restE_out {r0 r : Env} {i : Nat} : ∀ {S : List Nat}, i ∉ S → (restE r0 r S)[i]? = r[i]?
  | [], _ => rfl
  | v :: S, h => by
    rw [List.mem_cons, not_or] at h
    simp only [restE]
    rw [List.getElem?_set_ne (fun e => h.1 e.symm)]
    exact restE_out h.2
theorem restE_in {r0 r : Env} {i : Nat} : ∀ {S : List Nat}, i ∈ S → i < r.length → (restE r0 r S)[i]? = some (r0[i]?.getD none)
  | v :: S, h, hl => by
    simp only [restE]
    by_cases e : v = i
    · subst e
      exact List.getElem?_set_self (by rw [restE_length]; exact hl)
    · rw [List.getElem?_set_ne e]
      exact restE_in ((List.mem_cons.mp h).resolve_left fun z => e z.symm) hl
section
variable {g : Wd} {ks : List Nat} {H H' : Hp} {O O' : Ow} {σ σ' : L2.St} {r0 r : Env} {S : List Nat}
/-- the block's own names are as before -/
theorem Rel.rest {M : Addr → Prop} (R0 : Rel g ks H O σ r0) (s : Step M H O H' O') (R : Rel g ks H' O' σ' r) (h : Agr S σ' σ) (hk : ∀ i ∈ S, ks.getD i 0 = 0) : Rel g ks H' O' σ (restE r0 r S) := by
  have hl : r.length = σ.length := by rw [R.len, h.1]
  refine ⟨R.wf, by rw [restE_length, hl], fun i d e => ?_, fun i j x d e ne k1 k2 h1 h2 s1 => ?_⟩
  · by_cases m : i ∈ S
    · by_cases hi : i < r.length
      · rw [restE_in m hi] at e
        injection e with e
        cases q : r0[i]? with
        | none => rw [q] at e; cases e
        | some o =>
          rw [q] at e
          have e : o = some d := e
          subst e
          obtain ⟨v, ev, sl⟩ := R0.slot i d q
          refine ⟨v, ev, ?_⟩
          rw [hk i m] at sl ⊢
          exact Lay.le s.le sl
      · rw [List.getElem?_eq_none (by rw [restE_length]; omega)] at e; cases e
    · rw [restE_out m] at e
      rw [← h.2 i m]
      exact R.slot i d e
  · have m1 : i ∉ S := fun m => k1 (hk i m)
    have m2 : j ∉ S := fun m => k2 (hk j m)
    rw [restE_out m1] at h1
    rw [restE_out m2] at h2
    rw [← h.2 i m1] at s1
    rw [← h.2 j m2]
    exact R.apart i j x d e ne k1 k2 h1 h2 s1
theorem Mine.agr {r1 : Env} (h : Agr S σ' σ) (hk : ∀ i ∈ S, ks.getD i 0 = 0) (sx : Sx S r1 r0) {a : Addr} (m : Mine ks σ' r1 a) : Mine ks σ r0 a := by
  obtain ⟨i, d, k, l, s⟩ := m
  have n : i ∉ S := fun z => k (hk i z)
  obtain ⟨e, l'⟩ := sx i d n l
  exact ⟨i, e, k, l', by rw [← h.2 i n]; exact s⟩
end
/-- one turn of a comprehension -/
def lcF (P : Fs) (rp : D → Str) (S : List Nat) (t : Tg) (cs : List E) (e : E) : List D × Env → D → Rs (List D × Env) := fun (acc, r) d => do
  let r ← setT t d (clr r S)
  let (b, r) ← evc P rp cs r
  if b then do let (y, r) ← ev P rp e r; grd (decide (acc.length < line)); return (acc ++ [y], r) else return (acc, r)
theorem lc_rd {g : Wd} {ks : List Nat} {P : Fs} {rp : D → Str} {pi pc pe fz : Bool} {m : Md} {t : Tg} {it : E} {cs : List E} {e : E} {vs : List Nat} {σ : L2.St} {H : Hp} {Q : VK} (hv : ∀ i, i ∈ vs ↔ i ∈ t.slots) (hk : ∀ i ∈ t.slots, ks.getD i 0 = 0)
    (hf : (pc && pe) = false → fz = true) (hm : fits m 1 = true) (h : TEd g ks m (pi && (pc && pe)) (ev P rp (.lc t it cs e)) σ H Q) :
    tLc (TId g ks fz pi (iterE P rp it)) (gD g ks t) (TTd g ks pc (evc P rp cs)) (TEd g ks (.own 0) pe (ev P rp e)) vs σ H Q := by
  obtain ⟨O, ρ, d, ρ', R, e0, q⟩ := h
  simp only [ev] at e0
  obtain ⟨⟨x, r0⟩, e1, e0⟩ := bind_ok e0
  obtain ⟨xs, e2, e0⟩ := bind_ok e0
  obtain ⟨⟨acc, r⟩, e3, e0⟩ := bind_ok e0
  obtain ⟨rfl, rfl⟩ := Prod.mk.inj (pure_inj e0)
  have e3 : foldR (lcF P rp t.slots t cs e) xs ([], r0) = .ok (acc, r) := e3
  refine ⟨O, ρ, xs, r0, R, by unfold iterE; simp only [e1, e2, ok_bind]; rfl, fun J H1 O1 p1 io D hD => ?_⟩
  have R1 := p1.rel
  obtain ⟨sN, wN⟩ := Step.newOwn (M := fun _ => False) (o := .lst []) R1.wf hD
  have noD : ∀ {a}, Mine ks σ r0 a → a ≠ D := fun {a} m z => by
    obtain ⟨_, o, e⟩ := R1.mine m
    rw [z, hD] at e; cases e
  let Mb : Addr → Prop := fun a => ((pc && pe) = false ∧ Mine ks σ r0 a) ∨ a = D
  have agW : Agr t.slots (wipe σ vs) σ := (agr_wipe σ vs).mono fun i h => (hv i).mp h
  let Iv : Nat → Hp → Prop := fun i Hc => ∃ Oc accV accD rc, foldR (lcF P rp t.slots t cs e) (xs.drop i) (accD, rc) = .ok (acc, r) ∧ Step Mb (upd H1 D (.lst [])) (own O1 D D) Hc Oc ∧ Rel g ks Hc Oc (wipe σ vs) (clr rc t.slots) ∧
    Hc D = some (.lst accV) ∧ Oc D = some D ∧ LayL g (ro Hc Oc) accV accD ∧ Sx t.slots rc r0 ∧ rc.length = σ.length
  have whole : ∀ {Hc Oc}, Step Mb (upd H1 D (.lst [])) (own O1 D D) Hc Oc → ∀ {M : Addr → Prop}, (∀ a, ((pc && pe) = false ∧ Mine ks σ r0 a) → M a) → Step M H1 O1 Hc Oc := fun {Hc Oc} s {M} hM =>
    (sN.mono fun _ z => z.elim).trans R1.wf s fun a h => h.imp (hM a) fun z => by rw [z]; exact hD
  refine ⟨fun i n Hc => n = xs.length - i ∧ i ≤ xs.length ∧ Iv i Hc, ⟨xs.length, by simp, Nat.zero_le _, own O1 D D, [], [], r0, by rw [List.drop_zero]; exact e3, Step.refl, ?_, upd_same, own_same, .nil, Sx.refl _ _, R1.len⟩, ?_⟩
  · exact (R1.stay sN wN fun _ z => z.elim).clr agW
  rintro i n Hc ⟨rfl, hi, Oc, accV, accD, rc, ef, s, Rc, hDc, oDc, lA, sx, ln⟩
  have st := io Hc Oc (whole s fun a z => hf z.1) Rc.wf
  by_cases hlt : i < xs.length
  · obtain ⟨go, yl⟩ := st.1 i xs[i] (List.getElem?_eq_getElem hlt)
    rw [List.drop_eq_getElem_cons hlt] at ef
    unfold foldR at ef
    obtain ⟨⟨acc1, r1⟩, ef1, ef⟩ := bind_ok ef
    unfold lcF at ef1
    obtain ⟨ra, ea, ef1⟩ := bind_ok ef1
    obtain ⟨⟨b, rb⟩, eb, ef1⟩ := bind_ok ef1
    refine .inr ⟨go, Iv (i + 1), fun H' p' => ⟨xs.length - (i + 1), by omega, rfl, hlt, p'⟩, fun v H' y => ?_⟩
    obtain ⟨sy, wy, ly⟩ := yl v H' y
    have Ry : Rel g ks H' Oc (wipe σ vs) (clr rc t.slots) := Rc.stay sy wy fun _ z => z.elim
    refine ⟨Oc, clr rc t.slots, xs[i], ra, Ry, ly, ea, fun σ2 R2 ag => ?_⟩
    have ag2 : Agr t.slots σ2 σ := ag.trans agW
    refine ⟨?_, Oc, ra, b, rb, R2, eb, fun H3 O3 p3 => ?_⟩
    · rw [wipe_agr (ag.mono fun i h => (hv i).mpr h)]
      exact wipe_agr (agr_wipe σ vs)
    have sxa : Sx t.slots ra r0 := ((setT_sx t _ _ _ ea).trans (clr_sub _).sx).trans sx
    have sxb : Sx t.slots rb r0 := (evc_sub _ _ _ _ eb).sx.trans sxa
    have m3 : ∀ a, Mn pc ks σ2 ra a → (pc && pe) = false ∧ Mine ks σ r0 a := fun a ⟨z, m⟩ => ⟨by rw [z]; rfl, m.agr ag2 hk sxa⟩
    have nD3 : ¬ Mn pc ks σ2 ra D := fun z => noD (m3 D z).2 rfl
    obtain ⟨oDy, hDy⟩ := sy.fo D D oDc (fun z => z)
    obtain ⟨oD3, hD3⟩ := p3.step.fo D D oDy nD3
    have s3 : Step Mb (upd H1 D (.lst [])) (own O1 D D) H3 O3 := (s.trans wN sy fun _ z => z.elim).trans wN p3.step fun a z => .inl (.inl (m3 a z))
    have ag' : Agr t.slots (wipe σ vs) σ2 := ⟨by rw [wipe_length, ag2.1], fun i n => by rw [agW.2 i n, ag2.2 i n]⟩
    cases b with
    | false =>
      simp only [Bool.false_eq_true, if_false] at ef1 ⊢
      obtain ⟨rfl, rfl⟩ := Prod.mk.inj (pure_inj ef1)
      exact ⟨O3, accV, accD, rb, ef, s3, p3.rel.clr ag', by rw [hD3, hDy]; exact hDc, oD3, (lA.le sy.le).le p3.step.le, sxb, by rw [p3.rel.len, ag2.1]⟩
    | true =>
      simp only [if_true] at ef1 ⊢
      obtain ⟨⟨yd, re⟩, ee, ef1⟩ := bind_ok ef1
      obtain ⟨_, eg, ef1⟩ := bind_ok ef1
      obtain ⟨rfl, rfl⟩ := Prod.mk.inj (pure_inj ef1)
      have hz := of_decide_eq_true (grd_ok eg)
      refine ⟨O3, rb, yd, re, p3.rel, ee, fun w H4 O4 p4 r4 => ?_⟩
      have m4 : ∀ a, Mn pe ks σ2 rb a → (pc && pe) = false ∧ Mine ks σ r0 a := fun a ⟨z, m⟩ => ⟨by rw [z]; simp, m.agr ag2 hk sxb⟩
      have nD4 : ¬ Mn pe ks σ2 rb D := fun z => noD (m4 D z).2 rfl
      obtain ⟨oD4, hD4⟩ := p4.step.fo D D oD3 nD4
      have lA4 : LayL g (ro H4 O4) accV accD := ((lA.le sy.le).le p3.step.le).le p4.step.le
      have s4 : Step Mb (upd H1 D (.lst [])) (own O1 D D) H4 O4 := s3.trans wN p4.step fun a z => .inl (.inl (m4 a z))
      refine ⟨accV, by rw [hD4, hD3, hDy]; exact hDc, by rw [lA4.length, line_eq]; exact hz, ?_⟩
      obtain ⟨s5, w5⟩ := Step.wr (M := fun a => a = D) (o := .lst (accV ++ [w])) p4.rel.wf oD4 rfl
      have sxe : Sx t.slots re r0 := (ev_sub _ _ _ _ ee).sx.trans sxb
      refine ⟨O4, accV ++ [w], accD ++ [yd], re, ef, s4.trans wN s5 fun a z => .inl (.inr z), ?_, upd_same, oD4, (lA4.le s5.le).append (.cons (Lay.le s5.le r4) .nil), sxe, by rw [p4.rel.len, ag2.1]⟩
      exact (p4.rel.stay s5 w5 fun a z m => noD (m.agr ag2 hk sxe) z).clr ag'
  · have en : i = xs.length := by omega
    subst en
    refine .inl ⟨st.2 _ (Nat.le_refl _), ?_⟩
    rw [List.drop_length] at ef
    unfold foldR at ef
    injection ef with ef
    obtain ⟨ea, er⟩ := Prod.mk.inj ef
    have sH1 : Step (fun a => (pc && pe) = false ∧ Mine ks σ r0 a) H1 O1 Hc Oc := whole s fun a z => z
    have sW : Step (Mn (pi && (pc && pe)) ks σ ρ) H O Hc Oc := by
      refine (p1.step.mono (M' := Mn (pi && (pc && pe)) ks σ ρ) fun a ⟨z, m⟩ => ⟨by rw [z]; rfl, m⟩).trans R.wf sH1 fun a z => .inl ⟨by rw [z.1]; simp, z.2.sub p1.sub⟩
    have Rr : Rel g ks Hc Oc σ (restE r0 rc t.slots) := by
      have := Rel.rest R1 sH1 Rc agW hk
      have e : restE r0 (clr rc t.slots) t.slots = restE r0 rc t.slots := by
        apply List.ext_getElem?
        intro j
        by_cases m : j ∈ t.slots
        · by_cases hl : j < rc.length
          · rw [restE_in m (by rw [clr_length]; exact hl), restE_in m hl]
          · rw [List.getElem?_eq_none (by rw [restE_length, clr_length]; omega), List.getElem?_eq_none (by rw [restE_length]; omega)]
        · rw [restE_out m, restE_out m, clr_out m]
      rw [e] at this
      exact this
    have sub : Sub (restE r0 rc t.slots) ρ := (sx_nil (rest_sub _ (T := []) (by rw [List.append_nil]; exact sx))).trans p1.sub
    have P : Post g ks (pi && (pc && pe)) H O σ ρ (restE r0 rc t.slots) Hc Oc := ⟨sW, Rr, sub⟩
    have res : Res g (.own 1) H Hc Oc (.ref D) (.lst accD) := by
      show ResO g 0 H Hc Oc _ _
      unfold ResO
      rw [if_neg (by simp [isTS])]
      exact ⟨⟨D, accV, rfl, hDc, oDc, lA⟩, fun z e => by cases e; exact p1.step.none_of hD⟩
    obtain ⟨O2, P2, r2⟩ := P.give hm R res
    rw [ea] at r2
    rw [er] at P2
    exact q _ Hc O2 P2 r2
/-! ### tests of a clause -/
section
variable {X : Cx} {ks : List Nat} {P : Fs} {rp : D → Str} {pi pc pe fz : Bool} {m : Md} {t : Tg} {it : E} {cs : List E} {e c : E} {x : Expr}
theorem PTs.imp {e : List Expr} {t t' : TT} (h : PTs X e t) (w : ∀ σ H Q, t' σ H Q → t σ H Q) : PTs X e t' := ⟨fun pins s σ H Q I q => h.run pins s σ H Q I (w σ H Q q)⟩
theorem c_nil : PTs X [] (TTd (wdOf X) ks true (evc P rp [])) := by
  refine PTs.imp pts_nil fun σ H Q ⟨O, ρ, b, ρ', R, e, q⟩ => ?_
  unfold evc at e
  injection e with e
  obtain ⟨rfl, rfl⟩ := Prod.mk.inj e
  exact q H O (Post.refl R)
theorem c_one (h : PT X x (TTd (wdOf X) ks pc (evt P rp c))) : PTs X [x] (TTd (wdOf X) ks pc (evc P rp [c])) := by
  refine pts_one (PT.imp h fun σ H Q q => q.eq fun ρ b ρ' e => ?_)
  simp only [evc] at e
  unfold evt
  obtain ⟨⟨d, r⟩, e1, e⟩ := bind_ok e
  obtain ⟨k, e2, e⟩ := bind_ok e
  simp only [e1, e2, ok_bind]
  cases k with
  | true => simpa using e
  | false => simpa using e
end
end C

set_option Elab.async false
set_option linter.all false
set_option maxRecDepth 100000
set_option maxHeartbeats 1000000
/-! Sound13: list comprehensions with two clauses. -/
namespace C
open PySem PySem.Spec PyProof.Rows L2

theorem clr_clr {r : Env} {S T : List Nat} (h : ∀ i ∈ S, i ∈ T) : clr (clr r S) T = clr r T := by
  apply List.ext_getElem?
  intro i
  by_cases m : i ∈ T
  · have key : ∀ (r' : Env), r'.length = r.length → (clr r' T)[i]? = if i < r.length then some none else none := fun r' e => by
      by_cases hl : i < r.length
      · rw [if_pos hl]
        have hl' : i < (clr r' T).length := by rw [clr_length, e]; exact hl
        cases q : (clr r' T)[i]? with
        | none => rw [List.getElem?_eq_none_iff] at q; omega
        | some o =>
          cases o with
          | none => rfl
          | some d => exact absurd m (clr_live q).1
      · rw [if_neg hl, List.getElem?_eq_none (by rw [clr_length, e]; omega)]
    rw [key _ (clr_length _ _), key _ rfl]
  · rw [clr_out m, clr_out m, clr_out fun z => m (h i z)]
def lc2F (P : Fs) (rp : D → Str) (t : Tg) (cs : List E) (t2 : Tg) (it2 : E) (cs2 : List E) (e : E) : List D × Env → D → Rs (List D × Env) := fun (acc, r) d => do
  let r ← setT t d (clr r (t.slots ++ t2.slots))
  let (b, r) ← evc P rp cs r
  if b then do
    let (x2, r) ← ev P rp it2 r; let ys ← items x2
    foldR (lcF P rp t2.slots t2 cs2 e) ys (acc, r)
  else return (acc, r)
theorem lc2_rd {g : Wd} {ks : List Nat} {P : Fs} {rp : D → Str} {pi pc pj pd pe fz : Bool} {m : Md} {t t2 : Tg} {it it2 : E} {cs cs2 : List E} {e : E} {vs vs1 : List Nat} {σ : L2.St} {H : Hp} {Q : VK} (hv : ∀ i, i ∈ vs ↔ i ∈ t.slots ++ t2.slots) (hv1 : ∀ i, i ∈ vs1 ↔ i ∈ t2.slots)
    (hk : ∀ i ∈ t.slots ++ t2.slots, ks.getD i 0 = 0) (hf : (pc && (pj && (pd && pe))) = false → fz = true) (hm : fits m 1 = true) (h : TEd g ks m (pi && (pc && (pj && (pd && pe)))) (ev P rp (.lc2 t it cs t2 it2 cs2 e)) σ H Q) :
    tLc2 (TId g ks fz pi (iterE P rp it)) (gD g ks t) (TTd g ks pc (evc P rp cs)) (TId g ks true pj (iterE P rp it2)) (gD g ks t2) (TTd g ks pd (evc P rp cs2)) (TEd g ks (.own 0) pe (ev P rp e)) vs vs1 σ H Q := by
  obtain ⟨O, ρ, d, ρ', R, e0, q⟩ := h
  simp only [ev] at e0
  obtain ⟨⟨x, r0⟩, e1, e0⟩ := bind_ok e0
  obtain ⟨xs, e2, e0⟩ := bind_ok e0
  obtain ⟨⟨acc, r⟩, e3, e0⟩ := bind_ok e0
  obtain ⟨rfl, rfl⟩ := Prod.mk.inj (pure_inj e0)
  replace e3 : foldR (lc2F P rp t cs t2 it2 cs2 e) xs ([], r0) = .ok (acc, r) := e3
  refine ⟨O, ρ, xs, r0, R, by unfold iterE; simp only [e1, e2, ok_bind]; rfl, fun J H1 O1 p1 io D hD => ?_⟩
  have R1 := p1.rel
  obtain ⟨sN, wN⟩ := Step.newOwn (M := fun _ => False) (o := .lst []) R1.wf hD
  generalize eS : t.slots ++ t2.slots = S at *
  have S1 : ∀ i ∈ t.slots, i ∈ S := fun i h => by rw [← eS]; exact List.mem_append_left _ h
  have S2 : ∀ i ∈ t2.slots, i ∈ S := fun i h => by rw [← eS]; exact List.mem_append_right _ h
  have noD : ∀ {a}, Mine ks σ r0 a → a ≠ D := fun {a} m z => by
    obtain ⟨_, o, e⟩ := R1.mine m
    rw [z, hD] at e; cases e
  let pb := pc && (pj && (pd && pe))
  let Mb : Addr → Prop := fun a => (pb = false ∧ Mine ks σ r0 a) ∨ a = D
  have agW : Agr S (wipe σ vs) σ := (agr_wipe σ vs).mono fun i h => (hv i).mp h
  let Iv : Nat → Hp → Prop := fun i Hc => ∃ Oc accV accD rc, foldR (lc2F P rp t cs t2 it2 cs2 e) (xs.drop i) (accD, rc) = .ok (acc, r) ∧ Step Mb (upd H1 D (.lst [])) (own O1 D D) Hc Oc ∧ Rel g ks Hc Oc (wipe σ vs) (clr rc S) ∧
    Hc D = some (.lst accV) ∧ Oc D = some D ∧ LayL g (ro Hc Oc) accV accD ∧ Sx S rc r0 ∧ rc.length = σ.length
  have whole : ∀ {Hc Oc}, Step Mb (upd H1 D (.lst [])) (own O1 D D) Hc Oc → ∀ {M : Addr → Prop}, (∀ a, (pb = false ∧ Mine ks σ r0 a) → M a) → Step M H1 O1 Hc Oc := fun {Hc Oc} s {M} hM =>
    (sN.mono fun _ z => z.elim).trans R1.wf s fun a h => h.imp (hM a) fun z => by rw [z]; exact hD
  refine ⟨fun i n Hc => n = xs.length - i ∧ i ≤ xs.length ∧ Iv i Hc, ⟨xs.length, by simp, Nat.zero_le _, own O1 D D, [], [], r0, by rw [List.drop_zero]; exact e3, Step.refl, ?_, upd_same, own_same, .nil, Sx.refl _ _, R1.len⟩, ?_⟩
  · exact (R1.stay sN wN fun _ z => z.elim).clr agW
  rintro i n Hc ⟨rfl, hi, Oc, accV, accD, rc, ef, s, Rc, hDc, oDc, lA, sx, ln⟩
  have st := io Hc Oc (whole s fun a z => hf z.1) Rc.wf
  by_cases hlt : i < xs.length
  · obtain ⟨go, yl⟩ := st.1 i xs[i] (List.getElem?_eq_getElem hlt)
    rw [List.drop_eq_getElem_cons hlt] at ef
    unfold foldR at ef
    obtain ⟨⟨acc1, r1⟩, ef1, ef⟩ := bind_ok ef
    unfold lc2F at ef1
    rw [eS] at ef1
    obtain ⟨ra, ea, ef1⟩ := bind_ok ef1
    obtain ⟨⟨b, rb⟩, eb, ef1⟩ := bind_ok ef1
    refine .inr ⟨go, Iv (i + 1), fun H' p' => ⟨xs.length - (i + 1), by omega, rfl, hlt, p'⟩, fun v H' y => ?_⟩
    obtain ⟨sy, wy, ly⟩ := yl v H' y
    have Ry : Rel g ks H' Oc (wipe σ vs) (clr rc S) := Rc.stay sy wy fun _ z => z.elim
    refine ⟨Oc, clr rc S, xs[i], ra, Ry, ly, ea, fun σ2 R2 ag => ?_⟩
    have ag2 : Agr S σ2 σ := (ag.mono S1).trans agW
    refine ⟨?_, Oc, ra, b, rb, R2, eb, fun H3 O3 p3 => ?_⟩
    · rw [wipe_agr (ag.mono fun i h => (hv i).mpr (S1 i h))]
      exact wipe_agr (agr_wipe σ vs)
    have sxa : Sx S ra r0 := (((setT_sx t _ _ _ ea).mono S1).trans (clr_sub _).sx).trans sx
    have sxb : Sx S rb r0 := (evc_sub _ _ _ _ eb).sx.trans sxa
    have m3 : ∀ a, Mn pc ks σ2 ra a → pb = false ∧ Mine ks σ r0 a := fun a ⟨z, m⟩ => ⟨by show (pc && _) = false; rw [z]; rfl, m.agr ag2 hk sxa⟩
    have nD3 : ¬ Mn pc ks σ2 ra D := fun z => noD (m3 D z).2 rfl
    obtain ⟨oDy, hDy⟩ := sy.fo D D oDc (fun z => z)
    obtain ⟨oD3, hD3⟩ := p3.step.fo D D oDy nD3
    have s3 : Step Mb (upd H1 D (.lst [])) (own O1 D D) H3 O3 := (s.trans wN sy fun _ z => z.elim).trans wN p3.step fun a z => .inl (.inl (m3 a z))
    have ag' : Agr S (wipe σ vs) σ2 := ⟨by rw [wipe_length, ag2.1], fun i n => by rw [agW.2 i n, ag2.2 i n]⟩
    cases b with
    | false =>
      simp only [Bool.false_eq_true, if_false] at ef1 ⊢
      obtain ⟨rfl, rfl⟩ := Prod.mk.inj (pure_inj ef1)
      exact ⟨O3, accV, accD, rb, ef, s3, p3.rel.clr ag', by rw [hD3, hDy]; exact hDc, oD3, (lA.le sy.le).le p3.step.le, sxb, by rw [p3.rel.len, ag2.1]⟩
    | true =>
      simp only [if_true] at ef1 ⊢
      obtain ⟨⟨x2, rj⟩, ej, ef1⟩ := bind_ok ef1
      obtain ⟨ys, ey, ef1⟩ := bind_ok ef1
      refine ⟨O3, rb, ys, rj, p3.rel, by unfold iterE; simp only [ej, ey, ok_bind]; rfl, fun J1 H4 O4 p4 io1 => ?_⟩
      have m4 : ∀ a, Mn pj ks σ2 rb a → pb = false ∧ Mine ks σ r0 a := fun a ⟨z, m⟩ => ⟨by show (pc && (pj && _)) = false; rw [z]; simp, m.agr ag2 hk sxb⟩
      have nD4 : ¬ Mn pj ks σ2 rb D := fun z => noD (m4 D z).2 rfl
      obtain ⟨oD4, hD4⟩ := p4.step.fo D D oD3 nD4
      have s4 : Step Mb (upd H1 D (.lst [])) (own O1 D D) H4 O4 := s3.trans wN p4.step fun a z => .inl (.inl (m4 a z))
      have sxj : Sx S rj r0 := (ev_sub _ _ _ _ ej).sx.trans sxb
      have agV : Agr t2.slots (wipe σ2 vs1) σ2 := (agr_wipe σ2 vs1).mono fun i h => (hv1 i).mp h
      -- the inner loop
      let Iv1 : Nat → Hp → Prop := fun j Hd => ∃ Od aV aD rd, foldR (lcF P rp t2.slots t2 cs2 e) (ys.drop j) (aD, rd) = .ok (acc1, r1) ∧ Step Mb (upd H1 D (.lst [])) (own O1 D D) Hd Od ∧ Step (fun _ => True) H4 O4 Hd Od ∧ Rel g ks Hd Od (wipe σ2 vs1) (clr rd t2.slots) ∧
        Hd D = some (.lst aV) ∧ Od D = some D ∧ LayL g (ro Hd Od) aV aD ∧ Sx S rd r0 ∧ rd.length = σ.length
      refine ⟨fun j n Hd => n = ys.length - j ∧ j ≤ ys.length ∧ Iv1 j Hd, ⟨ys.length, by simp, Nat.zero_le _, O4, accV, accD, rj, by rw [List.drop_zero]; exact ef1, s4, Step.refl, p4.rel.clr agV, by rw [hD4, hD3, hDy]; exact hDc, oD4, ((lA.le sy.le).le p3.step.le).le p4.step.le, sxj, by rw [p4.rel.len, ag2.1]⟩, ?_⟩
      rintro j n Hd ⟨rfl, hj, Od, aV, aD, rd, eg, sd, sd4, Rd', hDd, oDd, lD, sxd, lnd⟩
      have st1 := io1 Hd Od (sd4.mono fun _ _ => rfl) Rd'.wf
      by_cases hlj : j < ys.length
      · obtain ⟨go1, yl1⟩ := st1.1 j ys[j] (List.getElem?_eq_getElem hlj)
        rw [List.drop_eq_getElem_cons hlj] at eg
        unfold foldR at eg
        obtain ⟨⟨acc2, r2⟩, eg1, eg⟩ := bind_ok eg
        unfold lcF at eg1
        obtain ⟨rs, es, eg1⟩ := bind_ok eg1
        obtain ⟨⟨b1, rt⟩, et, eg1⟩ := bind_ok eg1
        refine .inr ⟨go1, Iv1 (j + 1), fun H' p' => ⟨ys.length - (j + 1), by omega, rfl, hlj, p'⟩, fun v1 H5 y1 => ?_⟩
        obtain ⟨sy1, wy1, ly1⟩ := yl1 v1 H5 y1
        have Ry1 : Rel g ks H5 Od (wipe σ2 vs1) (clr rd t2.slots) := Rd'.stay sy1 wy1 fun _ z => z.elim
        refine ⟨Od, clr rd t2.slots, ys[j], rs, Ry1, ly1, es, fun σ3 R3 ag3 => ?_⟩
        have ag32 : Agr t2.slots σ3 σ2 := ag3.trans agV
        have ag30 : Agr S σ3 σ := (ag32.mono S2).trans ag2
        refine ⟨?_, Od, rs, b1, rt, R3, et, fun H6 O6 p6 => ?_⟩
        · rw [wipe_agr (ag3.mono fun i h => (hv1 i).mpr h)]
          exact wipe_agr (agr_wipe σ2 vs1)
        have sxs : Sx S rs r0 := (((setT_sx t2 _ _ _ es).mono S2).trans (clr_sub _).sx).trans sxd
        have sxt : Sx S rt r0 := (evc_sub _ _ _ _ et).sx.trans sxs
        have m6 : ∀ a, Mn pd ks σ3 rs a → pb = false ∧ Mine ks σ r0 a := fun a ⟨z, m⟩ => ⟨by show (pc && (pj && (pd && _))) = false; rw [z]; simp, m.agr ag30 hk sxs⟩
        have nD6 : ¬ Mn pd ks σ3 rs D := fun z => noD (m6 D z).2 rfl
        obtain ⟨oD5, hD5⟩ := sy1.fo D D oDd (fun z => z)
        obtain ⟨oD6, hD6⟩ := p6.step.fo D D oD5 nD6
        have s6 : Step Mb (upd H1 D (.lst [])) (own O1 D D) H6 O6 := (sd.trans wN sy1 fun _ z => z.elim).trans wN p6.step fun a z => .inl (.inl (m6 a z))
        have s64 : Step (fun _ => True) H4 O4 H6 O6 := (sd4.trans p4.rel.wf sy1 fun _ z => z.elim).trans p4.rel.wf p6.step fun a z => .inl True.intro
        have agV' : Agr t2.slots (wipe σ2 vs1) σ3 := ⟨by rw [wipe_length, ag32.1], fun i n => by rw [agV.2 i n, ag32.2 i n]⟩
        cases b1 with
        | false =>
          simp only [Bool.false_eq_true, if_false] at eg1 ⊢
          obtain ⟨rfl, rfl⟩ := Prod.mk.inj (pure_inj eg1)
          exact ⟨O6, aV, aD, rt, eg, s6, s64, p6.rel.clr agV', by rw [hD6, hD5]; exact hDd, oD6, (lD.le sy1.le).le p6.step.le, sxt, by rw [p6.rel.len, ag30.1]⟩
        | true =>
          simp only [if_true] at eg1 ⊢
          obtain ⟨⟨yd, re⟩, ee, eg1⟩ := bind_ok eg1
          obtain ⟨_, eg2, eg1⟩ := bind_ok eg1
          obtain ⟨rfl, rfl⟩ := Prod.mk.inj (pure_inj eg1)
          have hz := of_decide_eq_true (grd_ok eg2)
          refine ⟨O6, rt, yd, re, p6.rel, ee, fun w H7 O7 p7 r7 => ?_⟩
          have m7 : ∀ a, Mn pe ks σ3 rt a → pb = false ∧ Mine ks σ r0 a := fun a ⟨z, m⟩ => ⟨by show (pc && (pj && (pd && pe))) = false; rw [z]; simp, m.agr ag30 hk sxt⟩
          have nD7 : ¬ Mn pe ks σ3 rt D := fun z => noD (m7 D z).2 rfl
          obtain ⟨oD7, hD7⟩ := p7.step.fo D D oD6 nD7
          have lA7 : LayL g (ro H7 O7) aV aD := ((lD.le sy1.le).le p6.step.le).le p7.step.le
          have s7 : Step Mb (upd H1 D (.lst [])) (own O1 D D) H7 O7 := s6.trans wN p7.step fun a z => .inl (.inl (m7 a z))
          have s74 : Step (fun _ => True) H4 O4 H7 O7 := s64.trans p4.rel.wf p7.step fun a z => .inl True.intro
          refine ⟨aV, by rw [hD7, hD6, hD5]; exact hDd, by rw [lA7.length, line_eq]; exact hz, ?_⟩
          obtain ⟨s8, w8⟩ := Step.wr (M := fun a => a = D) (o := .lst (aV ++ [w])) p7.rel.wf oD7 rfl
          have sxe : Sx S re r0 := (ev_sub _ _ _ _ ee).sx.trans sxt
          refine ⟨O7, aV ++ [w], aD ++ [yd], re, eg, s7.trans wN s8 fun a z => .inl (.inr z), s74.trans p4.rel.wf s8 fun a z => .inl True.intro, ?_, upd_same, oD7, (lA7.le s8.le).append (.cons (Lay.le s8.le r7) .nil), sxe, by rw [p7.rel.len, ag30.1]⟩
          exact (p7.rel.stay s8 w8 fun a z m => noD (m.agr ag30 hk sxe) z).clr agV'
      · have en : j = ys.length := by omega
        subst en
        refine .inl ⟨st1.2 _ (Nat.le_refl _), ?_⟩
        rw [List.drop_length] at eg
        unfold foldR at eg
        injection eg with eg
        obtain ⟨ea', er'⟩ := Prod.mk.inj eg
        rw [← ea', ← er'] at ef
        refine ⟨Od, aV, aD, rd, ef, sd, ?_, hDd, oDd, lD, sxd, lnd⟩
        have ag9 : Agr S (wipe σ vs) (wipe σ2 vs1) := ⟨by rw [wipe_length, wipe_length, ag2.1], fun i n => by rw [agW.2 i n, agV.2 i fun z => n (S2 i z), ag2.2 i n]⟩
        have := Rd'.clr ag9
        rw [clr_clr S2] at this
        exact this
  · have en : i = xs.length := by omega
    subst en
    refine .inl ⟨st.2 _ (Nat.le_refl _), ?_⟩
    rw [List.drop_length] at ef
    unfold foldR at ef
    injection ef with ef
    obtain ⟨ea, er⟩ := Prod.mk.inj ef
    have sH1 : Step (fun a => pb = false ∧ Mine ks σ r0 a) H1 O1 Hc Oc := whole s fun a z => z
    have sW : Step (Mn (pi && pb) ks σ ρ) H O Hc Oc := by
      refine (p1.step.mono (M' := Mn (pi && pb) ks σ ρ) fun a ⟨z, m⟩ => ⟨by rw [z]; rfl, m⟩).trans R.wf sH1 fun a z => .inl ⟨by rw [z.1]; simp, z.2.sub p1.sub⟩
    have Rr : Rel g ks Hc Oc σ (restE r0 rc S) := by
      have := Rel.rest R1 sH1 Rc agW hk
      have e : restE r0 (clr rc S) S = restE r0 rc S := by
        apply List.ext_getElem?
        intro j
        by_cases m : j ∈ S
        · by_cases hl : j < rc.length
          · rw [restE_in m (by rw [clr_length]; exact hl), restE_in m hl]
          · rw [List.getElem?_eq_none (by rw [restE_length, clr_length]; omega), List.getElem?_eq_none (by rw [restE_length]; omega)]
        · rw [restE_out m, restE_out m, clr_out m]
      rw [e] at this
      exact this
    have sub : Sub (restE r0 rc S) ρ := (sx_nil (rest_sub _ (T := []) (by rw [List.append_nil]; exact sx))).trans p1.sub
    have P : Post g ks (pi && pb) H O σ ρ (restE r0 rc S) Hc Oc := ⟨sW, Rr, sub⟩
    have res : Res g (.own 1) H Hc Oc (.ref D) (.lst accD) := by
      show ResO g 0 H Hc Oc _ _
      unfold ResO
      rw [if_neg (by simp [isTS])]
      exact ⟨⟨D, accV, rfl, hDc, oDc, lA⟩, fun z e => by cases e; exact p1.step.none_of hD⟩
    obtain ⟨O2, P2, r2⟩ := P.give hm R res
    rw [ea] at r2
    rw [er] at P2
    exact q _ Hc O2 P2 r2
end C

set_option Elab.async false
set_option linter.all false
set_option maxRecDepth 100000
set_option maxHeartbeats 1000000
/-! Sound14: statements. -/
namespace C
open PySem PySem.Spec PyProof.Rows L2

/-- where a def begins -/
structure Base where
  σ0 : L2.St
  H0 : Hp
  O0 : Ow
  ρ0 : Env
  np : Nat
  K : Hp → Ow → Prop
structure RelS (g : Wd) (ks : List Nat) (B : Base) (H : Hp) (O : Ow) (σ : L2.St) (ρ : Env) : Prop where
  rel : Rel g ks H O σ ρ
  step : Step (Mine ks B.σ0 B.ρ0) B.H0 B.O0 H O
  roots : ∀ a, Mine ks σ ρ a → Mine ks B.σ0 B.ρ0 a ∨ B.H0 a = none
  ios : ∀ i, i < B.np → ks.getD i 0 ≠ 0 → σ[i]? = B.σ0[i]?
  kp : B.K H O
structure Base.Ok (B : Base) : Prop where
  wf : WF B.H0 B.O0
  par : ∀ (j : Nat) d, B.ρ0[j]? = some (some d) → j < B.np
  cl : ∀ {M H O H' O'}, WF H O → B.K H O → Step M H O H' O' → B.K H' O'
/-- the changed parameters have a value -/
def ioLive (ks : List Nat) (np : Nat) (ρ : Env) : Prop := ∀ i, i < np → ks.getD i 0 ≠ 0 → ∃ d, ρ[i]? = some (some d)
def FlOk (g : Wd) (ks : List Nat) (B : Base) (ret : Nat) (D : Ends) : Fl → Prop
  | .nx ρ => ∀ σ H O, RelS g ks B H O σ ρ → D.nx σ H
  | .bk ρ => ∀ σ H O, RelS g ks B H O σ ρ → D.bk σ H
  | .ct ρ => ∀ σ H O, RelS g ks B H O σ ρ → D.ct σ H
  | .ret d ρ => ∀ v σ H O, RelS g ks B H O σ ρ → Res g (.own ret) B.H0 H O v d → D.rt v H
def LiveF (ks : List Nat) (np : Nat) : Fl → Prop
  | .ret _ ρ => ioLive ks np ρ
  | _ => True
def TSd (g : Wd) (ks : List Nat) (B : Base) (ret : Nat) (f : Env → Rs Fl) : TS := fun D σ H => ∃ O ρ fl, RelS g ks B H O σ ρ ∧ f ρ = .ok fl ∧ LiveF ks B.np fl ∧ FlOk g ks B ret D fl
section
variable {g : Wd} {ks : List Nat} {B : Base} {H H' : Hp} {O O' : Ow} {σ σ' : L2.St} {ρ ρ' : Env} {pu : Bool} {ret : Nat}
theorem RelS.post (bo : B.Ok) (R : RelS g ks B H O σ ρ) (p : Post g ks pu H O σ ρ ρ' H' O') : RelS g ks B H' O' σ ρ' :=
  ⟨p.rel, R.step.trans bo.wf p.step fun a m => R.roots a m.2, fun a m => R.roots a (m.sub p.sub), R.ios, bo.cl R.rel.wf R.kp p.step⟩
/-- a name's new value, given to all -/
theorem RelS.set0 (R : RelS g ks B H O σ ρ) {i : Nat} {v : V} {d : D} (hk : ks.getD i 0 = 0) (l : Lay g (ro H O) v d) : RelS g ks B H O (σ.set i (some v)) (ρ.set i (some d)) := by
  refine ⟨R.rel.set0 hk l, R.step, fun a ⟨j, e, k, h1, h2⟩ => ?_, fun j hj k => ?_, R.kp⟩
  · have z : i ≠ j := fun z => k (z ▸ hk)
    rw [List.getElem?_set_ne z] at h1 h2
    exact R.roots a ⟨j, e, k, h1, h2⟩
  · have z : i ≠ j := fun z => k (z ▸ hk)
    rw [List.getElem?_set_ne z]
    exact R.ios j hj k
/-- a name's new value of its own -/
theorem RelS.setK (R : RelS g ks B H O σ ρ) {i : Nat} {v : V} {d : D} {Hs : Hp} (hi : B.np ≤ i) (l : Slot g H O (ks.getD i 0) v d) (fr : ∀ r, v = V.ref r → Hs r = none) (old : ∀ a, Mine ks σ ρ a → ∃ o, Hs a = some o) (h0 : ∀ a, Hs a = none → B.H0 a = none) :
    RelS g ks B H O (σ.set i (some v)) (ρ.set i (some d)) := by
  have mine : ∀ a, Mine ks (σ.set i (some v)) (ρ.set i (some d)) a → Mine ks σ ρ a ∨ v = .ref a := fun a ⟨j, e, k, h1, h2⟩ => by
    by_cases z : i = j
    · subst z
      by_cases hl : i < σ.length
      · rw [List.getElem?_set_self hl] at h2; cases h2; exact .inr rfl
      · rw [List.getElem?_eq_none (by simpa using hl)] at h2; cases h2
    · rw [List.getElem?_set_ne z] at h1 h2
      exact .inl ⟨j, e, k, h1, h2⟩
  refine ⟨⟨R.rel.wf, by rw [List.length_set, List.length_set]; exact R.rel.len, fun j e hj => ?_, fun j1 j2 r e1 e2 ne k1 k2 h1 h2 s1 s2 => ?_⟩, R.step, fun a m => ?_, fun j hj k => ?_, R.kp⟩
  · by_cases z : i = j
    · subst z
      by_cases hl : i < ρ.length
      · rw [List.getElem?_set_self hl] at hj
        cases hj
        exact ⟨v, List.getElem?_set_self (by rw [← R.rel.len]; exact hl), l⟩
      · rw [List.getElem?_eq_none (by simpa using hl)] at hj; cases hj
    · rw [List.getElem?_set_ne z] at hj ⊢
      exact R.rel.slot j e hj
  · by_cases z1 : i = j1
    · subst z1
      rw [List.getElem?_set_ne ne] at h2 s2
      by_cases hl : i < σ.length
      · rw [List.getElem?_set_self hl] at s1
        cases s1
        obtain ⟨o, e⟩ := old r ⟨j2, e2, k2, h2, s2⟩
        rw [fr r rfl] at e; cases e
      · rw [List.getElem?_eq_none (by simpa using hl)] at s1; cases s1
    · rw [List.getElem?_set_ne z1] at h1 s1
      by_cases z2 : i = j2
      · subst z2
        by_cases hl : i < σ.length
        · rw [List.getElem?_set_self hl] at s2
          cases s2
          obtain ⟨o, e⟩ := old r ⟨j1, e1, k1, h1, s1⟩
          rw [fr r rfl] at e; cases e
        · rw [List.getElem?_eq_none (by simpa using hl)] at s2; cases s2
      · rw [List.getElem?_set_ne z2] at h2 s2
        exact R.rel.apart j1 j2 r e1 e2 ne k1 k2 h1 h2 s1 s2
  · rcases mine a m with m | e
    · exact R.roots a m
    · exact .inr (h0 a (fr a e))
  · have z : i ≠ j := fun z => by omega
    rw [List.getElem?_set_ne z]
    exact R.ios j hj k
theorem Res.base {m : Md} (R : RelS g ks B H O σ ρ) {H2 : Hp} {O2 : Ow} {v : V} {d : D} (h : Res g m H H2 O2 v d) : Res g m B.H0 H2 O2 v d := h.early R.step
end

section
variable {X : Cx} {ks : List Nat} {P : Fs} {rp : D → Str} {B : Base} {ret n : Nat} {m : Md} {pa pb : Bool} {c e : E} {x y : Expr} {pos : Pos} {s : S} {ss bs as : List S} {st0 : Stmt} {rest body other : List Stmt}
theorem s_nil : PSs X [] (TSd (wdOf X) ks B ret (sts P rp n [])) := by
  refine PSs.imp pss_nil fun D σ H ⟨O, ρ, fl, R, e, lv, f⟩ => ?_
  simp only [sts] at e
  injection e with e
  subst e
  exact f σ H O R
theorem s_cons (h1 : PS X st0 (TSd (wdOf X) ks B ret (st P rp n s))) (h2 : PSs X rest (TSd (wdOf X) ks B ret (sts P rp n ss))) : PSs X (st0 :: rest) (TSd (wdOf X) ks B ret (sts P rp n (s :: ss))) := by
  refine PSs.imp (pss_cons h1 h2) fun D σ H ⟨O, ρ, fl, R, e, lv, f⟩ => ?_
  simp only [sts] at e
  obtain ⟨f1, e1, e⟩ := bind_ok e
  refine ⟨O, ρ, f1, R, e1, ?_, ?_⟩
  · cases f1 with
    | ret d r => obtain rfl := pure_inj e; exact lv
    | _ => exact True.intro
  · cases f1 with
    | nx r => exact fun σ1 H1 O1 R1 => ⟨O1, r, fl, R1, e, lv, f⟩
    | ret d r => obtain rfl := pure_inj e; exact f
    | bk r => obtain rfl := pure_inj e; exact f
    | ct r => obtain rfl := pure_inj e; exact f
theorem s_pass : PS X (.Pass pos) (TSd (wdOf X) ks B ret (st P rp n .pass)) := by
  refine PS.imp ps_pass fun D σ H ⟨O, ρ, fl, R, e, lv, f⟩ => ?_
  simp only [st] at e
  injection e with e
  subst e
  exact f σ H O R
theorem s_brk : PS X (.Break pos) (TSd (wdOf X) ks B ret (st P rp n .brk)) := by
  refine PS.imp ps_break fun D σ H ⟨O, ρ, fl, R, e, lv, f⟩ => ?_
  simp only [st] at e
  injection e with e
  subst e
  exact f σ H O R
theorem s_cont : PS X (.Continue pos) (TSd (wdOf X) ks B ret (st P rp n .cont)) := by
  refine PS.imp ps_continue fun D σ H ⟨O, ρ, fl, R, e, lv, f⟩ => ?_
  simp only [st] at e
  injection e with e
  subst e
  exact f σ H O R
theorem s_ret (bo : B.Ok) (h : PE X x (TEd (wdOf X) ks (.own ret) pa (ev P rp e))) : PS X (.Return (some x) pos) (TSd (wdOf X) ks B ret (st P rp n (.ret e))) := by
  refine PS.imp (ps_ret h) fun D σ H ⟨O, ρ, fl, R, e, lv, f⟩ => ?_
  simp only [st] at e
  obtain ⟨⟨d, r⟩, e1, e⟩ := bind_ok e
  obtain rfl := pure_inj e
  exact ⟨O, ρ, d, r, R.rel, e1, fun v H' O' p q => f v σ H' O' (R.post bo p) (q.base R)⟩
theorem s_retN : PS X (.Return none pos) (TSd (wdOf X) ks B ret (st P rp n .retN)) := by
  refine PS.imp ps_retN fun D σ H ⟨O, ρ, fl, R, e, lv, f⟩ => ?_
  simp only [st] at e
  injection e with e
  subst e
  exact f .non σ H O R (Res.at_ (H := H) .non rfl)
/-- a list of one's own is returned -/
theorem s_retMv {i : Nat} {nm : Str} (hN : X.N[i]? = some nm) (hv : Vis X.env.scope nm) (hd : (nm == ("__debug__" : Str)) = false) (hcd : (nm == ("__classdict__" : Str)) = false) (hi : B.np ≤ i) (hk : ks.getD i 0 = ret) (hr : ret ≠ 0) (bo : B.Ok) {pos2 : Pos} :
    PS X (.Return (some (.Name nm pos)) pos2) (TSd (wdOf X) ks B ret (st P rp n (.ret (.mv i)))) := by
  refine PS.imp (ps_ret (pe_var hN hv hd hcd)) fun D σ H ⟨O, ρ, fl, R, e, lv, f⟩ => ?_
  simp only [st, ev] at e
  obtain ⟨⟨d, r⟩, e1, e⟩ := bind_ok e
  obtain ⟨d1, e2, e1⟩ := bind_ok e1
  obtain ⟨rfl, rfl⟩ := Prod.mk.inj (pure_inj e1)
  obtain rfl := pure_inj e
  have live := rd_ok e2
  obtain ⟨v, es, sl⟩ := R.rel.slot i d1 live
  have sub : Sub (ρ.set i none) ρ := sub_none
  refine ⟨v, es, f v σ H O ⟨⟨R.rel.wf, by rw [List.length_set]; exact R.rel.len, fun j e hj => ?_, fun j1 j2 a e1 e2 ne k1 k2 h1 h2 s1 => ?_⟩, R.step, fun a m => R.roots a (m.sub sub), R.ios, R.kp⟩ ?_⟩
  · have z : i ≠ j := fun z => by
      subst z
      by_cases hl : i < ρ.length
      · rw [List.getElem?_set_self hl] at hj; cases hj
      · rw [List.getElem?_eq_none (by simpa using hl)] at hj; cases hj
    rw [List.getElem?_set_ne z] at hj
    exact R.rel.slot j e hj
  · obtain ⟨a1, h1'⟩ := sub j1 e1 h1
    obtain ⟨a2, h2'⟩ := sub j2 e2 h2
    exact R.rel.apart j1 j2 a a1 a2 ne k1 k2 h1' h2' s1
  · obtain ⟨k, rfl⟩ : ∃ k, ret = k + 1 := ⟨ret - 1, by omega⟩
    rw [hk] at sl
    show ResO (wdOf X) k B.H0 H O v d1
    unfold ResO
    have nts : ¬ isTS d1 = true := fun ts => by
      cases d1 <;> first | (cases ts; done) | skip
      all_goals (match k, sl with
        | 0, sl => (exact absurd (show atom _ = true ∧ _ from sl).1 (by simp [atom]))
        | k + 1, sl => (exact absurd (show atom _ = true ∧ _ from sl).1 (by simp [atom])))
    rw [if_neg nts]
    refine ⟨sl, fun a ea => ?_⟩
    subst ea
    rcases R.roots a ⟨i, d1, by omega, live, es⟩ with ⟨j, e, kj, hj, sj⟩ | z
    · exfalso
      have hjn := bo.par j e hj
      have hs := R.ios j hjn kj
      rw [sj] at hs
      obtain ⟨dj, lj⟩ := lv j hjn kj
      obtain ⟨dj', lj'⟩ := sub j dj lj
      exact R.rel.apart i j a d1 dj' (by omega) (by omega) kj live lj' es hs
    · exact z
theorem s_expr (bo : B.Ok) (h : PE X x (TEd (wdOf X) ks m pa (ev P rp e))) (hs : swapsWith x none pos.line X.env = pure false) : PS X (.Expr x pos) (TSd (wdOf X) ks B ret (st P rp n (.expr e))) := by
  refine PS.imp (ps_expr h hs) fun D σ H ⟨O, ρ, fl, R, e, lv, f⟩ => ?_
  simp only [st] at e
  obtain ⟨⟨d, r⟩, e1, e⟩ := bind_ok e
  obtain rfl := pure_inj e
  exact ⟨O, ρ, d, r, R.rel, e1, fun v H' O' p q => f σ H' O' (R.post bo p)⟩
theorem s_doc {z j p1 p2} (h : PSs X rest (TSd (wdOf X) ks B ret (sts P rp n ss))) : PSs X (.Expr (.Constant (.str z) j p1) p2 :: rest) (TSd (wdOf X) ks B ret (sts P rp n ss)) := pss_cons ps_doc h
theorem s_ite (bo : B.Ok) (hc : PT X x (TTd (wdOf X) ks pa (evt P rp c))) (ha : PSs X body (TSd (wdOf X) ks B ret (sts P rp n as))) (hb : PSs X other (TSd (wdOf X) ks B ret (sts P rp n bs))) :
    PS X (.If x body other pos) (TSd (wdOf X) ks B ret (st P rp n (.ite c as bs))) := by
  refine PS.imp (ps_if hc ha hb) fun D σ H ⟨O, ρ, fl, R, e, lv, f⟩ => ?_
  simp only [st] at e
  obtain ⟨⟨d, r⟩, e1, e⟩ := bind_ok e
  obtain ⟨k, e2, e⟩ := bind_ok e
  refine ⟨O, ρ, k, r, R.rel, by unfold evt; simp only [e1, e2, ok_bind]; rfl, fun H' O' p => ?_⟩
  cases k with
  | true =>
    simp only [if_true] at e ⊢
    exact ⟨O', r, fl, R.post bo p, e, lv, f⟩
  | false =>
    simp only [Bool.false_eq_true, if_false] at e ⊢
    exact ⟨O', r, fl, R.post bo p, e, lv, f⟩
/-! ### stores -/
def tA (te : TE) (i : Nat) : TS := tAsg te (gName i)
/-- a name is bound, by the reading of its value -/
theorem asg0_rd {i : Nat} (bo : B.Ok) (hk : ks.getD i 0 = 0) {D : Ends} {σ : L2.St} {H : Hp} (h : TSd (wdOf X) ks B ret (st P rp n (.asg (.nm i) e)) D σ H) : tAsg (TEd (wdOf X) ks (.own 0) pa (ev P rp e)) (gName i) D σ H := by
  obtain ⟨O, ρ, fl, R, e0, lv, f⟩ := h
  simp only [st] at e0
  obtain ⟨⟨d, r⟩, e1, e0⟩ := bind_ok e0
  obtain ⟨r2, e2, e0⟩ := bind_ok e0
  obtain rfl := pure_inj e0
  simp only [setT] at e2
  split at e2
  · injection e2 with e2
    subst e2
    exact ⟨O, ρ, d, r, R.rel, e1, fun v H' O' p q => f _ _ O' ((R.post bo p).set0 hk q)⟩
  · cases e2
/-- what is no tuple and no set -/
def nts : E → Bool
  | .lk _ => true | .lst _ => true | .lc _ _ _ _ => true | .lc2 _ _ _ _ _ _ _ => true | .dnew _ => true | .dc _ _ _ _ _ => true | _ => false
theorem nts_ok {ρ ρ' : Env} {d : D} (h : nts e = true) (he : ev P rp e ρ = .ok (d, ρ')) : ¬ isTS d = true := by
  cases e <;> first | (simp [nts] at h; done) | skip
  all_goals simp only [ev] at he
  · obtain ⟨p1, _, he⟩ := bind_ok he
    obtain ⟨_, h2, he⟩ := bind_ok he
    obtain ⟨rfl, rfl⟩ := Prod.mk.inj (pure_inj he)
    have := grd_ok h2
    intro z; rw [z] at this; cases this
  · obtain ⟨p1, _, he⟩ := bind_ok he
    obtain ⟨rfl, rfl⟩ := Prod.mk.inj (pure_inj he)
    simp [isTS]
  · obtain ⟨p1, _, he⟩ := bind_ok he
    obtain ⟨_, _, he⟩ := bind_ok he
    obtain ⟨_, _, he⟩ := bind_ok he
    obtain ⟨rfl, rfl⟩ := Prod.mk.inj (pure_inj he)
    simp [isTS]
  · obtain ⟨p1, _, he⟩ := bind_ok he
    obtain ⟨_, _, he⟩ := bind_ok he
    obtain ⟨_, _, he⟩ := bind_ok he
    obtain ⟨rfl, rfl⟩ := Prod.mk.inj (pure_inj he)
    simp [isTS]
  · obtain ⟨p1, _, he⟩ := bind_ok he
    obtain ⟨_, _, he⟩ := bind_ok he
    obtain ⟨_, _, he⟩ := bind_ok he
    obtain ⟨rfl, rfl⟩ := Prod.mk.inj (pure_inj he)
    simp [isTS]
  · injection he with he
    obtain ⟨rfl, rfl⟩ := Prod.mk.inj he
    simp [isTS]
theorem asgK_rd {i : Nat} {k : Nat} (bo : B.Ok) (hi : B.np ≤ i) (hk : ks.getD i 0 = k + 1) (ht : nts e = true) {D : Ends} {σ : L2.St} {H : Hp} (h : TSd (wdOf X) ks B ret (st P rp n (.asg (.nm i) e)) D σ H) :
    tAsg (TEd (wdOf X) ks (.own (k + 1)) pa (ev P rp e)) (gName i) D σ H := by
  obtain ⟨O, ρ, fl, R, e0, lv, f⟩ := h
  simp only [st] at e0
  obtain ⟨⟨d, r⟩, e1, e0⟩ := bind_ok e0
  obtain ⟨r2, e2, e0⟩ := bind_ok e0
  obtain rfl := pure_inj e0
  simp only [setT] at e2
  split at e2
  · injection e2 with e2
    subst e2
    refine ⟨O, ρ, d, r, R.rel, e1, fun v H' O' p q => f _ _ O' ?_⟩
    have q : ResO (wdOf X) k H H' O' v d := q
    unfold ResO at q
    rw [if_neg (nts_ok ht e1)] at q
    refine (R.post bo p).setK (Hs := H) hi (by rw [hk]; exact q.1) q.2 (fun a m => (R.rel.mine (m.sub p.sub)).2) fun a z => R.step.none_of z
  · cases e2
theorem s_asg0 {i : Nat} {nm : Str} {pos' : Pos} (bo : B.Ok) (hN : X.N.Nodup) (hi : X.N[i]? = some nm) (hx : Loc X.env.scope nm) (he : PE X x (TEd (wdOf X) ks (.own 0) pa (ev P rp e))) (hs : swapsWith x (some (.Name nm pos')) pos.line X.env = pure false)
    (hf : X.fn nm = true ∨ X.env.scope.names.lookup nm = some .local) (hk : ks.getD i 0 = 0) : PS X (.Assign [.Name nm pos'] x pos) (TSd (wdOf X) ks B ret (st P rp n (.asg (.nm i) e))) :=
  PS.imp (ps_set hN hi hx he hs hf) fun D σ H h => asg0_rd bo hk h
theorem s_asgK {i k : Nat} {nm : Str} {pos' : Pos} (bo : B.Ok) (hN : X.N.Nodup) (hi : X.N[i]? = some nm) (hx : Loc X.env.scope nm) (he : PE X x (TEd (wdOf X) ks (.own (k + 1)) pa (ev P rp e))) (hs : swapsWith x (some (.Name nm pos')) pos.line X.env = pure false)
    (hf : X.fn nm = true ∨ X.env.scope.names.lookup nm = some .local) (hp : B.np ≤ i) (hk : ks.getD i 0 = k + 1) (ht : nts e = true) : PS X (.Assign [.Name nm pos'] x pos) (TSd (wdOf X) ks B ret (st P rp n (.asg (.nm i) e))) :=
  PS.imp (ps_set hN hi hx he hs hf) fun D σ H h => asgK_rd bo hp hk ht h
/-- a tuple taken apart -/
theorem s_asgT {tg : Expr} {t : Tg} (bo : B.Ok) (he : PE X x (TEd (wdOf X) ks (.own 0) pa (ev P rp e))) (hg : PG X tg (gD (wdOf X) ks t)) (hs : swapsWithSole [tg] x pos.line X.env = pure false) (hw : swappedStores [tg] x X.env = pure none)
    (h1 : (assignEach [tg] X.env).map (·.2) = [assign tg X.env]) (hk : ∀ i ∈ t.slots, ks.getD i 0 = 0) : PS X (.Assign [tg] x pos) (TSd (wdOf X) ks B ret (st P rp n (.asg t e))) := by
  refine PS.imp (ps_asg he hg hs hw h1) fun D σ H ⟨O, ρ, fl, R, e0, lv, f⟩ => ?_
  simp only [st] at e0
  obtain ⟨⟨d, r⟩, e1, e0⟩ := bind_ok e0
  obtain ⟨r2, e2, e0⟩ := bind_ok e0
  obtain rfl := pure_inj e0
  refine ⟨O, ρ, d, r, R.rel, e1, fun v H' O' p q => ?_⟩
  have R1 := R.post bo p
  refine ⟨O', r, d, r2, R1.rel, q, e2, fun σ' R2 ag => f σ' H' O' ⟨R2, R1.step, fun a m => R1.roots a ?_, fun i hi k => ?_, R1.kp⟩⟩
  · exact m.agr ag hk (setT_sx t d r r2 e2)
  · rw [ag.2 i fun z => k (hk i z)]
    exact R1.ios i hi k
/-! ### two names at once -/
theorem Res.keep {g : Wd} {k : Nat} {M : Addr → Prop} {Hs H1 H2 : Hp} {O1 O2 : Ow} {v : V} {d : D} (s : Step M H1 O1 H2 O2) (h : Res g (.own k) Hs H1 O1 v d) (nm : ∀ r, Hs r = none → ¬ M r) : Res g (.own k) Hs H2 O2 v d := by
  cases k with
  | zero => exact Lay.le s.le h
  | succ k =>
    have h : ResO g k Hs H1 O1 v d := h
    show ResO g k Hs H2 O2 v d
    unfold ResO at h ⊢
    split
    · rename_i ts
      rw [if_pos ts] at h
      exact h.le s.le
    · rename_i ts
      rw [if_neg ts] at h
      exact ⟨h.1.step s fun _ r e => nm r (h.2 r e), h.2⟩
theorem RelS.setR {g : Wd} {H : Hp} {O : Ow} {σ : L2.St} {ρ : Env} (R : RelS g ks B H O σ ρ) {i : Nat} {v : V} {d : D} {Hs : Hp} (hi : ks.getD i 0 ≠ 0 → B.np ≤ i) (q : Res g (.own (ks.getD i 0)) Hs H O v d) (ts : ks.getD i 0 ≠ 0 → ¬ isTS d = true)
    (old : ∀ a, Mine ks σ ρ a → ∃ o, Hs a = some o) (h0 : ∀ a, Hs a = none → B.H0 a = none) : RelS g ks B H O (σ.set i (some v)) (ρ.set i (some d)) := by
  by_cases hk : ks.getD i 0 = 0
  · rw [hk] at q
    exact R.set0 hk q
  · obtain ⟨k, e⟩ : ∃ k, ks.getD i 0 = k + 1 := ⟨ks.getD i 0 - 1, by omega⟩
    rw [e] at q
    have q : ResO g k Hs H O v d := q
    unfold ResO at q
    rw [if_neg (ts hk)] at q
    exact R.setK (hi hk) (by rw [e]; exact q.1) q.2 old h0
def nts0 (ks : List Nat) (i : Nat) (e : E) : Bool := ks.getD i 0 == 0 || nts e
theorem s_par {i j : Nat} {nx ny : Str} {px py pt pt2 : Pos} {kt k2} {x y : Expr} {c e : E} (bo : B.Ok) (hc : X.calm = true) (hN : X.N.Nodup) (hi : X.N[i]? = some nx) (hj : X.N[j]? = some ny) (hij : i ≠ j)
    (hx : X.env.scope.names.lookup nx = some .local) (hy : X.env.scope.names.lookup ny = some .local)
    (ha : PE X x (TEd (wdOf X) ks (.own (ks.getD i 0)) pa (ev P rp c))) (hb : PE X y (TEd (wdOf X) ks (.own (ks.getD j 0)) pb (ev P rp e)))
    (ni : ks.getD i 0 ≠ 0 → B.np ≤ i) (nj : ks.getD j 0 ≠ 0 → B.np ≤ j) (ti : nts0 ks i c = true) (tj : nts0 ks j e = true)
    (hs1 : starEach [x, y] X.env = (false, eval x X.env) :: starEach [y] X.env) (hs2 : starEach [y] X.env = (false, eval y X.env) :: starEach [] X.env)
    (hw : swappedStores [.Tuple [.Name nx px, .Name ny py] kt pt] (.Tuple [x, y] k2 pt2) X.env = pure (some [nx, ny])) (hs : swapsWithSole [.Tuple [.Name nx px, .Name ny py] kt pt] (.Tuple [x, y] k2 pt2) pos.line X.env = pure false) :
    PS X (.Assign [.Tuple [.Name nx px, .Name ny py] kt pt] (.Tuple [x, y] k2 pt2) pos) (TSd (wdOf X) ks B ret (st P rp n (.par [i, j] [c, e]))) := by
  refine PS.imp (ps_par hc hN hi hj hij hx hy (pa_cons ha (pa_cons hb pa_nil hs2) hs1) hw hs) fun D σ H ⟨O, ρ, fl, R, e0, lv, f⟩ => ?_
  simp only [st, evs] at e0
  obtain ⟨⟨ds, r⟩, e1, e0⟩ := bind_ok e0
  obtain ⟨⟨d1, r1⟩, e2, e1⟩ := bind_ok e1
  obtain ⟨⟨ds2, r2⟩, e3, e1⟩ := bind_ok e1
  obtain ⟨⟨d2, r3⟩, e4, e3⟩ := bind_ok e3
  obtain ⟨⟨ds4, r4⟩, e5, e3⟩ := bind_ok e3
  injection e5 with e5
  obtain ⟨rfl, rfl⟩ := Prod.mk.inj e5
  obtain ⟨rfl, rfl⟩ := Prod.mk.inj (pure_inj e3)
  obtain ⟨rfl, rfl⟩ := Prod.mk.inj (pure_inj e1)
  obtain ⟨r5, e6, e0⟩ := bind_ok e0
  obtain rfl := pure_inj e0
  simp only [putAll] at e6
  split at e6
  · split at e6
    · injection e6 with e6
      subst e6
      have tsi : ks.getD i 0 ≠ 0 → ¬ isTS d1 = true := fun z => nts_ok (by unfold nts0 at ti; rw [Bool.or_eq_true] at ti; exact ti.resolve_left (by simpa using z)) e2
      have tsj : ks.getD j 0 ≠ 0 → ¬ isTS d2 = true := fun z => nts_ok (by unfold nts0 at tj; rw [Bool.or_eq_true] at tj; exact tj.resolve_left (by simpa using z)) e4
      refine ⟨O, ρ, d1, r1, R.rel, e2, fun v H1 O1 p1 q1 => ⟨O1, r1, d2, r3, p1.rel, e4, fun w H2 O2 p2 q2 => ⟨v, w, rfl, f _ _ O2 ?_⟩⟩⟩
      have R1 := R.post bo p1
      have R2 := R1.post bo p2
      have mine1 : ∀ a, Mine ks σ r1 a → ∃ o, H a = some o := fun a m => (R.rel.mine (m.sub p1.sub)).2
      have q1' := q1.keep p2.step fun r z m => by
        obtain ⟨o, e⟩ := mine1 r m.2
        rw [z] at e; cases e
      have A := R2.setR ni q1' tsi (fun a m => mine1 a (m.sub p2.sub)) fun a z => R.step.none_of z
      refine A.setR nj (Hs := H1) q2 tsj (fun a ⟨l, e, kl, h1, h2⟩ => ?_) fun a z => R1.step.none_of z
      by_cases z : i = l
      · subst z
        by_cases hl : i < σ.length
        · rw [List.getElem?_set_self hl] at h2
          cases h2
          obtain ⟨k, ek⟩ : ∃ k, ks.getD i 0 = k + 1 := ⟨ks.getD i 0 - 1, by omega⟩
          rw [ek] at q1
          have q : ResO (wdOf X) k H H1 O1 (.ref a) d1 := q1
          unfold ResO at q
          rw [if_neg (tsi kl)] at q
          exact p1.rel.wf.trk _ _ (q.1.root (by omega)).1
        · rw [List.getElem?_eq_none (by simpa using hl)] at h2; cases h2
      · rw [List.getElem?_set_ne z] at h1 h2
        exact (R1.rel.mine ((Mine.sub p2.sub ⟨l, e, kl, h1, h2⟩))).2
    · cases e6
  · cases e6
/-! ### x += n -/
def ipOf : Op → Option (Operator × (Int → Int → Int))
  | .add => some (.Add, fun i j => i + j)
  | .sub => some (.Sub, fun i j => i - j)
  | _ => none
theorem s_aug {i : Nat} {nm : Str} {pos' : Pos} {op : Op} {o : Operator} {fi : Int → Int → Int} (bo : B.Ok) (ho : ipOf op = some (o, fi)) (hN : X.N.Nodup) (hi : X.N[i]? = some nm) (hx : Loc X.env.scope nm) (hf : X.fn nm = true ∨ X.env.scope.names.lookup nm = some .local) (hk : ks.getD i 0 = 0)
    (he : PE X x (TEd (wdOf X) ks .b pa (ev P rp e))) : PS X (.AugAssign (.Name nm pos') o x pos) (TSd (wdOf X) ks B ret (st P rp n (.aug i op e))) := by
  have hip : PIp X o (ipI fi) := by
    cases op <;> first | (cases ho; done) | (cases ho; exact ip_add) | (cases ho; exact ip_sub)
  have bop : ∀ a b : Int, binop op (.int a) (.int b) = .ok (.int (fi a b)) := fun a b => by
    cases op <;> first | (cases ho; done) | (cases ho; rfl)
  refine PS.imp (ps_aug hN hi hx he hip hf) fun D σ H ⟨O, ρ, fl, R, e0, lv, f⟩ => ?_
  simp only [st] at e0
  obtain ⟨d, e1, e0⟩ := bind_ok e0
  obtain ⟨⟨d2, r⟩, e2, e0⟩ := bind_ok e0
  obtain ⟨_, e3, e0⟩ := bind_ok e0
  obtain ⟨d4, e4, e0⟩ := bind_ok e0
  obtain rfl := pure_inj e0
  have hz := grd_ok e3
  rw [Bool.and_eq_true] at hz
  match d, d2, hz, e4, e1, e2 with
  | .int a, .int b, _, e4, e1, e2 =>
    rw [bop] at e4
    injection e4 with e4
    subst e4
    obtain ⟨v, ev1, sl⟩ := R.rel.slot i _ (rd_ok e1)
    rw [hk] at sl
    obtain rfl := lay_int (show Lay (wdOf X) (ro H O) v (.int a) from sl)
    refine ⟨_, ev1, O, ρ, _, r, R.rel, e2, fun w H' O' p q => ?_⟩
    obtain rfl := lay_int (show Lay (wdOf X) H' w (.int b) from q)
    exact ⟨a, b, rfl, rfl, f _ _ O' ((R.post bo p).set0 hk (.int _))⟩
/-! ### loops -/
/-- the readings of a body, whatever is to be kept -/
def TSx (g : Wd) (ks : List Nat) (np ret : Nat) (f : Env → Rs Fl) : TS := fun D σ H => ∃ B : Base, B.Ok ∧ B.np = np ∧ TSd g ks B ret f D σ H
theorem pss_x {np : Nat} {f : Env → Rs Fl} (h : ∀ B : Base, B.Ok → B.np = np → PSs X body (TSd (wdOf X) ks B ret f)) : PSs X body (TSx (wdOf X) ks np ret f) := ⟨fun pins s σ H D I ⟨B, bo, e, q⟩ => (h B bo e).run pins s σ H D I q⟩
def Base.also (B : Base) (K : Hp → Ow → Prop) : Base := { B with K := fun H O => B.K H O ∧ K H O }
theorem RelS.also {g : Wd} {H : Hp} {O : Ow} {σ : L2.St} {ρ : Env} {K : Hp → Ow → Prop} (R : RelS g ks B H O σ ρ) (k : K H O) : RelS g ks (B.also K) H O σ ρ := ⟨R.rel, R.step, R.roots, R.ios, R.kp, k⟩
theorem RelS.less {g : Wd} {H : Hp} {O : Ow} {σ : L2.St} {ρ : Env} {K : Hp → Ow → Prop} (R : RelS g ks (B.also K) H O σ ρ) : RelS g ks B H O σ ρ ∧ K H O := ⟨⟨R.rel, R.step, R.roots, R.ios, R.kp.1⟩, R.kp.2⟩
theorem Base.Ok.also {K : Hp → Ow → Prop} (bo : B.Ok) (cl : ∀ {M H O H' O'}, WF H O → K H O → Step M H O H' O' → K H' O') : (B.also K).Ok := ⟨bo.wf, bo.par, fun w k s => ⟨bo.cl w k.1 s, cl w k.2 s⟩⟩
theorem RelS.yld {g : Wd} {H H' : Hp} {O : Ow} {σ : L2.St} {ρ : Env} (bo : B.Ok) (R : RelS g ks B H O σ ρ) (s : Step (fun _ => False) H O H' O) (w : WF H' O) : RelS g ks B H' O σ ρ :=
  ⟨R.rel.stay s w fun _ z => z.elim, R.step.trans bo.wf s fun _ z => z.elim, R.roots, R.ios, bo.cl R.rel.wf R.kp s⟩
theorem RelS.tgt {g : Wd} {H : Hp} {O : Ow} {σ σ' : L2.St} {ρ ρ' : Env} {t : Tg} {d : D} (R : RelS g ks B H O σ ρ) (R2 : Rel g ks H O σ' ρ') (ag : Agr t.slots σ' σ) (hk : ∀ i ∈ t.slots, ks.getD i 0 = 0) (e : setT t d ρ = .ok ρ') : RelS g ks B H O σ' ρ' :=
  ⟨R2, R.step, fun a m => R.roots a (m.agr ag hk (setT_sx t d _ _ e)), fun i hi k => by rw [ag.2 i fun z => k (hk i z)]; exact R.ios i hi k, R.kp⟩
theorem s_for {tg : Expr} {t : Tg} {it : E} (bo : B.Ok) (hp : PassesOwn (model X.prog X.w) X.A X.env X.xe) (hc : X.calm = true) (hi : PI X tg x (TId (wdOf X) ks true pa (iterE P rp it))) (hg : PG X tg (gD (wdOf X) ks t)) (hk : ∀ i ∈ t.slots, ks.getD i 0 = 0)
    (hb : ∀ B' : Base, B'.Ok → B'.np = B.np → PSs X body (TSd (wdOf X) ks B' ret (sts P rp n bs))) (hs : ∀ v, foldedSetIterable x X.env v = pure v) : PS X (.For tg x body [] pos) (TSd (wdOf X) ks B ret (st P rp n (.for_ t it bs))) := by
  refine PS.imp (ps_for hp hc hi hg (pss_x hb) hs) fun D σ H ⟨O, ρ, fl, R, e0, lv, f⟩ => ?_
  simp only [st] at e0
  obtain ⟨⟨d, r⟩, e1, e0⟩ := bind_ok e0
  obtain ⟨ds, e2, e0⟩ := bind_ok e0
  refine ⟨O, ρ, ds, r, R.rel, by unfold iterE; simp only [e1, e2, ok_bind]; rfl, fun J H1 O1 p io => ?_⟩
  have R1 := R.post bo p
  have w1 := R1.rel.wf
  have bo' : (B.also fun H O => Step (fun _ => True) H1 O1 H O).Ok := bo.also fun w k s => k.trans w1 s fun _ _ => .inl True.intro
  let F : C.D → Env → Rs Fl := fun d r => do sts P rp n bs (← setT t d r)
  have e0 : forR F ds r = .ok fl := e0
  let Iv : Nat → L2.St → Hp → Prop := fun i σ' H' => ∃ O' rc, RelS (wdOf X) ks (B.also fun H O => Step (fun _ => True) H1 O1 H O) H' O' σ' rc ∧ forR F (ds.drop i) rc = .ok fl
  refine ⟨fun i m σ' H' => m = ds.length - i ∧ i ≤ ds.length ∧ Iv i σ' H', ⟨ds.length, by simp, Nat.zero_le _, O1, r, R1.also Step.refl, by rw [List.drop_zero]; exact e0⟩, ?_⟩
  rintro i m σ' H' ⟨rfl, hi, O', rc, Rc, ef⟩
  have st0 := io H' O' ((Rc.less.2).mono fun _ _ => rfl) Rc.rel.wf
  by_cases hlt : i < ds.length
  · obtain ⟨go, yl⟩ := st0.1 i ds[i] (List.getElem?_eq_getElem hlt)
    rw [List.drop_eq_getElem_cons hlt] at ef
    unfold forR at ef
    obtain ⟨f1, ef1, ef⟩ := bind_ok ef
    obtain ⟨ra, ea, ef1⟩ := bind_ok ef1
    refine .inr ⟨go, Iv (i + 1), fun σ'' H'' p' => ⟨ds.length - (i + 1), by omega, rfl, hlt, p'⟩, fun v H2 y => ?_⟩
    obtain ⟨sy, wy, ly⟩ := yl v H2 y
    have Ry := Rc.yld bo' sy wy
    refine ⟨O', rc, ds[i], ra, Ry.rel, ly, ea, fun σ2 R2 ag => ⟨_, bo', rfl, O', ra, f1, Ry.tgt R2 ag hk ea, ef1, ?_, ?_⟩⟩
    · cases f1 with
      | ret d r => obtain rfl := pure_inj ef; exact lv
      | _ => exact True.intro
    · cases f1 with
      | nx r2 => exact fun σ3 H3 O3 R3 => ⟨O3, r2, R3, ef⟩
      | ct r2 => exact fun σ3 H3 O3 R3 => ⟨O3, r2, R3, ef⟩
      | bk r2 =>
        obtain rfl := pure_inj ef
        exact fun σ3 H3 O3 R3 => f σ3 H3 O3 R3.less.1
      | ret d2 r2 =>
        obtain rfl := pure_inj ef
        exact fun v3 σ3 H3 O3 R3 q3 => f v3 σ3 H3 O3 R3.less.1 q3
  · have en : i = ds.length := by omega
    subst en
    rw [List.drop_length] at ef
    unfold forR at ef
    injection ef with ef
    subst ef
    exact .inl ⟨st0.2 _ (Nat.le_refl _), f σ' H' O' Rc.less.1⟩
theorem s_while (bo : B.Ok) (hp : PassesOwn (model X.prog X.w) X.A X.env X.xe) (hc : PT X x (TTd (wdOf X) ks pa (evt P rp c))) (hb : PSs X body (TSd (wdOf X) ks B ret (sts P rp n bs))) :
    PS X (.While x body [] pos) (TSd (wdOf X) ks B ret (st P rp n (.while_ c bs))) := by
  refine PS.imp (ps_while hp hc hb) fun D σ H ⟨O, ρ, fl, R, e0, lv, f⟩ => ?_
  simp only [st] at e0
  let Iv : Nat → L2.St → Hp → Prop := fun k σ' H' => ∃ O' rc, RelS (wdOf X) ks B H' O' σ' rc ∧ whl (fun r => do let (x, r) ← ev P rp c r; return (← truth x, r)) (fun r => sts P rp n bs r) k rc = .ok fl
  refine ⟨Iv, ⟨n, O, ρ, R, e0⟩, ?_⟩
  rintro k σ1 H1 ⟨O1, r1, R1, e1⟩
  cases k with
  | zero => simp [whl] at e1
  | succ k =>
    unfold whl at e1
    obtain ⟨⟨b, r2⟩, e2, e1⟩ := bind_ok e1
    refine ⟨O1, r1, b, r2, R1.rel, e2, fun H2 O2 p => ?_⟩
    have R2 := R1.post bo p
    cases b with
    | false =>
      simp only [Bool.false_eq_true, if_false] at e1 ⊢
      obtain rfl := pure_inj e1
      exact f σ1 H2 O2 R2
    | true =>
      simp only [if_true] at e1 ⊢
      obtain ⟨f1, e3, e1⟩ := bind_ok e1
      refine ⟨Iv k, fun σ' H' p' => ⟨k, Nat.lt_succ_self k, p'⟩, O2, r2, f1, R2, e3, ?_, ?_⟩
      · cases f1 with
        | ret d r => obtain rfl := pure_inj e1; exact lv
        | _ => exact True.intro
      · cases f1 with
        | nx r3 => exact fun σ3 H3 O3 R3 => ⟨O3, r3, R3, e1⟩
        | ct r3 => exact fun σ3 H3 O3 R3 => ⟨O3, r3, R3, e1⟩
        | bk r3 =>
          obtain rfl := pure_inj e1
          exact fun σ3 H3 O3 R3 => f σ3 H3 O3 R3
        | ret d2 r3 =>
          obtain rfl := pure_inj e1
          exact fun v3 σ3 H3 O3 R3 q3 => f v3 σ3 H3 O3 R3 q3
end
end C

set_option Elab.async false
set_option linter.all false
set_option maxRecDepth 100000
set_option maxHeartbeats 1000000
/-! Sound15: stores. -/
namespace C
open PySem PySem.Spec PyProof.Rows L2

/-! ### dicts written -/
section
variable {g : Wd} {H : Hp}
theorem LayK.map {k : Key} {v : V} {d : D} (h : Lay g H v d) : ∀ {kvs : List (Key × V)} {ds : List (D × D)}, LayK g H kvs ds → LayK g H (kvs.map fun kv => if kv.1 = k then (kv.1, v) else kv) (ds.map fun p => if eqv p.1 (keyD k) then (p.1, d) else p)
  | _, _, .nil => .nil
  | _, _, .cons (k := k') (v := v') (d := d') a r => by
    simp only [List.map_cons]
    rw [keyD_inj]
    by_cases e : k' = k
    · rw [if_pos e, if_pos (by simpa using e)]
      exact .cons h (LayK.map h r)
    · rw [if_neg e, if_neg (by simpa using e)]
      exact .cons a (LayK.map h r)
theorem LayK.snoc {k : Key} {v : V} {d : D} (h : Lay g H v d) : ∀ {kvs : List (Key × V)} {ds : List (D × D)}, LayK g H kvs ds → LayK g H (kvs ++ [(k, v)]) (ds ++ [(keyD k, d)])
  | _, _, .nil => .cons h .nil
  | _, _, .cons a r => .cons a (LayK.snoc h r)
theorem LayK.put {k : Key} {v : V} {d : D} {kvs : List (Key × V)} {ds : List (D × D)} (h : Lay g H v d) (l : LayK g H kvs ds) : LayK g H (putK kvs k v) (putKey (keyD k) d ds) := by
  unfold putK putKey
  rw [hasKey_look, valV_any]
  rcases look_k k l with ⟨e1, e2⟩ | ⟨z, w, e1, e2, _⟩
  · rw [e1, e2, if_neg (by simp), if_neg (by simp)]
    exact l.snoc h
  · rw [e1, e2, if_pos (by simp), if_pos (by simp)]
    exact l.map h
theorem LayT.map {k : List Key} {v : V} {d : D} (h : Lay g H v d) : ∀ {kvs : List (List Key × V)} {ds : List (D × D)}, LayT g H kvs ds → LayT g H (kvs.map fun kv => if kv.1 = k then (kv.1, v) else kv) (ds.map fun p => if eqv p.1 (tkeyD k) then (p.1, d) else p)
  | _, _, .nil => .nil
  | _, _, .cons (k := k') (v := v') (d := d') a r => by
    simp only [List.map_cons]
    have e0 : eqv (tkeyD k') (tkeyD k) = decide (k' = k) := by unfold tkeyD; simp only [eqv]; exact tkeyD_inj
    rw [e0]
    by_cases e : k' = k
    · rw [if_pos e, if_pos (by simpa using e)]
      exact .cons h (LayT.map h r)
    · rw [if_neg e, if_neg (by simpa using e)]
      exact .cons a (LayT.map h r)
theorem LayT.snoc {k : List Key} {v : V} {d : D} (h : Lay g H v d) : ∀ {kvs : List (List Key × V)} {ds : List (D × D)}, LayT g H kvs ds → LayT g H (kvs ++ [(k, v)]) (ds ++ [(tkeyD k, d)])
  | _, _, .nil => .cons h .nil
  | _, _, .cons a r => .cons a (LayT.snoc h r)
theorem LayT.put {k : List Key} {v : V} {d : D} {kvs : List (List Key × V)} {ds : List (D × D)} (h : Lay g H v d) (l : LayT g H kvs ds) : LayT g H (putK kvs k v) (putKey (tkeyD k) d ds) := by
  unfold putK putKey
  rw [hasKey_look, valV_any]
  rcases look_t k l with ⟨e1, e2⟩ | ⟨z, w, e1, e2, _⟩
  · rw [e1, e2, if_neg (by simp), if_neg (by simp)]
    exact l.snoc h
  · rw [e1, e2, if_pos (by simp), if_pos (by simp)]
    exact l.map h
end

section
variable {X : Cx} {ks : List Nat} {P : Fs} {rp : D → Str} {B : Base} {ret n : Nat} {m : Md} {pa pb pc : Bool} {a b c e : E} {x y z : Expr} {pos : Pos} {i : Nat}
/-- the slot's object is written -/
theorem RelS.put {g : Wd} {H : Hp} {O : Ow} {σ : L2.St} {ρ : Env} (bo : B.Ok) (R : RelS g ks B H O σ ρ) {i : Nat} {d d' : D} {r : Addr} {o : HO} (live : ρ[i]? = some (some d)) (hk : ks.getD i 0 ≠ 0) (hs : σ[i]? = some (some (.ref r))) (ow : O r = some r)
    (new : Slot g (upd H r o) O (ks.getD i 0) (.ref r) d') : RelS g ks B (upd H r o) O σ (ρ.set i (some d')) := by
  obtain ⟨s, w⟩ := Step.wr (M := fun x => x = r) (o := o) R.rel.wf ow rfl
  have m0 : Mine ks σ ρ r := ⟨i, d, hk, live, hs⟩
  refine ⟨R.rel.put live hk hs s w new, R.step.trans bo.wf s fun x e => by subst e; exact R.roots x m0, fun a ⟨j, e, kj, h1, h2⟩ => ?_, R.ios, bo.cl R.rel.wf R.kp s⟩
  rcases set_live live d' h1 with ⟨rfl, _⟩ | ⟨_, h⟩
  · exact R.roots a ⟨_, d, kj, live, h2⟩
  · exact R.roots a ⟨j, e, kj, h, h2⟩
def rSet : TSet := fun o i v H Q => rSetL o i v H Q ∨ rSetD o i v H Q
theorem set_any (hu : X.A.units + 1 < cLine) : PSet X rSet := by
  intro pins s σ H o i v ov iv u Q I ro ri rv h
  rcases h with h | h
  · exact set_list pins s σ H o i v ov iv u Q I ro ri rv h
  · exact set_dict hu pins s σ H o i v ov iv u Q I ro ri rv h
/-- o[k] = d at a slot of the kind 1 -/
theorem set_rd {g : Wd} {H : Hp} {O : Ow} {v w kv : V} {o k d o' : D} {Q : Hp → Prop} (h : Own1 g H O v o) (hk : Lay g H kv k) (ld : Lay g (ro H O) w d) (e : setIx o k d = .ok o')
    (q : ∀ r ho, v = .ref r → O r = some r → (WF H O → Own1 g (upd H r ho) O v o') → Q (upd H r ho)) : rSet v kv w H Q := by
  cases o with
  | lst xs =>
    cases k <;> first | (cases e; done) | skip
    rename_i j0
    obtain ⟨j, e1, e2⟩ := bind_ok e
    obtain rfl := pure_inj e2
    obtain ⟨j', ej, rfl⟩ := ofO_ok e1
    obtain ⟨a, ws, rfl, h1, h2, h3⟩ := h
    obtain rfl := lay_int hk
    refine .inl ⟨a, ws, j0, j', rfl, rfl, h1, by rw [h3.length]; exact ej, q a _ rfl h2 fun wf => ?_⟩
    obtain ⟨s, w'⟩ := Step.wr (M := fun x => x = a) (o := .lst (ws.set j' w)) wf h2 rfl
    exact ⟨a, _, rfl, upd_same, h2, (h3.le s.le).set (ld.le s.le) j'⟩
  | dct t kvs =>
    have hz : (do grd (isKey t k && decide (kvs.length < line)); return D.dct t (putKey k d kvs)) = Rs.ok o' := e
    obtain ⟨_, e1, e2⟩ := bind_ok hz
    obtain rfl := pure_inj e2
    have hg := grd_ok e1
    rw [Bool.and_eq_true] at hg
    have hl : kvs.length < line := of_decide_eq_true hg.2
    cases t with
    | false =>
      obtain ⟨a, us, rfl, h2, h1, h3⟩ := h
      obtain ⟨kk, rfl⟩ := isKey_k hg.1
      obtain rfl := lay_key hk
      refine .inr ⟨a, _, rfl, .k h1 (by rw [h3.length, line_eq]; exact hl), q a _ rfl h2 fun wf => ?_⟩
      obtain ⟨s, w'⟩ := Step.wr (M := fun x => x = a) (o := .dK (putK us kk w)) wf h2 rfl
      exact ⟨a, _, rfl, h2, upd_same, (h3.le s.le).put (ld.le s.le)⟩
    | true =>
      obtain ⟨a, us, rfl, h2, h1, h3⟩ := h
      obtain ⟨kk, rfl⟩ := isKey_t hg.1
      obtain ⟨b, rfl, hb⟩ := lay_tkey hk
      refine .inr ⟨a, _, rfl, .t h1 hb (by rw [h3.length, line_eq]; exact hl), q a _ rfl h2 fun wf => ?_⟩
      obtain ⟨s, w'⟩ := Step.wr (M := fun x => x = a) (o := .dT (putK us kk w)) wf h2 rfl
      exact ⟨a, _, rfl, h2, upd_same, (h3.le s.le).put (ld.le s.le)⟩
  | _ => cases k <;> cases e
theorem s_set1 {nm : Str} {p1 p2 : Pos} (bo : B.Ok) (hu : X.A.units + 1 < cLine) (hN : X.N[i]? = some nm) (hv : Vis X.env.scope nm) (hd : (nm == ("__debug__" : Str)) = false) (hcd : (nm == ("__classdict__" : Str)) = false) (hk : ks.getD i 0 = 1)
    (he : PE X x (TEd (wdOf X) ks (.own 0) pa (ev P rp e))) (hi : PE X y (TEd (wdOf X) ks .b pb (ev P rp a)))
    (ha : ∀ v, assign (.Subscript (.Name nm p1) y p2) X.env v = (do
      let ov ← holding [v] (eval (.Name nm p1) X.env)
      let iv ← holding [v, ov] (eval y X.env)
      standAt p2
      holding [v, ov, iv] (setItem ov iv v)
      release [v, ov, iv] []))
    (hs : swapsWithSole [.Subscript (.Name nm p1) y p2] x pos.line X.env = pure false) (hw : swappedStores [.Subscript (.Name nm p1) y p2] x X.env = pure none) (h1 : (assignEach [.Subscript (.Name nm p1) y p2] X.env).map (·.2) = [assign (.Subscript (.Name nm p1) y p2) X.env]) :
    PS X (.Assign [.Subscript (.Name nm p1) y p2] x pos) (TSd (wdOf X) ks B ret (st P rp n (.set1 i a e))) := by
  refine PS.imp (ps_asg he (pg_sub (pe_var hN hv hd hcd) hi (set_any hu) ha) hs hw h1) fun D σ H ⟨O, ρ, fl, R, e0, lv, f⟩ => ?_
  simp only [st] at e0
  obtain ⟨⟨d, r1⟩, e1, e0⟩ := bind_ok e0
  obtain ⟨⟨k, r2⟩, e2, e0⟩ := bind_ok e0
  obtain ⟨o, e3, e0⟩ := bind_ok e0
  obtain ⟨o', e4, e0⟩ := bind_ok e0
  obtain rfl := pure_inj e0
  have l2 := rd_ok e3
  obtain ⟨o1, l1⟩ := ev_sub _ _ _ _ e2 i o l2
  refine ⟨O, ρ, d, r1, R.rel, e1, fun v H1 O1 p1 q1 => ?_⟩
  obtain ⟨w, ew, _⟩ := p1.rel.slot i o1 l1
  refine ⟨w, ew, O1, r1, k, r2, p1.rel, e2, fun kv H2 O2 p2 q2 => ?_⟩
  have R2 := (R.post bo p1).post bo p2
  obtain ⟨w2, ew2, sl⟩ := R2.rel.slot i o l2
  rw [ew] at ew2
  cases ew2
  rw [hk] at sl
  refine set_rd sl q2 (Lay.le p2.step.le q1) e4 fun r ho er ow new => ?_
  subst er
  exact f σ _ O2 (R2.put bo l2 (by omega) ew ow (by rw [hk]; exact new R2.rel.wf))
/-! ### o[k] += n -/
/-- o[k] for a list and a dict, by values -/
def rGet (g : Wd) : V → V → Hp → VK → Prop := fun x y H Q => ∃ O o k d, Own1 g H O x o ∧ Lay g H y k ∧ index o k = .ok d ∧ isInt d = true ∧ ∀ z, (Lay g (ro H O) z d) → Q z H
theorem get_any (hu : X.A.units + 1 < cLine) : ∀ (pins : List (Addr × Obj)) (s : Shared) (σ : L2.St) (H : Hp) (o i : V) (ov iv : Value) (Q : VK), Inv X pins σ H s → RelV o ov → RelV i iv → rGet (wdOf X) o i H Q →
    wpAny (model X.prog X.w) X.A (getItem ov iv) (EP X pins σ Q) X.xe s := by
  intro pins s σ H o i ov iv Q I ro ri ⟨O, od, k, d, ow, lk, e, isI, q⟩
  cases od with
  | lst ds =>
    cases k <;> first | (cases e; done) | skip
    rename_i j0
    obtain rfl := lay_int lk
    obtain ⟨p, xs, rfl, h1, h2, h3⟩ := ow
    have e : ofO (C.atI ds _) = .ok d := e
    obtain ⟨d', h, rfl⟩ := ofO_ok e
    obtain ⟨z, e2, l2⟩ := atI_lay h3 h
    cases ro
    obtain ⟨t, rfl⟩ := ri
    obtain ⟨its, r, pl, hz⟩ := I.list (.inl (.of h1))
    obtain ⟨j, g1, g2, g3, g4, g5⟩ := atI_get e2
    obtain ⟨w, ew, rw'⟩ := r.get g2
    have hl := r.length
    have hn := line63
    have fin : EP X pins σ Q w s := ⟨z, H, I, rw', q z l2⟩
    by_cases h0 : 0 ≤ j0
    · have hj : j0.toNat = j := by
        rw [seqIndex_of h0 g5] at g1
        exact Option.some.inj g1
      exact wpAny_getItem_list pl.isList h0 (by omega) (by rw [hj]; simpa using ew) fin
    · have hj : (j0 + (its.toArray.size : Int)).toNat = j := by
        rw [seqIndex_neg (by omega) g4] at g1
        rw [List.size_toArray, ← hl]
        exact Option.some.inj g1
      exact wpAny_getItem_list_neg pl.isList (by omega) (by rw [List.size_toArray] <;> omega) (by omega) (by rw [hj]; simpa using ew) fin
  | dct t kvs =>
    obtain ⟨_, e1, e2⟩ := bind_ok e
    have ik := grd_ok e1
    cases hl : lookKey k kvs with
    | none => rw [hl] at e2; cases e2
    | some d' =>
      rw [hl] at e2
      obtain rfl : d' = d := pure_inj e2
      cases t with
      | false =>
        obtain ⟨p, kv, rfl, h2, h1, l1⟩ := ow
        obtain ⟨k, rfl⟩ := isKey_k ik
        obtain rfl := lay_key lk
        cases ro
        rcases look_k k l1 with ⟨e3, _⟩ | ⟨z, d2, e3, e4, l3⟩
        · rw [hl] at e3; cases e3
        · rw [hl] at e3; cases e3
          exact d_getItem hu I (by rw [← e4]; exact .k h1) ri fun w' s3 I3 rw' => ⟨z, H, I3, rw', q z l3⟩
      | true =>
        obtain ⟨p, kv, rfl, h2, h1, l1⟩ := ow
        obtain ⟨kk, rfl⟩ := isKey_t ik
        obtain ⟨b2, rfl, hb⟩ := lay_tkey lk
        cases ro
        rcases look_t kk l1 with ⟨e3, _⟩ | ⟨z, d2, e3, e4, l3⟩
        · rw [hl] at e3; cases e3
        · rw [hl] at e3; cases e3
          exact d_getItem hu I (by rw [← e4]; exact .t h1 hb) ri fun w' s3 I3 rw' => ⟨z, H, I3, rw', q z l3⟩
  | str z =>
    cases k <;> first | (cases e; done) | skip
    obtain ⟨_, e1, e2⟩ := bind_ok e
    obtain ⟨c, e3, e4⟩ := bind_ok e2
    obtain rfl : _ = d := pure_inj e4
    cases isI
  | tup ds => exact absurd (show atom _ = true ∧ _ from ow).1 (by simp [atom])
  | _ => cases k <;> cases e
theorem s_aug1 {nm : Str} {p1 p2 : Pos} {op : Op} {o : Operator} {fi : Int → Int → Int} (bo : B.Ok) (ho : ipOf op = some (o, fi)) (hu : X.A.units + 1 < cLine) (hN : X.N[i]? = some nm) (hv : Vis X.env.scope nm) (hd : (nm == ("__debug__" : Str)) = false) (hcd : (nm == ("__classdict__" : Str)) = false) (hk : ks.getD i 0 = 1)
    (he : PE X x (TEd (wdOf X) ks .b pa (ev P rp e))) (hi : PE X y (TEd (wdOf X) ks (.own 0) pb (ev P rp a)))
    (ha : ∀ ov iv new, augStore y ov iv new = (do holding [new, ov, iv] (setItem ov iv new); release [new, ov, iv] []; pure .next)) :
    PS X (.AugAssign (.Subscript (.Name nm p1) y p2) o x pos) (TSd (wdOf X) ks B ret (st P rp n (.aug1 i a op e))) := by
  have hip : PIp X o (ipI fi) := by
    cases op <;> first | (cases ho; done) | (cases ho; exact ip_add) | (cases ho; exact ip_sub)
  have bop : ∀ a b : Int, binop op (.int a) (.int b) = .ok (.int (fi a b)) := fun a b => by
    cases op <;> first | (cases ho; done) | (cases ho; rfl)
  refine PS.imp (ps_augS (pe_var hN hv hd hcd) hi (get_any hu) he hip (set_any hu) ha) fun D σ H ⟨O, ρ, fl, R, e0, lv, f⟩ => ?_
  simp only [st] at e0
  obtain ⟨⟨k, r1⟩, e1, e0⟩ := bind_ok e0
  obtain ⟨o1, e2, e0⟩ := bind_ok e0
  obtain ⟨x1, e3, e0⟩ := bind_ok e0
  obtain ⟨⟨y1, r2⟩, e4, e0⟩ := bind_ok e0
  obtain ⟨_, e5, e0⟩ := bind_ok e0
  obtain ⟨z1, e6, e0⟩ := bind_ok e0
  obtain ⟨o2, e7, e0⟩ := bind_ok e0
  obtain ⟨o3, e8, e0⟩ := bind_ok e0
  obtain rfl := pure_inj e0
  have hz := grd_ok e5
  rw [Bool.and_eq_true] at hz
  obtain ⟨d0, l0⟩ := ev_sub _ _ _ _ e1 i o1 (rd_ok e2)
  obtain ⟨v, ev1, _⟩ := R.rel.slot i d0 l0
  refine ⟨v, ev1, O, ρ, k, r1, R.rel, e1, fun kv H1 O1 p1 q1 => ?_⟩
  have R1 := R.post bo p1
  obtain ⟨v', ev2, sl⟩ := R1.rel.slot i o1 (rd_ok e2)
  rw [ev1] at ev2
  cases ev2
  rw [hk] at sl
  refine ⟨O1, o1, k, x1, sl, Lay.le ro_le q1, e3, hz.1, fun xv lx => ⟨O1, r1, y1, r2, R1.rel, e4, fun yv H2 O2 p2 q2 => ?_⟩⟩
  match x1, y1, hz, e6, e3, e4 with
  | .int a0, .int b0, _, e6, e3, e4 =>
    rw [bop] at e6
    injection e6 with e6
    subst e6
    obtain rfl := lay_int lx
    obtain rfl := lay_int (show Lay (wdOf X) H2 yv (.int b0) from q2)
    have R2 := R1.post bo p2
    obtain ⟨v', ev3, sl2⟩ := R2.rel.slot i o2 (rd_ok e7)
    rw [ev1] at ev3
    cases ev3
    rw [hk] at sl2
    refine ⟨a0, b0, rfl, rfl, set_rd sl2 (Lay.le ro_le (Lay.le p2.step.le q1)) (.int _) e8 fun r ho er ow new => ?_⟩
    subst er
    exact f σ _ O2 (R2.put bo (rd_ok e7) (by omega) ev1 ow (by rw [hk]; exact new R2.rel.wf))
/-! ### methods that change a list -/
/-- by values: how the arguments are wanted -/
def muMd : Mu → Md
  | .extend => .k
  | _ => .own 0
def MuOk (g : Wd) (f : Mu) (r : V → List V → Hp → VK → Prop) : Prop := ∀ (H : Hp) (O : Ow) (l : Addr) (xs : List V) (ds : List D) (vs : List V) (as : List D) (d' : D) (Q : VK), H l = some (.lst xs) → LayL g (ro H O) xs ds → Paired (Res g (muMd f) H H O) vs as → mu f (.lst ds) as = .ok d' →
  (∀ ys ds', d' = .lst ds' → LayL g (ro H O) ys ds' → Q .non (upd H l (.lst ys))) → r (.ref l) vs H Q
theorem mu_append {g : Wd} : MuOk g .append rAppend := by
  intro H O l xs ds vs as d' Q h1 l1 pr e q
  match as, e with
  | [x], e =>
    obtain ⟨_, e1, e2⟩ := bind_ok e
    obtain rfl := pure_inj e2
    obtain ⟨v, rfl, lx⟩ := pr1 pr
    have hz := of_decide_eq_true (grd_ok e1)
    exact ⟨l, xs, v, rfl, rfl, h1, by rw [l1.length, line_eq]; exact hz, q _ _ rfl (l1.append (.cons lx .nil))⟩
theorem extend_tuple (l : Addr) (items : Array Value) (n : Nat) (b : Addr) (items2 : Array Value) (n2 : Nat) (dd : Option Addr) (sl : Array (Option Value)) (hs0 : ¬(!items.isEmpty && Builtin.List.listTooLong (items.size + items2.size)) = true) (hs1 : items.size ≤ sizeLine) (hs2 : items.size + items2.size ≤ sizeLine + 1) :
    Meets (Builtin.«list.extend» ⟨[.ref l, .ref b], []⟩) (fun _ R s => s.heap.get? l = some { cls := .type "list", dict := none, data := .seq items n, slots := #[] } ∧ s.heap.get? b = some { cls := .type "tuple", dict := dd, data := .seq items2 n2, slots := sl } ∧ R (.ok (.ret Value.none)) { s with heap := s.heap.update l (Obj.mapSeq fun x => x ++ items2), toks := s.toks }) :=
  .of_wp fun prog w A R s h => by
    obtain ⟨hp, g, d, tk, os⟩ := s; obtain ⟨hl, hb, h⟩ := h
    have f2 := AutoSeq1.sub_tuple_tuple; have f3 := AutoSeq1.sub_list_list; have f4 := AutoSeq1.sub_tuple_list; have f5 := AutoSeq1.sub_list_tuple
    have hz' : (items ++ items2).size ≤ sizeLine + 1 := by rw [Array.size_append]; exact hs2
    wp_walk using (wpAny_updateSeq hl rfl (hz := hs1) (_hz' := hz')), AutoSeq1.wpAny_loadPart' hl, AutoSeq1.wpAny_loadPart' hb; exact ⟨_, rfl, h⟩
theorem extend_list (l : Addr) (items : Array Value) (n : Nat) (b : Addr) (items2 : Array Value) (n2 : Nat) (dd : Option Addr) (sl : Array (Option Value)) (hs0 : ¬(!items.isEmpty && Builtin.List.listTooLong (items.size + items2.size)) = true) (hs1 : items.size ≤ sizeLine) (hs2 : items.size + items2.size ≤ sizeLine + 1) :
    Meets (Builtin.«list.extend» ⟨[.ref l, .ref b], []⟩) (fun _ R s => s.heap.get? l = some { cls := .type "list", dict := none, data := .seq items n, slots := #[] } ∧ s.heap.get? b = some { cls := .type "list", dict := dd, data := .seq items2 n2, slots := sl } ∧ R (.ok (.ret Value.none)) { s with heap := s.heap.update l (Obj.mapSeq fun x => x ++ items2), toks := s.toks }) :=
  .of_wp fun prog w A R s h => by
    obtain ⟨hp, g, d, tk, os⟩ := s; obtain ⟨hl, hb, h⟩ := h
    have f2 := AutoSeq1.sub_tuple_tuple; have f3 := AutoSeq1.sub_list_list; have f4 := AutoSeq1.sub_tuple_list; have f5 := AutoSeq1.sub_list_tuple
    have hz' : (items ++ items2).size ≤ sizeLine + 1 := by rw [Array.size_append]; exact hs2
    wp_walk using (wpAny_updateSeq hl rfl (hz := hs1) (_hz' := hz')), AutoSeq1.wpAny_loadPart' hl, AutoSeq1.wpAny_loadPart' hb; exact ⟨_, rfl, h⟩
def rExt (K : PySem.W.Frag) : V → List V → Hp → VK → Prop := fun x vs H Q => ∃ l b xs zs, x = .ref l ∧ vs = [.ref b] ∧ H l = some (.lst xs) ∧ (SqL K H b zs ∨ SqT K H b zs) ∧ xs.length + zs.length ≤ sizeLine ∧ Q .non (upd H l (.lst (xs ++ zs)))
theorem mt_ext {X : Cx} : MtR X "list.extend" (rExt X.K) := by
  intro pins s σ H x vs v us Q I rx rv h
  obtain ⟨l, b, xs, zs, rfl, rfl, hH, hB, hz, q⟩ := h
  cases rx
  obtain ⟨u, rfl, ru⟩ := vals1 rv
  cases ru
  obtain ⟨z, its, n, r, hl, e⟩ := I.lstM hH
  have go : ∀ (its2 : List Value), Vals zs its2 → ¬ (!its.toArray.isEmpty && Builtin.List.listTooLong (its.toArray.size + its2.toArray.size)) = true ∧ its.toArray.size ≤ sizeLine ∧ its.toArray.size + its2.toArray.size ≤ sizeLine + 1 := fun its2 r2 => by
    have hl2 := r2.length
    have hsz : its.toArray.size + its2.toArray.size ≤ sizeLine := by rw [List.size_toArray, List.size_toArray]; omega
    refine ⟨?_, by rw [List.size_toArray]; omega, by omega⟩
    rw [notLongL hsz, Bool.and_false]
    exact Bool.false_ne_true
  have fin : ∀ (its2 : List Value), Vals zs its2 → EP X pins σ Q Value.none { s with heap := s.heap.update l (Obj.mapSeq fun x => x ++ its2.toArray), toks := s.toks } := fun its2 r2 => by
    refine ⟨.non, _, I.lset (its' := its ++ its2) hH e (by simp) (r.append r2) ?_, rfl, q⟩
    rw [List.length_append]
    omega
  rcases hB with hB | hB
  · obtain ⟨its2, r2, ⟨o, n2, e2, hc, hdd, hd⟩, _⟩ := I.list hB
    obtain ⟨ocls, odict, odata, oslots⟩ := o
    simp only at hc hdd hd
    subst hc; subst hd
    obtain ⟨k1, k2, k3⟩ := go its2 r2
    exact call_meets F.slot_list_extend ⟨_, e, rfl⟩ F.entry_list_extend (F.args_list_extend_2 _ _) (extend_list l its.toArray n b its2.toArray n2 _ _ k1 k2 k3) ⟨e, e2, fin its2 r2⟩
  · obtain ⟨its2, r2, ⟨o, e2, hc, n2, hd⟩, _⟩ := I.tuple hB
    obtain ⟨ocls, odict, odata, oslots⟩ := o
    simp only at hc hd
    subst hc; subst hd
    obtain ⟨k1, k2, k3⟩ := go its2 r2
    exact call_meets F.slot_list_extend ⟨_, e, rfl⟩ F.entry_list_extend (F.args_list_extend_2 _ _) (extend_tuple l its.toArray n b its2.toArray n2 _ _ k1 k2 k3) ⟨e, e2, fin its2 r2⟩
theorem mu_extend {g : Wd} : MuOk g .extend (rExt g.K) := by
  intro H O l xs ds vs as d' Q h1 l1 pr e q
  match as, e with
  | [x], e =>
    obtain ⟨ys, e1, e⟩ := bind_ok e
    obtain ⟨_, e2, e⟩ := bind_ok e
    obtain rfl := pure_inj e
    have hz := of_decide_eq_true (grd_ok e2)
    obtain ⟨v, rfl, lx⟩ := pr1 pr
    have lx : Top g H O v x := lx
    cases x <;> first | (cases e1; done) | skip
    · obtain rfl := pure_inj e1
      obtain ⟨a, ws, rfl, g1, g2⟩ := lay_tup (show Lay g (ro H O) v (.tup _) from lx)
      exact ⟨l, a, xs, ws, rfl, rfl, h1, .inr (.of (ro_le _ _ g1)), by rw [l1.length, g2.length, line_eq]; exact hz, q _ _ rfl (l1.append g2)⟩
    · obtain rfl := pure_inj e1
      obtain ⟨a, ws, rfl, g1, g2⟩ := lx
      exact ⟨l, a, xs, ws, rfl, rfl, h1, .inl (.inl g1), by rw [l1.length, g2.length, line_eq]; exact hz, q _ _ rfl (l1.append g2)⟩
def rInsert : V → List V → Hp → VK → Prop := fun x vs H Q => ∃ (l : Addr) (xs : List V) (i : Int) (y : V), x = .ref l ∧ vs = [.int i, y] ∧ H l = some (.lst xs) ∧ xs.length < sizeLine ∧ 0 ≤ i ∧ i < 2 ^ 63 ∧ Q .non (upd H l (.lst (xs.take i.toNat ++ [y] ++ xs.drop i.toNat)))
theorem take_min {α : Type} (xs : List α) (n : Nat) : xs.take (min n xs.length) = xs.take n := by
  rcases Nat.le_total n xs.length with h | h
  · rw [Nat.min_eq_left h]
  · rw [Nat.min_eq_right h, List.take_length, List.take_of_length_le h]
theorem drop_min {α : Type} (xs : List α) (n : Nat) : xs.drop (min n xs.length) = xs.drop n := by
  rcases Nat.le_total n xs.length with h | h
  · rw [Nat.min_eq_left h]
  · rw [Nat.min_eq_right h, List.drop_length, List.drop_of_length_le h]
theorem mu_insert {g : Wd} : MuOk g .insert rInsert := by
  intro H O l xs ds vs as d' Q h1 l1 pr e q
  match as, e with
  | [.int i, x], e =>
    obtain ⟨_, e1, e2⟩ := bind_ok e
    obtain rfl := pure_inj e2
    obtain ⟨v, w, rfl, lx, lw⟩ := pr2 pr
    obtain rfl := lay_int (show Lay g (ro H O) v (.int i) from lx)
    have hz := of_decide_eq_true (grd_ok e1)
    refine ⟨l, xs, i, w, rfl, rfl, h1, by rw [l1.length, line_eq]; exact hz.1, hz.2.1, by omega, q _ _ rfl ?_⟩
    have e3 : insAt ds i x = ds.take i.toNat ++ [x] ++ ds.drop i.toNat := by
      unfold insAt sIx
      simp only [show ¬ i < 0 by omega, if_false]
      rw [take_min, drop_min, List.append_assoc]; rfl
    rw [e3]
    exact ((l1.take _).append (.cons lw .nil)).append (l1.drop _)
theorem s_mcall {id : String} {f : Mu} {r : V → List V → Hp → VK → Prop} {nm name : Str} {p1 apos cpos : Pos} {es : List Expr} {as : List E} (bo : B.Ok) (slot : PySem.Slot "list" name id) (hty : typeOf (.builtin id) = pure (.type "method_descriptor")) (hm : MtR X id r) (mo : MuOk (wdOf X) f r)
    (hN : X.N[i]? = some nm) (hv : Vis X.env.scope nm) (hd : (nm == ("__debug__" : Str)) = false) (hcd : (nm == ("__classdict__" : Str)) = false) (hk : ks.getD i 0 = 1)
    (ha : PA X (x :: es) (TAd (wdOf X) ks (muMd f) pa (evs P rp as)))
    (hbase : attributeBase (.Name nm p1) name X.env (eval (.Name nm p1) X.env) = eval (.Name nm p1) X.env)
    (hfew : ((backTo cpos (starEach (x :: es) X.env)).all (fun x => !x.1) && (backToKw cpos (keywordEach [] X.env)).all (fun x => x.1.isSome)
      && decide ((x :: es).length + ([] : List Keyword).length + (if ([] : List Keyword).isEmpty then 0 else 1) < 30)) = true)
    (hline : (apos.endLine == cpos.line) = true) (hs : starEach (x :: es) X.env = (false, eval x X.env) :: starEach es X.env) (hpl : (starEach es X.env).any (·.1) = false)
    (hsw : swapsWith (.Call (.Attribute (.Name nm p1) name apos) (x :: es) [] cpos) none pos.line X.env = pure false) :
    PS X (.Expr (.Call (.Attribute (.Name nm p1) name apos) (x :: es) [] cpos) pos) (TSd (wdOf X) ks B ret (st P rp n (.mcall f i [] as))) := by
  refine PS.imp (ps_expr (pe_bm F.plainAttrs_list slot hty hm (pe_var hN hv hd hcd) ha hbase hfew hline hs (plainNext _ _ _ hpl)) hsw) fun D σ H ⟨O, ρ, fl, R, e0, lv, q⟩ => ?_
  simp only [st, evs, ok_bind] at e0
  obtain ⟨o0, e1, e0⟩ := bind_ok e0
  obtain ⟨_, e2, e0⟩ := bind_ok e0
  obtain ⟨⟨ds, r1⟩, e3, e0⟩ := bind_ok e0
  obtain ⟨o, e4, e0⟩ := bind_ok e0
  obtain ⟨o', e5, e0⟩ := bind_ok e0
  obtain rfl := pure_inj e0
  obtain ⟨v, ev1, sl0⟩ := R.rel.slot i o0 (rd_ok e1)
  rw [hk] at sl0
  have il := grd_ok e2
  cases o0 <;> first | (cases il; done) | skip
  obtain ⟨l, ws, rfl, h1, h2, h3⟩ := (show Own1 (wdOf X) H O v (.lst _) from sl0)
  refine ⟨_, ev1, .inl ⟨rfl, ws, .inl (.of h1)⟩, O, ρ, ds, r1, R.rel, e3, fun vs H1 O1 p pr => ?_⟩
  have R1 := R.post bo p
  obtain ⟨v', ev2, sl⟩ := R1.rel.slot i o (rd_ok e4)
  rw [ev1] at ev2
  cases ev2
  rw [hk] at sl
  simp only [atPath] at e5
  cases o with
  | lst xs =>
    obtain ⟨a, us, ea, g1, g2, g3⟩ := (show Own1 (wdOf X) H1 O1 _ (.lst xs) from sl)
    cases ea
    refine mo H1 O1 l us xs vs ds o' _ g1 g3 ?_ e5 fun ys ds' ed ly => ?_
    · refine Paired.mapP pr fun a b z => ?_
      cases f <;> exact z
    · subst ed
      obtain ⟨s, w⟩ := Step.wr (M := fun x => x = l) (o := .lst ys) R1.rel.wf g2 rfl
      exact q σ _ O1 (R1.put bo (rd_ok e4) (by omega) ev1 g2 (by rw [hk]; exact ⟨l, ys, rfl, upd_same, g2, ly.le s.le⟩))
  | _ => cases f <;> (cases ds <;> cases e5)
end
end C

set_option Elab.async false
set_option linter.all false
set_option maxRecDepth 100000
set_option maxHeartbeats 1000000
/-! Sound16: a def keeps the promise of its meaning. -/
namespace C
open PySem PySem.Spec PyProof.Rows L2

section
variable {g : Wd} {H H' : Hp} {O O' : Ow}
/-- the parameters' slots -/
theorem bound_rel : ∀ {kk : List Nat} {vs : List V} {ros ios : List D} {r : Env}, bound g H O kk vs ros ios → mkEnv kk ros ios = some r → r.length = vs.length ∧ ∀ (i : Nat) d, r[i]? = some (some d) → ∃ v, vs[i]? = some v ∧ Slot g H O (kk.getD i 0) v d
  | [], [], [], [], r, _, e => by
    simp only [mkEnv] at e; cases e
    exact ⟨rfl, fun i d h => by simp at h⟩
  | 0 :: kk, v :: vs, d :: ros, ios, r, h, e => by
    simp only [mkEnv] at e
    obtain ⟨r', e1, rfl⟩ := Option.map_eq_some_iff.mp e
    obtain ⟨a, b⟩ := bound_rel h.2 e1
    refine ⟨by simp [a], fun i d' hi => ?_⟩
    cases i with
    | zero => simp at hi; subst hi; exact ⟨v, rfl, h.1⟩
    | succ i => simpa using b i d' (by simpa using hi)
  | (k + 1) :: kk, v :: vs, ros, d :: ios, r, h, e => by
    simp only [mkEnv] at e
    obtain ⟨r', e1, rfl⟩ := Option.map_eq_some_iff.mp e
    obtain ⟨a, b⟩ := bound_rel h.2 e1
    refine ⟨by simp [a], fun i d' hi => ?_⟩
    cases i with
    | zero => simp at hi; subst hi; exact ⟨v, rfl, h.1⟩
    | succ i => simpa using b i d' (by simpa using hi)
theorem argMine_iff : ∀ {kk : List Nat} {vs : List V} {r : Addr}, kk.length = vs.length → (argMine kk vs r ↔ ∃ i : Nat, kk.getD i 0 ≠ 0 ∧ vs[i]? = some (.ref r))
  | [], [], r, _ => by simp [argMine]
  | 0 :: kk, v :: vs, r, h => by
    unfold argMine
    rw [argMine_iff (by simpa using h)]
    constructor
    · rintro ⟨i, h1, h2⟩; exact ⟨i + 1, by simpa using h1, by simpa using h2⟩
    · rintro ⟨i, h1, h2⟩
      cases i with
      | zero => exact absurd rfl h1
      | succ i => exact ⟨i, by simpa using h1, by simpa using h2⟩
  | (k + 1) :: kk, v :: vs, r, h => by
    unfold argMine
    rw [argMine_iff (by simpa using h)]
    constructor
    · rintro (rfl | ⟨i, h1, h2⟩)
      · exact ⟨0, by simp, rfl⟩
      · exact ⟨i + 1, by simpa using h1, by simpa using h2⟩
    · rintro ⟨i, h1, h2⟩
      cases i with
      | zero => simp at h2; exact .inl h2
      | succ i => exact .inr ⟨i, by simpa using h1, by simpa using h2⟩
theorem argApart_at : ∀ {kk : List Nat} {vs : List V} {i j : Nat} {r : Addr}, kk.length = vs.length → argApart kk vs → i < j → kk.getD i 0 ≠ 0 → kk.getD j 0 ≠ 0 → vs[i]? = some (.ref r) → vs[j]? ≠ some (.ref r)
  | [], [], i, j, r, _, _, _, k, _, _ => by simp at k
  | 0 :: kk, v :: vs, 0, j, r, h, a, ij, k1, k2, e => absurd rfl k1
  | 0 :: kk, v :: vs, i + 1, 0, r, h, a, ij, k1, k2, e => by omega
  | 0 :: kk, v :: vs, i + 1, j + 1, r, h, a, ij, k1, k2, e => by
    have := argApart_at (kk := kk) (vs := vs) (i := i) (j := j) (r := r) (by simpa using h) a (by omega) (by simpa using k1) (by simpa using k2) (by simpa using e)
    simpa using this
  | (k + 1) :: kk, v :: vs, 0, 0, r, h, a, ij, k1, k2, e => by omega
  | (k + 1) :: kk, v :: vs, 0, j + 1, r, h, a, ij, k1, k2, e => fun z => by
    simp at e
    exact a.1 r e ((argMine_iff (by simpa using h)).mpr ⟨j, by simpa using k2, by simpa using z⟩)
  | (k + 1) :: kk, v :: vs, i + 1, 0, r, h, a, ij, k1, k2, e => by omega
  | (k + 1) :: kk, v :: vs, i + 1, j + 1, r, h, a, ij, k1, k2, e => by
    have := argApart_at (kk := kk) (vs := vs) (i := i) (j := j) (r := r) (by simpa using h) a.2 (by omega) (by simpa using k1) (by simpa using k2) (by simpa using e)
    simpa using this
/-- what comes back -/
theorem outs_of {σ : L2.St} {ρ : Env} : ∀ {kk : List Nat} {vs : List V} {os : List D} (j : Nat), kk.length = vs.length → getAll (iosFrom j kk) ρ = .ok os → (∀ (i : Nat) v d, kk.getD i 0 ≠ 0 → vs[i]? = some v → ρ[j + i]? = some (some d) → Slot g H O (kk.getD i 0) v d) → outs g H O kk vs os
  | [], [], os, j, _, e, _ => by
    simp only [iosFrom, getAll] at e; injection e with e; subst e; exact True.intro
  | 0 :: kk, v :: vs, os, j, h, e, q => by
    simp only [iosFrom] at e
    exact outs_of (σ := σ) (kk := kk) (j + 1) (by simpa using h) e fun i v d k h1 h2 => by
      have := q (i + 1) v d (by simpa using k) (by simpa using h1) (by rw [show j + (i + 1) = j + 1 + i by omega]; exact h2)
      simpa using this
  | (k + 1) :: kk, v :: vs, os, j, h, e, q => by
    simp only [iosFrom, getAll] at e
    obtain ⟨d, e1, e⟩ := bind_ok e
    obtain ⟨ds, e2, e⟩ := bind_ok e
    obtain rfl := pure_inj e
    refine ⟨?_, outs_of (σ := σ) (kk := kk) (j + 1) (by simpa using h) e2 fun i v d k h1 h2 => ?_⟩
    · have := q 0 v d (by simp) rfl (rd_ok e1)
      simpa using this
    · have := q (i + 1) v d (by simpa using k) (by simpa using h1) (by rw [show j + (i + 1) = j + 1 + i by omega]; exact h2)
      simpa using this
theorem iosFrom_mem : ∀ {kk : List Nat} {j i : Nat}, kk.getD i 0 ≠ 0 → j + i ∈ iosFrom j kk
  | [], j, i, h => by simp at h
  | 0 :: kk, j, 0, h => absurd rfl h
  | 0 :: kk, j, i + 1, h => by
    simp only [iosFrom]
    rw [show j + (i + 1) = j + 1 + i by omega]
    exact iosFrom_mem (by simpa using h)
  | (k + 1) :: kk, j, 0, h => by simp only [iosFrom]; exact .head _
  | (k + 1) :: kk, j, i + 1, h => by
    simp only [iosFrom]
    rw [show j + (i + 1) = j + 1 + i by omega]
    exact .tail _ (iosFrom_mem (by simpa using h))
end
theorem start_get {N : List Str} {vs : List V} {i : Nat} : (start N vs)[i]? = if i < vs.length then vs[i]?.map some else if i < N.length then some none else none := by
  unfold L2.start
  by_cases h : i < vs.length
  · rw [if_pos h, List.getElem?_append_left (by simpa using h), List.getElem?_map]
  · rw [if_neg h, List.getElem?_append_right (by simpa using h), List.getElem?_replicate]
    simp only [List.length_map]
    by_cases h2 : i < N.length
    · rw [if_pos (by omega), if_pos h2]
    · rw [if_neg (by omega), if_neg h2]
theorem take_getD {ks : List Nat} {np i : Nat} (h : i < np) : (ks.take np).getD i 0 = ks.getD i 0 := by
  rw [List.getD_eq_getElem?_getD, List.getD_eq_getElem?_getD, List.getElem?_take_of_lt h]
section
variable {P : Program} {w : World} {K : PySem.W.Frag} {mg : Str → Option Value} {base : Heap} {rp : D → Str}
theorem fn_core {x qual : Str} {st0 : Stmt} {f : Addr} {fd : FuncData} {N ps : List Str} {k n : Nat} (fn : Fn) (Pf : Fs) (F : L2.Fun K x qual st0 f fd) (S : FnScope N ps (defScope st0)) (hks : fn.ks.length = N.length) (hnp : fn.np = ps.length)
    (hbody : ∀ (cdv : Value) (A : Around) (outer : List PySem.Env) (s : Shared) (H : Hp) (E : XK), A.guards = some [] → Room k (A.deeper (envOfC qual (defScope st0) s.heap.objs.size f cdv)) → ∀ B : Base, B.Ok → B.np = fn.np →
      PSs (cxOf CX0 P w K mg base N qual (defScope st0) f cdv A outer s H E).nox (defBody st0) (TSd ⟨K, P, w⟩ fn.ks B fn.ret (sts Pf rp n fn.body))) :
    FnG P w K mg base CX0 (k + 1) f fd ps (spD ⟨K, P, w⟩ (fn.ks.take fn.np) fn.ret (fun ros ios => fn.run Pf rp n ros ios)) := by
  obtain ⟨oc, od, kV, doc, pm, an, cdv, ct, osl, rfl, lk, hcd⟩ := F.ex
  have hpl : ps.length ≤ N.length := by have := congrArg List.length S.pre; rw [List.length_take] at this; omega
  have hkl : (fn.ks.take fn.np).length = ps.length := by rw [List.length_take, hks, hnp]; omega
  refine fnG_of lk hcd S (spD_len hkl) fun A outer s H vs Q E hg hr h => ?_
  have hvl := spD_len hkl _ _ _ _ h
  obtain ⟨O, ros, ios, d, os, wf, bd, ap, hrun, q⟩ := h
  unfold Fn.run at hrun
  obtain ⟨r, er, hrun⟩ := bind_ok hrun
  obtain ⟨r', er', rfl⟩ := ofO_ok er
  obtain ⟨fl, ef, hrun⟩ := bind_ok hrun
  obtain ⟨rl, rs⟩ := bound_rel bd er'
  have hl : (fn.ks.take fn.np).length = vs.length := by rw [hkl, hvl]
  let ρ0 : Env := r' ++ List.replicate (fn.ks.length - fn.np) none
  have ρlen : ρ0.length = N.length := by
    show (r' ++ _).length = _
    rw [List.length_append, List.length_replicate, rl]; omega
  have live : ∀ (i : Nat) d, ρ0[i]? = some (some d) → i < vs.length ∧ r'[i]? = some (some d) := fun i d e => by
    by_cases hi : i < r'.length
    · rw [List.getElem?_append_left hi] at e; exact ⟨by omega, e⟩
    · rw [List.getElem?_append_right (by omega), List.getElem?_replicate] at e
      split at e <;> cases e
  have st_at : ∀ (i : Nat) v, vs[i]? = some v → (start N vs)[i]? = some (some v) := fun i v e => by
    rw [start_get, if_pos (List.getElem?_eq_some_iff.mp e).1, e]; rfl
  have at_st : ∀ (i : Nat) v, i < vs.length → (start N vs)[i]? = some (some v) → vs[i]? = some v := fun i v hi e => by
    rw [start_get, if_pos hi] at e
    obtain ⟨a, h1, h2⟩ := Option.map_eq_some_iff.mp e
    cases h2; exact h1
  have R0 : Rel ⟨K, P, w⟩ fn.ks H O (start N vs) ρ0 := by
    refine ⟨wf, ?_, fun i d e => ?_, fun i j a d1 d2 ne k1 k2 h1 h2 s1 s2 => ?_⟩
    · rw [ρlen]; unfold L2.start; rw [List.length_append, List.length_map, List.length_replicate]; omega
    · obtain ⟨hi, e⟩ := live i d e
      obtain ⟨v, hv, sl⟩ := rs i d e
      rw [take_getD (by omega)] at sl
      exact ⟨v, st_at i v hv, sl⟩
    · obtain ⟨hi, _⟩ := live i d1 h1
      obtain ⟨hj, _⟩ := live j d2 h2
      have v1 := at_st i _ hi s1
      have v2 := at_st j _ hj s2
      have k1' : (fn.ks.take fn.np).getD i 0 ≠ 0 := by rw [take_getD (by omega)]; exact k1
      have k2' : (fn.ks.take fn.np).getD j 0 ≠ 0 := by rw [take_getD (by omega)]; exact k2
      rcases Nat.lt_or_gt_of_ne ne with z | z
      · exact argApart_at hl ap z k1' k2' v1 v2
      · exact argApart_at hl ap z k2' k1' v2 v1
  let B : Base := ⟨start N vs, H, O, ρ0, fn.np, fun _ _ => True⟩
  have bo : B.Ok := ⟨wf, fun j d e => by have := (live j d e).1; show j < fn.np; omega, fun _ _ _ => True.intro⟩
  have mine : ∀ a, Mine fn.ks (start N vs) ρ0 a → argMine (fn.ks.take fn.np) vs a := fun a ⟨i, d, kk, h1, h2⟩ => by
    obtain ⟨hi, _⟩ := live i d h1
    exact (argMine_iff hl).mpr ⟨i, by rw [take_getD (by omega)]; exact kk, at_st i _ hi h2⟩
  have fin : ∀ (σ : L2.St) (H' : Hp) (O' : Ow) (ρ' : Env) (v : V) (d : D), RelS ⟨K, P, w⟩ fn.ks B H' O' σ ρ' → getAll fn.ios ρ' = .ok os → Res ⟨K, P, w⟩ (.own fn.ret) H H' O' v d → (∀ v H' O', Step (argMine (fn.ks.take fn.np) vs) H O H' O' → WF H' O' → Res ⟨K, P, w⟩ (.own fn.ret) H H' O' v d → outs ⟨K, P, w⟩ H' O' (fn.ks.take fn.np) vs os → Q v H') → Q v H' := fun σ H' O' ρ' v d R go rs q => by
    refine q v H' O' (R.step.mono mine) R.rel.wf rs (outs_of (σ := σ) 0 hl go fun i u e kk h1 h2 => ?_)
    have hi := (List.getElem?_eq_some_iff.mp h1).1
    rw [Nat.zero_add] at h2
    obtain ⟨u', hu, sl⟩ := R.rel.slot i e h2
    have kk' : fn.ks.getD i 0 ≠ 0 := by rw [take_getD (by omega)] at kk; exact kk
    have := R.ios i (by show i < fn.np; omega) kk'
    rw [hu] at this
    have h3 : (start N vs)[i]? = some (some u) := st_at i u h1
    rw [show B.σ0 = start N vs from rfl, h3] at this
    cases this
    rw [take_getD (by omega)]
    exact sl
  have ioL : ∀ {ρ' : Env}, getAll fn.ios ρ' = .ok os → ioLive fn.ks fn.np ρ' := fun {ρ'} go i hi kk => by
    refine getAll_live go i ?_
    have := iosFrom_mem (kk := fn.ks.take fn.np) (j := 0) (i := i) (by rw [take_getD hi]; exact kk)
    rw [Nat.zero_add] at this
    exact this
  refine ⟨_, (hbody cdv A outer s H E hg hr B bo rfl).nox, O, ρ0, fl, ⟨R0, Step.refl, fun a m => .inl m, fun i _ _ => rfl, True.intro⟩, ef, ?_, ?_⟩
  · cases fl with
    | ret d1 r1 =>
      obtain ⟨os', e1, e2⟩ := bind_ok hrun
      obtain ⟨rfl, rfl⟩ := Prod.mk.inj (pure_inj e2)
      exact ioL e1
    | _ => exact True.intro
  · cases fl with
    | ret d1 r1 =>
      obtain ⟨os', e1, e2⟩ := bind_ok hrun
      obtain ⟨rfl, rfl⟩ := Prod.mk.inj (pure_inj e2)
      exact fun v σ' H' O' R rs => fin σ' H' O' r1 v d1 R e1 rs q
    | nx r1 =>
      obtain ⟨os', e1, e2⟩ := bind_ok hrun
      obtain ⟨rfl, rfl⟩ := Prod.mk.inj (pure_inj e2)
      exact fun σ' H' O' R => fin σ' H' O' r1 .non .non R e1 (Res.at_ (H := H') .non rfl) q
    | bk r1 => cases hrun
    | ct r1 => cases hrun
end
end C

set_option Elab.async false
set_option linter.all false
set_option maxRecDepth 100000
set_option maxHeartbeats 1000000
/-! Sound17: short words: the rules with their side conditions by rfl. -/
namespace C
open PySem PySem.Spec PyProof.Rows L2

def blN : List Str := ["len", "range", "tuple", "list", "sorted", "sum", "max", "min", "zip", "enumerate", "set", "dict", "int", "str", "repr", "abs", "all", "any", "reversed", "bool", "isinstance"]
structure Cx0 (X : Cx) (k : Nat) : Prop where
  hr : Room k X.A
  hg : X.A.guards = some []
  hc : X.calm = true
  nd : X.N.Nodup
  bl : ∀ x ∈ blN, X.mg x = none
theorem Cx0.u65 {X : Cx} {k : Nat} (G : Cx0 X k) : X.A.units + 65 < cLine := by have := G.hr.un; omega
theorem Cx0.u20 {X : Cx} {k : Nat} (G : Cx0 X k) : X.A.units + 20 < cLine := by have := G.hr.un; omega
theorem Cx0.u1 {X : Cx} {k : Nat} (G : Cx0 X k) : X.A.units + 1 < cLine := by have := G.hr.un; omega
section
variable {X : Cx} {ks : List Nat} {P : Fs} {rp : D → Str} {m ma mb : Md} {pa pb pc : Bool} {pos : Pos} {a b c e : E} {cs as : List E} {x y z : Expr} {es : List Expr} {k : Nat}
theorem w_v (m : Md) (i : Nat) {nm : Str} (hN : X.N[i]? = some nm := by rfl) (hv : Vis X.env.scope nm := by first | exact Or.inl rfl | exact Or.inr (Or.inl rfl) | exact Or.inr (Or.inr rfl)) (ok : okVar m (ks.getD i 0) = true := by rfl) (hd : (nm == ("__debug__" : Str)) = false := by decide)
    (hcd : (nm == ("__classdict__" : Str)) = false := by decide) : PE X (.Name nm pos) (TEd (wdOf X) ks m true (ev P rp (.var i))) := d_var hN hv ok hd hcd
theorem w_mv (m : Md) (i : Nat) {nm : Str} (hN : X.N[i]? = some nm := by rfl) (hv : Vis X.env.scope nm := by first | exact Or.inl rfl | exact Or.inr (Or.inl rfl) | exact Or.inr (Or.inr rfl)) (nn : noOwn m = true := by rfl) (hk : ks.getD i 0 ≠ 0 := by decide) (hd : (nm == ("__debug__" : Str)) = false := by decide)
    (hcd : (nm == ("__classdict__" : Str)) = false := by decide) : PE X (.Name nm pos) (TEd (wdOf X) ks m false (ev P rp (.mv i))) := d_mv hN hv nn hk hd hcd
theorem w_int (m : Md) {i : Int} {j} : PE X (.Constant (.int i) j pos) (TEd (wdOf X) ks m true (ev P rp (.int i))) := d_const pe_int (fun _ => by simp only [ev]) rfl (.int _)
theorem w_bl (m : Md) {b : Bool} {j} : PE X (.Constant (.bool b) j pos) (TEd (wdOf X) ks m true (ev P rp (.bl b))) := d_const pe_bl (fun _ => by simp only [ev]) rfl (.bl _)
theorem w_str (m : Md) {s : Str} {j} : PE X (.Constant (.str s) j pos) (TEd (wdOf X) ks m true (ev P rp (.str s))) := d_const pe_str (fun _ => by simp only [ev]) rfl (.str _)
theorem w_nil : PA X [] (TAd (wdOf X) ks m true (evs P rp [])) := d_nil
theorem w_cons (ha : PE X x (TEd (wdOf X) ks m pa (ev P rp c))) (hr : PA X es (TAd (wdOf X) ks m pb (evs P rp cs))) (hs : starEach (x :: es) X.env = (false, eval x X.env) :: starEach es X.env := by rfl) (hm : pb = true ∨ m = .own 0 := by first | exact .inl rfl | exact .inr rfl)
    (hn : ∀ k, m ≠ .own (k + 1) := by intro k h; cases h) : PA X (x :: es) (TAd (wdOf X) ks m (pa && pb) (evs P rp (c :: cs))) := d_cons ha hr hs hm hn
theorem w_tup (m : Md) {j} (h : PA X es (TAd (wdOf X) ks (.own 0) pa (evs P rp cs))) (hl : cs.length ≤ 1000 := by decide) : PE X (.Tuple es j pos) (TEd (wdOf X) ks m pa (ev P rp (.tup cs))) := d_tup h hl fun _ _ _ e => evs_len e
def okL (m : Md) : Bool := match m with | .own (_ + 2) => false | _ => true
theorem okL_or (h : okL m = true) : m = .b ∨ m = .k ∨ m = .own 0 ∨ m = .own 1 := by
  match m, h with
  | .b, _ => exact .inl rfl
  | .k, _ => exact .inr (.inl rfl)
  | .own 0, _ => exact .inr (.inr (.inl rfl))
  | .own 1, _ => exact .inr (.inr (.inr rfl))
theorem w_lst (m : Md) (h : PA X es (TAd (wdOf X) ks (.own 0) pa (evs P rp cs))) (hl : cs.length ≤ 1000 := by decide) (hm : okL m = true := by rfl) : PE X (.List es pos) (TEd (wdOf X) ks m pa (ev P rp (.lst cs))) := d_lst h hl (fun _ _ _ e => evs_len e) (okL_or hm)
theorem w_bin (m : Md) {op : Op} (ha : PE X x (TEd (wdOf X) ks ma pa (ev P rp a))) (hb : PE X y (TEd (wdOf X) ks mb pb (ev P rp b))) (ta : isTop ma = true := by rfl) (tb : isTop mb = true := by rfl) (hm : pb = true ∨ ma = .own 0 := by first | exact .inl rfl | exact .inr rfl) (h2 : no2 m = true := by rfl) :
    PE X (.BinOp x (opOf op) y pos) (TEd (wdOf X) ks m (pa && pb) (ev P rp (.bin op a b))) := d_bin ha hb ta tb hm h2
theorem w_cmp (m : Md) (G : Cx0 X k) {op : Cm} (ha : PE X x (TEd (wdOf X) ks ma pa (ev P rp a))) (hb : PE X y (TEd (wdOf X) ks mb pb (ev P rp b))) (na : noOwn ma = true := by rfl) (nb : noOwn mb = true := by rfl) (hm : pb = true ∨ ma = .own 0 := by first | exact .inl rfl | exact .inr rfl)
    (hk : behindInMarks (cmOf op) y = false := by rfl) : PE X (.Compare x [cmOf op] [y] pos) (TEd (wdOf X) ks m (pa && pb) (ev P rp (.cmp op a b))) := d_cmp G.u65 ha hb na nb hm hk
theorem w_tcmp (G : Cx0 X k) {op : Cm} (ha : PE X x (TEd (wdOf X) ks ma pa (ev P rp a))) (hb : PE X y (TEd (wdOf X) ks mb pb (ev P rp b))) (na : noOwn ma = true := by rfl) (nb : noOwn mb = true := by rfl) (hm : pb = true ∨ ma = .own 0 := by first | exact .inl rfl | exact .inr rfl)
    (hk : behindInMarks (cmOf op) y = false := by rfl) : PT X (.Compare x [cmOf op] [y] pos) (TTd (wdOf X) ks (pa && pb) (evt P rp (.cmp op a b))) := t_cmp G.u65 ha hb na nb hm hk
theorem w_chain (m : Md) (G : Cx0 X k) {o1 o2 : Cm} (ha : PE X x (TEd (wdOf X) ks ma pa (ev P rp a))) (hb : PE X y (TEd (wdOf X) ks mb pb (ev P rp b))) (hc : PE X z (TEd (wdOf X) ks .b pc (ev P rp c))) (na : noOwn ma = true := by rfl) (nb : noOwn mb = true := by rfl)
    (hm : pb = true ∨ ma = .own 0 := by first | exact .inl rfl | exact .inr rfl) (hcm : pc = true ∨ mb = .own 0 := by first | exact .inl rfl | exact .inr rfl) (hl : lastMarks [cmOf o1, cmOf o2] [y, z] = false := by rfl) :
    PE X (.Compare x [cmOf o1, cmOf o2] [y, z] pos) (TEd (wdOf X) ks m (pa && (pb && pc)) (ev P rp (.chain o1 o2 a b c))) := d_chain G.u65 ha hb hc na nb hm hcm hl
theorem w_tchain (G : Cx0 X k) {o1 o2 : Cm} (ha : PE X x (TEd (wdOf X) ks ma pa (ev P rp a))) (hb : PE X y (TEd (wdOf X) ks mb pb (ev P rp b))) (hc : PE X z (TEd (wdOf X) ks .b pc (ev P rp c))) (na : noOwn ma = true := by rfl) (nb : noOwn mb = true := by rfl)
    (hm : pb = true ∨ ma = .own 0 := by first | exact .inl rfl | exact .inr rfl) (hcm : pc = true ∨ mb = .own 0 := by first | exact .inl rfl | exact .inr rfl) (hl : lastMarks [cmOf o1, cmOf o2] [y, z] = false := by rfl) :
    PT X (.Compare x [cmOf o1, cmOf o2] [y, z] pos) (TTd (wdOf X) ks (pa && (pb && pc)) (evt P rp (.chain o1 o2 a b c))) := t_chain G.u65 ha hb hc na nb hm hcm hl
theorem w_neg (m : Md) (ha : PE X x (TEd (wdOf X) ks ma pa (ev P rp a))) (na : noOwn ma = true := by rfl) : PE X (.UnaryOp .USub x pos) (TEd (wdOf X) ks m pa (ev P rp (.neg a))) := d_neg ha na
theorem w_not (m : Md) (ha : PE X x (TEd (wdOf X) ks ma pa (ev P rp a))) (na : noOwn ma = true := by rfl) : PE X (.UnaryOp .Not x pos) (TEd (wdOf X) ks m pa (ev P rp (.not a))) := d_not ha na
theorem w_tval (ha : PE X x (TEd (wdOf X) ks ma pa (ev P rp a))) (na : noOwn ma = true := by rfl) (he : ∀ whole, isTrue x X.env whole = (do let v ← whole; standAt x.pos; holding [v] (truthy v)) := by intro _; rfl) : PT X x (TTd (wdOf X) ks pa (evt P rp a)) := t_val ha na he
theorem w_idx (m : Md) (G : Cx0 X k) (ha : PE X x (TEd (wdOf X) ks ma pa (ev P rp a))) (hb : PE X y (TEd (wdOf X) ks mb pb (ev P rp b))) (hix : okIx m ma = true := by rfl) (nb : noOwn mb = true := by rfl) (hm : pb = true ∨ ma = .own 0 := by first | exact .inl rfl | exact .inr rfl) (hs : PlainIx y := by exact fun _ _ => rfl) :
    PE X (.Subscript x y pos) (TEd (wdOf X) ks m (pa && pb) (ev P rp (.idx a b))) := d_idx G.u65 ha hb hix nb hm hs
theorem w_slc (m : Md) {lo hi : Option Expr} {l h : List E} {p2 : Pos} (ha : PE X x (TEd (wdOf X) ks ma pa (ev P rp a))) (hl : PO X lo (TOd (wdOf X) ks pb (part P rp l))) (hh : PO X hi (TOd (wdOf X) ks pc (part P rp h))) (ta : isTop ma = true := by rfl)
    (hm : (pb && pc) = true ∨ ma = .own 0 := by first | exact .inl rfl | exact .inr rfl) (h2 : no2 m = true := by rfl) : PE X (.Subscript x (.Slice lo hi none p2) pos) (TEd (wdOf X) ks m (pa && (pb && pc)) (ev P rp (.slc a l h))) := d_slc ha hl hh ta hm h2
/-! calls -/
theorem w_anil : PA X [] (TArg (wdOf X) ks [] true P rp [] []) := a_nil
theorem w_ro {kk io : List Nat} (ha : PE X x (TEd (wdOf X) ks (.own 0) pa (ev P rp c))) (hr : PA X es (TArg (wdOf X) ks kk pb P rp cs io)) (hs : starEach (x :: es) X.env = (false, eval x X.env) :: starEach es X.env := by rfl) :
    PA X (x :: es) (TArg (wdOf X) ks (0 :: kk) (pa && pb) P rp (c :: cs) io) := a_ro ha hr hs
theorem w_io {kk io : List Nat} (j i : Nat) {nm : Str} (hr : PA X es (TArg (wdOf X) ks kk pb P rp cs io)) (hN : X.N[i]? = some nm := by rfl) (hv : Vis X.env.scope nm := by first | exact Or.inl rfl | exact Or.inr (Or.inl rfl) | exact Or.inr (Or.inr rfl))
    (hd : (nm == ("__debug__" : Str)) = false := by decide) (hcd : (nm == ("__classdict__" : Str)) = false := by decide) (hs : starEach (.Name nm pos :: es) X.env = (false, eval (.Name nm pos) X.env) :: starEach es X.env := by rfl) :
    PA X (.Name nm pos :: es) (TArg (wdOf X) ks ((j + 1) :: kk) pb P rp cs (i :: io)) := a_io hN hv hd hcd hr hs
theorem w_call (m : Md) {j n f : Nat} {kk io : List Nat} {nm : Str} {p : Pos} (G : Cx0 X k) (c : CalG X.prog X.w X.K X.mg X.base j nm (spD (wdOf X) kk n (P f))) (ha : PA X (x :: es) (TArg (wdOf X) ks kk pa P rp as io)) (hj : j ≤ k := by decide) (hg : Gl X nm := by rfl) (hk : kOk ks kk io = true := by rfl) (nd : io.Nodup := by decide)
    (hm : fits m n = true := by rfl) (hdb : (nm == ("__debug__" : Str)) = false := by decide) (he : starEach (x :: es) X.env = (false, eval x X.env) :: starEach es X.env := by rfl) (hpl : (starEach es X.env).any (·.1) = false := by rfl) :
    PE X (.Call (.Name nm p) (x :: es) [] pos) (TEd (wdOf X) ks m (pa && io.isEmpty) (ev P rp (.call f as io))) :=
  d_call c (G.hr.mono hj) G.hg hg ha hk nd hm (fun z => by cases z) hdb fun e es' z => by cases z; exact ⟨he, hpl⟩
theorem w_bcall (m : Md) {j n f : Nat} {kk : List Nat} {nm : Str} {p : Pos} (G : Cx0 X k) (c : CalG X.prog X.w X.K X.mg X.base j nm (spD (wdOf X) kk n (P f))) (ha : PA X (x :: es) (TAd (wdOf X) ks .b pa (evs P rp as))) (hj : j ≤ k := by decide) (hg : Gl X nm := by rfl) (hk : kk.all (· == 0) = true := by rfl) (hl : kk.length = as.length := by rfl)
    (hdb : (nm == ("__debug__" : Str)) = false := by decide) (he : starEach (x :: es) X.env = (false, eval x X.env) :: starEach es X.env := by rfl) (hpl : (starEach es X.env).any (·.1) = false := by rfl) :
    PE X (.Call (.Name nm p) (x :: es) [] pos) (TEd (wdOf X) ks m pa (ev P rp (.bcall f as))) := d_bcall c (G.hr.mono hj) G.hg hg ha hk hl hdb he hpl
theorem w_biB {id : String} {f : Bi} {nm : Str} {p : Pos} (G : Cx0 X k) (hc : CallR X (.builtin id) (rBi (wdOf X) ma m rp f)) (ha : PA X (x :: es) (TAd (wdOf X) ks ma pa (evs P rp as))) (hg : Gl X nm := by rfl) (hm : nm ∈ blN := by decide) (hv : bootBuiltins nm = some (.builtin id) := by rfl) (na : noOwn ma = true := by rfl)
    (hn : nm ≠ "__name__" := by decide) (hdb : (nm == ("__debug__" : Str)) = false := by decide) (he : starEach (x :: es) X.env = (false, eval x X.env) :: starEach es X.env := by rfl) (hpl : (starEach es X.env).any (·.1) = false := by rfl) :
    PE X (.Call (.Name nm p) (x :: es) [] pos) (TEd (wdOf X) ks m pa (ev P rp (.bi f as))) := d_biB hc hg (G.bl _ hm) hv ha na hn hdb he hpl
theorem w_biT {T : String} {f : Bi} {nm : Str} {p : Pos} (G : Cx0 X k) (hc : CallR X (.type T) (rBi (wdOf X) ma m rp f)) (ha : PA X (x :: es) (TAd (wdOf X) ks ma pa (evs P rp as))) (hg : Gl X nm := by rfl) (hm : nm ∈ blN := by decide) (hv : bootBuiltins nm = some (.type T) := by rfl) (na : noOwn ma = true := by rfl)
    (hn : nm ≠ "__name__" := by decide) (hdb : (nm == ("__debug__" : Str)) = false := by decide) (he : starEach (x :: es) X.env = (false, eval x X.env) :: starEach es X.env := by rfl) (hpl : (starEach es X.env).any (·.1) = false := by rfl) :
    PE X (.Call (.Name nm p) (x :: es) [] pos) (TEd (wdOf X) ks m pa (ev P rp (.bi f as))) := d_biT hc hg (G.bl _ hm) hv ha na hn hdb he hpl
end
end C

set_option Elab.async false
set_option linter.all false
set_option maxRecDepth 100000
set_option maxHeartbeats 1000000
/-! Sound18: short words: iterators, comprehensions, statements. -/
namespace C
open PySem PySem.Spec PyProof.Rows L2

section
variable {X : Cx} {ks : List Nat} {P : Fs} {rp : D → Str} {m ma mb : Md} {pa pb pc pe pi : Bool} {pos : Pos} {a b c e : E} {cs as : List E} {x y z : Expr} {es : List Expr} {k : Nat}
theorem Cx0.blk (G : Cx0 X k) {s : Shared} {H : Hp} {scope : Scope} {cenv : PySem.Env} {fp : List Addr} : Cx0 (X.blk s H scope cenv fp) k := ⟨G.hr, G.hg, G.hc, G.nd, G.bl⟩
theorem w_tone (h : PT X x (TTd (wdOf X) ks pa (evt P rp a))) {op : BoolOp} (h2 : op = .And ∨ op = .Or := by first | exact .inl rfl | exact .inr rfl) : PW X (.BoolOp op [x] pos) (TTd (wdOf X) ks pa (evt P rp a)) := by
  rcases h2 with rfl | rfl
  · exact t_and1 h
  · exact t_or1 h
/-! iterators -/
theorem w_ival (fz : Bool) {tg : Expr} (ha : PE X x (TEd (wdOf X) ks ma pa (ev P rp a))) (h : okIt fz ma = true := by rfl) : PI X tg x (TId (wdOf X) ks fz pa (iterE P rp a)) := i_val ha h
theorem w_irange1 (fz : Bool) {tg : Expr} {p : Pos} (G : Cx0 X k) (ha : PA X [x] (TAd (wdOf X) ks .b pa (evs P rp as))) (hg : Gl X "range" := by rfl) (hs : starEach [x] X.env = [(false, eval x X.env)] := by rfl) : PI X tg (.Call (.Name "range" p) [x] [] pos) (TId (wdOf X) ks fz pa (iterE P rp (.bi .range1 as))) :=
  i_range1 hg (G.bl _ (by decide)) ha hs
theorem w_irange2 (fz : Bool) {tg : Expr} {p : Pos} (G : Cx0 X k) (ha : PA X [x, y] (TAd (wdOf X) ks .b pa (evs P rp as))) (hg : Gl X "range" := by rfl) (hs : starEach [x, y] X.env = [(false, eval x X.env), (false, eval y X.env)] := by rfl) (hs2 : starEach [y] X.env = [(false, eval y X.env)] := by rfl) :
    PI X tg (.Call (.Name "range" p) [x, y] [] pos) (TId (wdOf X) ks fz pa (iterE P rp (.bi .range2 as))) := i_range2 hg (G.bl _ (by decide)) ha hs hs2
theorem w_ienum (fz : Bool) {elts : List Expr} {kk : Nat} {tpos p : Pos} (G : Cx0 X k) (ha : PA X [x] (TAd (wdOf X) ks ma pa (evs P rp as))) (h : okIt fz ma = true := by rfl) (hg : Gl X "enumerate" := by rfl) (hs : starEach [x] X.env = [(false, eval x X.env)] := by rfl) :
    PI X (.Tuple elts kk tpos) (.Call (.Name "enumerate" p) [x] [] pos) (TId (wdOf X) ks fz pa (iterE P rp (.bi .enum as))) := i_enum hg (G.bl _ (by decide)) ha h hs
theorem w_izip (fz : Bool) {elts : List Expr} {kk : Nat} {tpos p : Pos} (G : Cx0 X k) (ha : PA X [x, y] (TAd (wdOf X) ks ma pa (evs P rp as))) (h : okIt fz ma = true := by rfl) (hg : Gl X "zip" := by rfl) (hs : starEach [x, y] X.env = (false, eval x X.env) :: starEach [y] X.env := by rfl) (hpl : (starEach [y] X.env).any (·.1) = false := by rfl) :
    PI X (.Tuple elts kk tpos) (.Call (.Name "zip" p) [x, y] [] pos) (TId (wdOf X) ks fz pa (iterE P rp (.bi .zip2 as))) := i_zip hg (G.bl _ (by decide)) ha h hs hpl
/-! targets -/
theorem w_nm (G : Cx0 X k) (i : Nat) {nm : Str} (hi : X.N[i]? = some nm := by rfl) (hx : Loc X.env.scope nm := by first | exact Or.inl rfl | exact Or.inr rfl) (hf : X.fn nm = true ∨ X.env.scope.names.lookup nm = some .local := by first | exact .inl rfl | exact .inr rfl) (hk : ks.getD i 0 = 0 := by rfl) : PG X (.Name nm pos) (gD (wdOf X) ks (.nm i)) := g_name G.nd hi hx hf hk
theorem w_tnil : PGs X [] (gDs (wdOf X) ks []) := gs_nil
theorem w_tcons {t : Tg} {ts : List Tg} (h1 : PG X x (gD (wdOf X) ks t)) (h2 : PGs X es (gDs (wdOf X) ks ts)) (hs : (assignEach (x :: es) X.env).map (·.2) = assign x X.env :: (assignEach es X.env).map (·.2) := by rfl) : PGs X (x :: es) (gDs (wdOf X) ks (t :: ts)) := gs_cons h1 h2 hs
theorem w_ttup (G : Cx0 X k) {j : Nat} {ts : List Tg} (h : PGs X es (gDs (wdOf X) ks ts)) (hn : (assignEach es X.env).length = ts.length := by rfl) (hst : (assignEach es X.env).findIdx? (·.1) = none := by rfl) : PG X (.Tuple es j pos) (gD (wdOf X) ks (.tup ts)) := g_tup G.hc h hn hst
/-! comprehensions -/
def sameB (a b : List Nat) : Bool := a.all (fun i => decide (i ∈ b)) && b.all fun i => decide (i ∈ a)
theorem sameB_ok {a b : List Nat} (h : sameB a b = true) (i : Nat) : i ∈ a ↔ i ∈ b := by
  unfold sameB at h
  simp only [Bool.and_eq_true, List.all_eq_true, decide_eq_true_eq] at h
  exact ⟨h.1 i, h.2 i⟩
theorem zero_ok {S : List Nat} (h : (S.all fun i => ks.getD i 0 == 0) = true) : ∀ i ∈ S, ks.getD i 0 = 0 := fun i hi => by
  rw [List.all_eq_true] at h
  simpa using h i hi
theorem w_lc (m : Md) (G : Cx0 X k) (fz : Bool) (own : List (Str × Nat)) {t : Tg} {tg iter elt : Expr} {ifs : List Expr} {scope : Scope} (hi : PI X tg iter (TId (wdOf X) ks fz pi (iterE P rp a)))
    (hg : ∀ (s : Shared) (H : Hp) (C : Addr) (cl : List (Str × Addr)) (fp : List Addr), PG (X.blk s H scope (compEnvC scope cl C X.env) fp) tg (gD (wdOf X) ks t))
    (ht : ∀ (s : Shared) (H : Hp) (C : Addr) (cl : List (Str × Addr)) (fp : List Addr), PTs (X.blk s H scope (compEnvC scope cl C X.env) fp) ifs (TTd (wdOf X) ks pc (evc P rp cs)))
    (he : ∀ (s : Shared) (H : Hp) (C : Addr) (cl : List (Str × Addr)) (fp : List Addr), PE (X.blk s H scope (compEnvC scope cl C X.env) fp) elt (TEd (wdOf X) ks (.own 0) pe (ev P rp e)))
    (hv : sameB (own.map (·.2)) t.slots = true := by decide) (hk : (t.slots.all fun i => ks.getD i 0 == 0) = true := by decide) (hf : (pc && pe) = false → fz = true := by intro h; first | rfl | cases h) (hm : fits m 1 = true := by rfl)
    (ok : blkC X.N X.env.scope scope own = true := by rfl) (hs : ∀ x, foldedSetIterable iter X.env x = pure x := by intro _; rfl) :
    PE X (.ListComp elt [⟨tg, iter, ifs, 0⟩] scope pos) (TEd (wdOf X) ks m (pi && (pc && pe)) (ev P rp (.lc t a cs e))) :=
  PE.imp (pe_lc G.hc G.nd hi (blkOk_by ok) hg ht he hs) fun σ H Q h => lc_rd (sameB_ok hv) (zero_ok hk) hf hm h
theorem w_lc2 (m : Md) (G : Cx0 X k) (fz : Bool) (own : List (Str × Nat)) (vs1 : List Nat) {pj pd : Bool} {t t2 : Tg} {a2 : E} {cs2 : List E} {tg iter elt tg1 iter1 : Expr} {ifs ifs1 : List Expr} {scope : Scope} (hi : PI X tg iter (TId (wdOf X) ks fz pi (iterE P rp a)))
    (hg : ∀ (s : Shared) (H : Hp) (C : Addr) (cl : List (Str × Addr)) (fp : List Addr), PG (X.blk s H scope (compEnvC scope cl C X.env) fp) tg (gD (wdOf X) ks t))
    (ht : ∀ (s : Shared) (H : Hp) (C : Addr) (cl : List (Str × Addr)) (fp : List Addr), PTs (X.blk s H scope (compEnvC scope cl C X.env) fp) ifs (TTd (wdOf X) ks pc (evc P rp cs)))
    (hi1 : ∀ (s : Shared) (H : Hp) (C : Addr) (cl : List (Str × Addr)) (fp : List Addr), PI (X.blk s H scope (compEnvC scope cl C X.env) fp) tg1 iter1 (TId (wdOf X) ks true pj (iterE P rp a2)))
    (hg1 : ∀ (s : Shared) (H : Hp) (C : Addr) (cl : List (Str × Addr)) (fp : List Addr), PG (X.blk s H scope (compEnvC scope cl C X.env) fp) tg1 (gD (wdOf X) ks t2))
    (ht1 : ∀ (s : Shared) (H : Hp) (C : Addr) (cl : List (Str × Addr)) (fp : List Addr), PTs (X.blk s H scope (compEnvC scope cl C X.env) fp) ifs1 (TTd (wdOf X) ks pd (evc P rp cs2)))
    (he : ∀ (s : Shared) (H : Hp) (C : Addr) (cl : List (Str × Addr)) (fp : List Addr), PE (X.blk s H scope (compEnvC scope cl C X.env) fp) elt (TEd (wdOf X) ks (.own 0) pe (ev P rp e)))
    (hv : sameB (own.map (·.2)) (t.slots ++ t2.slots) = true := by decide) (hv1 : sameB vs1 t2.slots = true := by decide) (hvo : ∀ i ∈ vs1, i ∈ own.map (·.2) := by decide) (hk : ((t.slots ++ t2.slots).all fun i => ks.getD i 0 == 0) = true := by decide) (hf : (pc && (pj && (pd && pe))) = false → fz = true := by intro h; first | rfl | cases h) (hm : fits m 1 = true := by rfl)
    (ok : blkC X.N X.env.scope scope own = true := by rfl) (hs : ∀ x, foldedSetIterable iter X.env x = pure x := by intro _; rfl) (hs1 : ∀ env x, foldedSetIterable iter1 env x = pure x := by intro _ _; rfl) :
    PE X (.ListComp elt [⟨tg, iter, ifs, 0⟩, ⟨tg1, iter1, ifs1, 0⟩] scope pos) (TEd (wdOf X) ks m (pi && (pc && (pj && (pd && pe)))) (ev P rp (.lc2 t a cs t2 a2 cs2 e))) :=
  PE.imp (pe_lc2 G.hc G.nd hi (blkOk_by ok) hvo hg ht hi1 hg1 ht1 he hs hs1) fun σ H Q h => lc2_rd (sameB_ok hv) (sameB_ok hv1) (zero_ok hk) hf hm h
/-! statements -/
variable {B : Base} {ret n : Nat} {s : S} {ss bs : List S} {st0 : Stmt} {rest body other : List Stmt}
theorem w_asg (G : Cx0 X k) (bo : B.Ok) (i : Nat) {nm : Str} {pos' : Pos} (he : PE X x (TEd (wdOf X) ks (.own 0) pa (ev P rp e))) (hi : X.N[i]? = some nm := by rfl) (hx : Loc X.env.scope nm := by first | exact Or.inl rfl | exact Or.inr rfl) (hs : swapsWith x (some (.Name nm pos')) pos.line X.env = pure false := by rfl)
    (hf : X.fn nm = true ∨ X.env.scope.names.lookup nm = some .local := by first | exact .inl rfl | exact .inr rfl) (hk : ks.getD i 0 = 0 := by rfl) : PS X (.Assign [.Name nm pos'] x pos) (TSd (wdOf X) ks B ret (st P rp n (.asg (.nm i) e))) := s_asg0 bo G.nd hi hx he hs hf hk
theorem w_asgK (G : Cx0 X k) (bo : B.Ok) {np : Nat} (bn : B.np = np) (i j : Nat) {nm : Str} {pos' : Pos} (he : PE X x (TEd (wdOf X) ks (.own (j + 1)) pa (ev P rp e))) (hi : X.N[i]? = some nm := by rfl) (hx : Loc X.env.scope nm := by first | exact Or.inl rfl | exact Or.inr rfl) (hs : swapsWith x (some (.Name nm pos')) pos.line X.env = pure false := by rfl)
    (hf : X.fn nm = true ∨ X.env.scope.names.lookup nm = some .local := by first | exact .inl rfl | exact .inr rfl) (hp : np ≤ i := by decide) (hk : ks.getD i 0 = j + 1 := by rfl) (ht : nts e = true := by rfl) : PS X (.Assign [.Name nm pos'] x pos) (TSd (wdOf X) ks B ret (st P rp n (.asg (.nm i) e))) := s_asgK bo G.nd hi hx he hs hf (by rw [bn]; exact hp) hk ht
/-- name = [..] on one line, the name a local: by the reading of the comprehension -/
theorem w_asgLc (G : Cx0 X k) (bo : B.Ok) (fz : Bool) (own : List (Str × Nat)) (i : Nat) {nm : Str} {py spos : Pos} {t : Tg} {tg iter elt : Expr} {ifs : List Expr} {scope : Scope} (hi : PI X tg iter (TId (wdOf X) ks fz pi (iterE P rp a)))
    (hg : ∀ (s : Shared) (H : Hp) (C : Addr) (cl : List (Str × Addr)) (fp : List Addr), PG (X.blk s H scope (compEnvC scope cl C X.env) fp) tg (gD (wdOf X) ks t))
    (ht : ∀ (s : Shared) (H : Hp) (C : Addr) (cl : List (Str × Addr)) (fp : List Addr), PTs (X.blk s H scope (compEnvC scope cl C X.env) fp) ifs (TTd (wdOf X) ks pc (evc P rp cs)))
    (he : ∀ (s : Shared) (H : Hp) (C : Addr) (cl : List (Str × Addr)) (fp : List Addr), PE (X.blk s H scope (compEnvC scope cl C X.env) fp) elt (TEd (wdOf X) ks (.own 0) pe (ev P rp e)))
    (hN : X.N[i]? = some nm := by rfl) (hyl : X.env.scope.names.lookup nm = some .local := by rfl) (hsw : swapsWith (.ListComp elt [⟨tg, iter, ifs, 0⟩] scope pos) (some (.Name nm py)) spos.line X.env = pure true := by rfl) (hki : ks.getD i 0 = 0 := by rfl)
    (hv : sameB (own.map (·.2)) t.slots = true := by decide) (hk : (t.slots.all fun i => ks.getD i 0 == 0) = true := by decide) (hf : (pc && pe) = false → fz = true := by intro h; first | rfl | cases h)
    (ok : blkC X.N X.env.scope scope own = true := by rfl) (hs : ∀ x, foldedSetIterable iter X.env x = pure x := by intro _; rfl) :
    PS X (.Assign [.Name nm py] (.ListComp elt [⟨tg, iter, ifs, 0⟩] scope pos) spos) (TSd (wdOf X) ks B ret (st P rp n (.asg (.nm i) (.lc t a cs e)))) :=
  PS.imp (ps_setLc G.hc G.nd hN hyl hsw hi (blkOk_by ok) hg ht he hs) fun D σ H h => lc_rd (m := .own 0) (sameB_ok hv) (zero_ok hk) hf rfl (asg0_rd (pa := pi && (pc && pe)) bo hki h)
theorem w_asgLcK (G : Cx0 X k) (bo : B.Ok) {np : Nat} (bn : B.np = np) (fz : Bool) (own : List (Str × Nat)) (i : Nat) {nm : Str} {py spos : Pos} {t : Tg} {tg iter elt : Expr} {ifs : List Expr} {scope : Scope} (hi : PI X tg iter (TId (wdOf X) ks fz pi (iterE P rp a)))
    (hg : ∀ (s : Shared) (H : Hp) (C : Addr) (cl : List (Str × Addr)) (fp : List Addr), PG (X.blk s H scope (compEnvC scope cl C X.env) fp) tg (gD (wdOf X) ks t))
    (ht : ∀ (s : Shared) (H : Hp) (C : Addr) (cl : List (Str × Addr)) (fp : List Addr), PTs (X.blk s H scope (compEnvC scope cl C X.env) fp) ifs (TTd (wdOf X) ks pc (evc P rp cs)))
    (he : ∀ (s : Shared) (H : Hp) (C : Addr) (cl : List (Str × Addr)) (fp : List Addr), PE (X.blk s H scope (compEnvC scope cl C X.env) fp) elt (TEd (wdOf X) ks (.own 0) pe (ev P rp e)))
    (hN : X.N[i]? = some nm := by rfl) (hyl : X.env.scope.names.lookup nm = some .local := by rfl) (hsw : swapsWith (.ListComp elt [⟨tg, iter, ifs, 0⟩] scope pos) (some (.Name nm py)) spos.line X.env = pure true := by rfl) (hki : ks.getD i 0 = 1 := by rfl) (hp : np ≤ i := by decide)
    (hv : sameB (own.map (·.2)) t.slots = true := by decide) (hk : (t.slots.all fun i => ks.getD i 0 == 0) = true := by decide) (hf : (pc && pe) = false → fz = true := by intro h; first | rfl | cases h)
    (ok : blkC X.N X.env.scope scope own = true := by rfl) (hs : ∀ x, foldedSetIterable iter X.env x = pure x := by intro _; rfl) :
    PS X (.Assign [.Name nm py] (.ListComp elt [⟨tg, iter, ifs, 0⟩] scope pos) spos) (TSd (wdOf X) ks B ret (st P rp n (.asg (.nm i) (.lc t a cs e)))) :=
  PS.imp (ps_setLc G.hc G.nd hN hyl hsw hi (blkOk_by ok) hg ht he hs) fun D σ H h => lc_rd (m := .own 1) (sameB_ok hv) (zero_ok hk) hf rfl (asgK_rd (pa := pi && (pc && pe)) bo (by rw [bn]; exact hp) hki rfl h)
theorem w_expr (bo : B.Ok) (h : PE X x (TEd (wdOf X) ks m pa (ev P rp e))) (hs : swapsWith x none pos.line X.env = pure false := by rfl) : PS X (.Expr x pos) (TSd (wdOf X) ks B ret (st P rp n (.expr e))) := s_expr bo h hs
theorem w_asgT (bo : B.Ok) {tg : Expr} {t : Tg} (he : PE X x (TEd (wdOf X) ks (.own 0) pa (ev P rp e))) (hg : PG X tg (gD (wdOf X) ks t)) (hs : swapsWithSole [tg] x pos.line X.env = pure false := by rfl) (hw : swappedStores [tg] x X.env = pure none := by rfl)
    (h1 : (assignEach [tg] X.env).map (·.2) = [assign tg X.env] := by rfl) (hk : (t.slots.all fun i => ks.getD i 0 == 0) = true := by decide) : PS X (.Assign [tg] x pos) (TSd (wdOf X) ks B ret (st P rp n (.asg t e))) := s_asgT bo he hg hs hw h1 (zero_ok hk)
theorem w_par (G : Cx0 X k) (bo : B.Ok) {np : Nat} (bn : B.np = np) (i j : Nat) {nx ny : Str} {px py pt pt2 : Pos} {kt k2} {c : E} (ha : PE X x (TEd (wdOf X) ks (.own (ks.getD i 0)) pa (ev P rp c))) (hb : PE X y (TEd (wdOf X) ks (.own (ks.getD j 0)) pb (ev P rp e)))
    (hi : X.N[i]? = some nx := by rfl) (hj : X.N[j]? = some ny := by rfl) (hij : i ≠ j := by decide) (hx : X.env.scope.names.lookup nx = some .local := by rfl) (hy : X.env.scope.names.lookup ny = some .local := by rfl)
    (ni : ks.getD i 0 ≠ 0 → np ≤ i := by decide) (nj : ks.getD j 0 ≠ 0 → np ≤ j := by decide) (ti : nts0 ks i c = true := by rfl) (tj : nts0 ks j e = true := by rfl)
    (hs1 : starEach [x, y] X.env = (false, eval x X.env) :: starEach [y] X.env := by rfl) (hs2 : starEach [y] X.env = (false, eval y X.env) :: starEach [] X.env := by rfl)
    (hw : swappedStores [.Tuple [.Name nx px, .Name ny py] kt pt] (.Tuple [x, y] k2 pt2) X.env = pure (some [nx, ny]) := by rfl) (hs : swapsWithSole [.Tuple [.Name nx px, .Name ny py] kt pt] (.Tuple [x, y] k2 pt2) pos.line X.env = pure false := by rfl) :
    PS X (.Assign [.Tuple [.Name nx px, .Name ny py] kt pt] (.Tuple [x, y] k2 pt2) pos) (TSd (wdOf X) ks B ret (st P rp n (.par [i, j] [c, e]))) :=
  s_par bo G.hc G.nd hi hj hij hx hy ha hb (fun z => by rw [bn]; exact ni z) (fun z => by rw [bn]; exact nj z) ti tj hs1 hs2 hw hs
theorem w_for (G : Cx0 X k) (bo : B.Ok) {tg : Expr} {t : Tg} {np : Nat} (bn : B.np = np) (hi : PI X tg x (TId (wdOf X) ks true pa (iterE P rp a))) (hg : PG X tg (gD (wdOf X) ks t)) (hb : ∀ B' : Base, B'.Ok → B'.np = np → PSs X body (TSd (wdOf X) ks B' ret (sts P rp n bs)))
    (hp : PassesOwn (model X.prog X.w) X.A X.env X.xe := by exact PassesOwn.never) (hk : (t.slots.all fun i => ks.getD i 0 == 0) = true := by decide) (hs : ∀ v, foldedSetIterable x X.env v = pure v := by intro _; rfl) :
    PS X (.For tg x body [] pos) (TSd (wdOf X) ks B ret (st P rp n (.for_ t a bs))) := s_for bo hp G.hc hi hg (zero_ok hk) (fun B' o e => hb B' o (by rw [e, bn])) hs
theorem w_while (bo : B.Ok) (hc : PT X x (TTd (wdOf X) ks pa (evt P rp c))) (hb : PSs X body (TSd (wdOf X) ks B ret (sts P rp n bs))) (hp : PassesOwn (model X.prog X.w) X.A X.env X.xe := by exact PassesOwn.never) :
    PS X (.While x body [] pos) (TSd (wdOf X) ks B ret (st P rp n (.while_ c bs))) := s_while bo hp hc hb
theorem w_retMv (bo : B.Ok) {np : Nat} (bn : B.np = np) (i : Nat) {nm : Str} {pos2 : Pos} (hN : X.N[i]? = some nm := by rfl) (hv : Vis X.env.scope nm := by first | exact Or.inl rfl | exact Or.inr (Or.inl rfl) | exact Or.inr (Or.inr rfl)) (hi : np ≤ i := by decide) (hk : ks.getD i 0 = ret := by rfl) (hr : ret ≠ 0 := by decide) (hd : (nm == ("__debug__" : Str)) = false := by decide)
    (hcd : (nm == ("__classdict__" : Str)) = false := by decide) : PS X (.Return (some (.Name nm pos)) pos2) (TSd (wdOf X) ks B ret (st P rp n (.ret (.mv i)))) := s_retMv hN hv hd hcd (by rw [bn]; exact hi) hk hr bo
theorem w_aug (G : Cx0 X k) (bo : B.Ok) (i : Nat) {nm : Str} {pos' : Pos} {op : Op} {o : Operator} {fi : Int → Int → Int} (he : PE X x (TEd (wdOf X) ks .b pa (ev P rp e))) (ho : ipOf op = some (o, fi) := by rfl) (hi : X.N[i]? = some nm := by rfl) (hx : Loc X.env.scope nm := by first | exact Or.inl rfl | exact Or.inr rfl)
    (hf : X.fn nm = true ∨ X.env.scope.names.lookup nm = some .local := by first | exact .inl rfl | exact .inr rfl) (hk : ks.getD i 0 = 0 := by rfl) : PS X (.AugAssign (.Name nm pos') o x pos) (TSd (wdOf X) ks B ret (st P rp n (.aug i op e))) := s_aug bo ho G.nd hi hx hf hk he
theorem w_set1 (G : Cx0 X k) (bo : B.Ok) (i : Nat) {nm : Str} {p1 p2 : Pos} (he : PE X x (TEd (wdOf X) ks (.own 0) pa (ev P rp e))) (hi : PE X y (TEd (wdOf X) ks .b pb (ev P rp a))) (hN : X.N[i]? = some nm := by rfl) (hv : Vis X.env.scope nm := by first | exact Or.inl rfl | exact Or.inr (Or.inl rfl) | exact Or.inr (Or.inr rfl))
    (hk : ks.getD i 0 = 1 := by rfl) (hd : (nm == ("__debug__" : Str)) = false := by decide) (hcd : (nm == ("__classdict__" : Str)) = false := by decide)
    (ha : ∀ v, assign (.Subscript (.Name nm p1) y p2) X.env v = (do
      let ov ← holding [v] (eval (.Name nm p1) X.env)
      let iv ← holding [v, ov] (eval y X.env)
      standAt p2
      holding [v, ov, iv] (setItem ov iv v)
      release [v, ov, iv] []) := by intro _; rfl)
    (hs : swapsWithSole [.Subscript (.Name nm p1) y p2] x pos.line X.env = pure false := by rfl) (hw : swappedStores [.Subscript (.Name nm p1) y p2] x X.env = pure none := by rfl) (h1 : (assignEach [.Subscript (.Name nm p1) y p2] X.env).map (·.2) = [assign (.Subscript (.Name nm p1) y p2) X.env] := by rfl) :
    PS X (.Assign [.Subscript (.Name nm p1) y p2] x pos) (TSd (wdOf X) ks B ret (st P rp n (.set1 i a e))) := s_set1 bo G.u1 hN hv hd hcd hk he hi ha hs hw h1
theorem w_aug1 (G : Cx0 X k) (bo : B.Ok) (i : Nat) {nm : Str} {p1 p2 : Pos} {op : Op} {o : Operator} {fi : Int → Int → Int} (he : PE X x (TEd (wdOf X) ks .b pa (ev P rp e))) (hi : PE X y (TEd (wdOf X) ks (.own 0) pb (ev P rp a))) (ho : ipOf op = some (o, fi) := by rfl) (hN : X.N[i]? = some nm := by rfl)
    (hv : Vis X.env.scope nm := by first | exact Or.inl rfl | exact Or.inr (Or.inl rfl) | exact Or.inr (Or.inr rfl)) (hk : ks.getD i 0 = 1 := by rfl) (hd : (nm == ("__debug__" : Str)) = false := by decide) (hcd : (nm == ("__classdict__" : Str)) = false := by decide)
    (ha : ∀ ov iv new, augStore y ov iv new = (do holding [new, ov, iv] (setItem ov iv new); release [new, ov, iv] []; pure .next) := by intros; rfl) :
    PS X (.AugAssign (.Subscript (.Name nm p1) y p2) o x pos) (TSd (wdOf X) ks B ret (st P rp n (.aug1 i a op e))) := s_aug1 bo ho G.u1 hN hv hd hcd hk he hi ha
theorem w_mc {id : String} {f : Mu} {r : V → List V → Hp → VK → Prop} {name : Str} (slot : PySem.Slot "list" name id) (hty : typeOf (.builtin id) = pure (.type "method_descriptor")) (hm : MtR X id r) (mo : MuOk (wdOf X) f r) (bo : B.Ok) (i : Nat) {nm : Str} {p1 apos cpos : Pos}
    (ha : PA X (x :: es) (TAd (wdOf X) ks (muMd f) pa (evs P rp as))) (hN : X.N[i]? = some nm := by rfl) (hv : Vis X.env.scope nm := by first | exact Or.inl rfl | exact Or.inr (Or.inl rfl) | exact Or.inr (Or.inr rfl)) (hk : ks.getD i 0 = 1 := by rfl)
    (hd : (nm == ("__debug__" : Str)) = false := by decide) (hcd : (nm == ("__classdict__" : Str)) = false := by decide)
    (hbase : attributeBase (.Name nm p1) name X.env (eval (.Name nm p1) X.env) = eval (.Name nm p1) X.env := by rfl)
    (hfew : ((backTo cpos (starEach (x :: es) X.env)).all (fun x => !x.1) && (backToKw cpos (keywordEach [] X.env)).all (fun x => x.1.isSome)
      && decide ((x :: es).length + ([] : List Keyword).length + (if ([] : List Keyword).isEmpty then 0 else 1) < 30)) = true := by rfl)
    (hline : (apos.endLine == cpos.line) = true := by rfl) (hs : starEach (x :: es) X.env = (false, eval x X.env) :: starEach es X.env := by rfl) (hpl : (starEach es X.env).any (·.1) = false := by rfl)
    (hsw : swapsWith (.Call (.Attribute (.Name nm p1) name apos) (x :: es) [] cpos) none pos.line X.env = pure false := by rfl) :
    PS X (.Expr (.Call (.Attribute (.Name nm p1) name apos) (x :: es) [] cpos) pos) (TSd (wdOf X) ks B ret (st P rp n (.mcall f i [] as))) :=
  s_mcall bo slot hty hm mo hN hv hd hcd hk ha hbase hfew hline hs hpl hsw
end
end C
namespace C
open PySem PySem.Spec PyProof.Rows L2
section
variable {X : Cx} {ks : List Nat} {P : Fs} {rp : D → Str} {m ma mb : Md} {pa : Bool} {pos : Pos} {a : E} {x : Expr} {k : Nat}
theorem w_non (m : Md) {j} : PE X (.Constant .none j pos) (TEd (wdOf X) ks m true (ev P rp .non)) := d_const pe_non (fun _ => by simp only [ev]) rfl .non
theorem w_listRg1 (m : Md) (G : Cx0 X k) {p p2 pos2 : Pos} (ha : PE X x (TEd (wdOf X) ks .b pa (ev P rp a))) (h2 : no2 m = true := by rfl) (hg : Gl X "list" := by rfl) (hg2 : Gl X "range" := by rfl)
    (na : starEach [x] X.env = (false, eval x X.env) :: starEach [] X.env := by rfl) (na2 : starEach [.Call (.Name "range" p2) [x] [] pos2] X.env = (false, eval (.Call (.Name "range" p2) [x] [] pos2) X.env) :: starEach [] X.env := by rfl) :
    PE X (.Call (.Name "list" p) [.Call (.Name "range" p2) [x] [] pos2] [] pos) (TEd (wdOf X) ks m pa (ev P rp (.bi .list [.bi .range1 [a]]))) :=
  d_listRg1 G.hc h2 hg (G.bl _ (by decide)) hg2 (G.bl _ (by decide)) ha fun y hy => by
    rcases hy with rfl | rfl
    · exact na
    · exact na2
end
section
variable {P : Program} {w : World} {K : PySem.W.Frag} {mg : Str → Option Value} {base : Heap} {rp : D → Str}
theorem fn_core2 {x qual : Str} {st0 : Stmt} {f : Addr} {fd : FuncData} {N ps : List Str} {k n : Nat} (fn : Fn) (Pf : Fs) (F : L2.Fun K x qual st0 f fd) (S : FnScope N ps (defScope st0)) (hks : fn.ks.length = N.length) (hnp : fn.np = ps.length) (bl : ∀ x ∈ blN, mg x = none)
    (hbody : ∀ (cdv : Value) (A : Around) (outer : List PySem.Env) (s : Shared) (H : Hp) (E : XK), Cx0 (cxOf CX0 P w K mg base N qual (defScope st0) f cdv A outer s H E).nox k → ∀ B : Base, B.Ok → B.np = fn.np →
      PSs (cxOf CX0 P w K mg base N qual (defScope st0) f cdv A outer s H E).nox (defBody st0) (TSd ⟨K, P, w⟩ fn.ks B fn.ret (sts Pf rp n fn.body))) :
    FnG P w K mg base CX0 (k + 1) f fd ps (spD ⟨K, P, w⟩ (fn.ks.take fn.np) fn.ret (fun ros ios => fn.run Pf rp n ros ios)) :=
  fn_core fn Pf F S hks hnp fun cdv A outer s H E hg hr B bo bn => hbody cdv A outer s H E ⟨hr, hg, rfl, S.nd, bl⟩ B bo bn
end
end C

namespace C
open PySem PySem.Spec PyProof.Rows L2
section
variable {X : Cx} {ks : List Nat} {P : Fs} {rp : D → Str} {B : Base} {ret n : Nat} {pa pb : Bool} {pos : Pos} {k : Nat}
/-- a, b = x, y where one is captured: by way of a tuple -/
theorem w_parT (G : Cx0 X k) (bo : B.Ok) {np : Nat} (bn : B.np = np) (i j : Nat) {nx ny : Str} {px py pt pt2 : Pos} {kt k2} {x y : Expr} {c e : E}
    (ha : PE X x (TEd (wdOf X) ks (.own (ks.getD i 0)) pa (ev P rp c))) (hb : PE X y (TEd (wdOf X) ks (.own (ks.getD j 0)) pb (ev P rp e)))
    (hi : X.N[i]? = some nx := by rfl) (hj : X.N[j]? = some ny := by rfl) (hij : i ≠ j := by decide) (hx : Loc X.env.scope nx := by first | exact Or.inl rfl | exact Or.inr rfl) (hy : Loc X.env.scope ny := by first | exact Or.inl rfl | exact Or.inr rfl)
    (fx : X.fn nx = true ∨ X.env.scope.names.lookup nx = some .local := by first | exact .inl rfl | exact .inr rfl) (fy : X.fn ny = true ∨ X.env.scope.names.lookup ny = some .local := by first | exact .inl rfl | exact .inr rfl)
    (ni : ks.getD i 0 ≠ 0 → np ≤ i := by decide) (nj : ks.getD j 0 ≠ 0 → np ≤ j := by decide) (ti : nts0 ks i c = true := by rfl) (tj : nts0 ks j e = true := by rfl)
    (hs1 : starEach [x, y] X.env = (false, eval x X.env) :: starEach [y] X.env := by rfl) (hs2 : starEach [y] X.env = (false, eval y X.env) :: starEach [] X.env := by rfl)
    (hs : swapsWithSole [.Tuple [.Name nx px, .Name ny py] kt pt] (.Tuple [x, y] k2 pt2) pos.line X.env = pure false := by rfl) (hw : swappedStores [.Tuple [.Name nx px, .Name ny py] kt pt] (.Tuple [x, y] k2 pt2) X.env = pure none := by rfl)
    (h1 : (assignEach [.Tuple [.Name nx px, .Name ny py] kt pt] X.env).map (·.2) = [assign (.Tuple [.Name nx px, .Name ny py] kt pt) X.env] := by rfl)
    (hn : (assignEach [.Name nx px, .Name ny py] X.env).length = 2 := by rfl) (hst : (assignEach [.Name nx px, .Name ny py] X.env).findIdx? (·.1) = none := by rfl)
    (ha1 : (assignEach [.Name nx px, .Name ny py] X.env).map (·.2) = assign (.Name nx px) X.env :: (assignEach [.Name ny py] X.env).map (·.2) := by rfl) (ha2 : (assignEach [.Name ny py] X.env).map (·.2) = assign (.Name ny py) X.env :: (assignEach [] X.env).map (·.2) := by rfl) :
    PS X (.Assign [.Tuple [.Name nx px, .Name ny py] kt pt] (.Tuple [x, y] k2 pt2) pos) (TSd (wdOf X) ks B ret (st P rp n (.par [i, j] [c, e]))) := by
  refine PS.imp (ps_asg (pe_tup (pa_cons ha (pa_cons hb pa_nil hs2) hs1)) (pg_tup G.hc (pgs_cons (pg_name G.nd hi hx fx) (pgs_cons (pg_name G.nd hj hy fy) pgs_nil ha2) ha1) hn hst) hs hw h1) fun D σ H ⟨O, ρ, fl, R, e0, lv, f⟩ => ?_
  simp only [st, evs] at e0
  obtain ⟨⟨ds, r⟩, e1, e0⟩ := bind_ok e0
  obtain ⟨⟨d1, r1⟩, e2, e1⟩ := bind_ok e1
  obtain ⟨⟨ds2, r2⟩, e3, e1⟩ := bind_ok e1
  obtain ⟨⟨d2, r3⟩, e4, e3⟩ := bind_ok e3
  obtain ⟨⟨ds4, r4⟩, e5, e3⟩ := bind_ok e3
  injection e5 with e5
  obtain ⟨rfl, rfl⟩ := Prod.mk.inj e5
  obtain ⟨rfl, rfl⟩ := Prod.mk.inj (pure_inj e3)
  obtain ⟨rfl, rfl⟩ := Prod.mk.inj (pure_inj e1)
  obtain ⟨r5, e6, e0⟩ := bind_ok e0
  obtain rfl := pure_inj e0
  simp only [putAll] at e6
  split at e6
  · split at e6
    · injection e6 with e6
      subst e6
      have tsi : ks.getD i 0 ≠ 0 → ¬ isTS d1 = true := fun z => nts_ok (by unfold nts0 at ti; rw [Bool.or_eq_true] at ti; exact ti.resolve_left (by simpa using z)) e2
      have tsj : ks.getD j 0 ≠ 0 → ¬ isTS d2 = true := fun z => nts_ok (by unfold nts0 at tj; rw [Bool.or_eq_true] at tj; exact tj.resolve_left (by simpa using z)) e4
      refine ⟨O, ρ, d1, r1, R.rel, e2, fun v H1 O1 p1 q1 => ⟨O1, r1, d2, r3, p1.rel, e4, fun w H2 O2 p2 q2 => ⟨by rw [sizeLine_eq]; show 2 ≤ 16777216; decide, fun p hp => ⟨p, [v, w], rfl, .of upd_same, rfl, v, [w], rfl, w, [], rfl, rfl, f _ _ O2 ?_⟩⟩⟩⟩
      have R1 := R.post bo p1
      have R2 := R1.post bo p2
      obtain ⟨sN, wN, _⟩ := Step.new (M := fun _ => False) (o := .tup [v, w]) R2.rel.wf hp
      have R3 := R2.yld bo sN wN
      have mine1 : ∀ a, Mine ks σ r1 a → ∃ o, H a = some o := fun a m => (R.rel.mine (m.sub p1.sub)).2
      have q1' := (q1.keep p2.step fun r z m => by
        obtain ⟨o, e⟩ := mine1 r m.2
        rw [z] at e; cases e).keep sN fun _ _ z => z
      have A := R3.setR (fun z => by rw [bn]; exact ni z) q1' tsi (fun a m => mine1 a (m.sub p2.sub)) fun a z => R.step.none_of z
      refine A.setR (fun z => by rw [bn]; exact nj z) (Hs := H1) (q2.keep sN fun _ _ z => z) tsj (fun a ⟨l, e, kl, h1, h2⟩ => ?_) fun a z => R1.step.none_of z
      by_cases z : i = l
      · subst z
        by_cases hl : i < σ.length
        · rw [List.getElem?_set_self hl] at h2
          cases h2
          obtain ⟨k, ek⟩ : ∃ k, ks.getD i 0 = k + 1 := ⟨ks.getD i 0 - 1, by omega⟩
          rw [ek] at q1
          have q : ResO (wdOf X) k H H1 O1 (.ref a) d1 := q1
          unfold ResO at q
          rw [if_neg (tsi kl)] at q
          exact p1.rel.wf.trk _ _ (q.1.root (by omega)).1
        · rw [List.getElem?_eq_none (by simpa using hl)] at h2; cases h2
      · rw [List.getElem?_set_ne z] at h1 h2
        exact (R1.rel.mine ((Mine.sub p2.sub ⟨l, e, kl, h1, h2⟩))).2
    · cases e6
  · cases e6
end
end C

set_option Elab.async false
set_option linter.all false
set_option maxRecDepth 100000
set_option maxHeartbeats 1000000
/-! Sound19: {}, d.get(k, x), xs.pop(), [[] for ..]. -/
namespace C
open PySem PySem.Spec PyProof.Rows L2

/-! ### {} -/
section
variable {g : Wd} {ks : List Nat} {H : Hp} {O : Ow} {σ : L2.St} {ρ : Env} {p : Addr} {m : Md}
theorem newK (R : Rel g ks H O σ ρ) (hp : H p = none) (hm : okL m = true) : ∃ O', Post g ks true H O σ ρ ρ (upd H p (.dK [])) O' ∧ Res g m H (upd H p (.dK [])) O' (.ref p) (.dct false []) := by
  obtain ⟨P1, op⟩ := Post.new (o := .dK []) R hp
  have e1 : ro (upd H p (.dK [])) O p = some (.dK []) := by rw [ro_of op]; exact upd_same
  match m, hm with
  | .b, _ => exact ⟨O, P1, Lay.dk upd_same .nil⟩
  | .k, _ => exact ⟨O, P1, p, [], rfl, upd_same, .nil⟩
  | .own 0, _ => exact ⟨O, P1, Lay.dk e1 .nil⟩
  | .own 1, _ =>
    refine ⟨own O p p, Post.newOwn (o := .dK []) R hp, ?_⟩
    show ResO g 0 _ _ _ _ _
    unfold ResO
    rw [if_neg (by simp [isTS])]
    exact ⟨⟨p, [], rfl, own_same, upd_same, .nil⟩, fun r e => by cases e; exact hp⟩
theorem newT' (R : Rel g ks H O σ ρ) (hp : H p = none) (hm : okL m = true) : ∃ O', Post g ks true H O σ ρ ρ (upd H p (.dT [])) O' ∧ Res g m H (upd H p (.dT [])) O' (.ref p) (.dct true []) := by
  obtain ⟨P1, op⟩ := Post.new (o := .dT []) R hp
  have e1 : ro (upd H p (.dT [])) O p = some (.dT []) := by rw [ro_of op]; exact upd_same
  match m, hm with
  | .b, _ => exact ⟨O, P1, Lay.dt upd_same .nil⟩
  | .k, _ => exact ⟨O, P1, p, [], rfl, upd_same, .nil⟩
  | .own 0, _ => exact ⟨O, P1, Lay.dt e1 .nil⟩
  | .own 1, _ =>
    refine ⟨own O p p, Post.newOwn (o := .dT []) R hp, ?_⟩
    show ResO g 0 _ _ _ _ _
    unfold ResO
    rw [if_neg (by simp [isTS])]
    exact ⟨⟨p, [], rfl, own_same, upd_same, .nil⟩, fun r e => by cases e; exact hp⟩
end
section
variable {X : Cx} {ks : List Nat} {P : Fs} {rp : D → Str} {m ma mb : Md} {pa pb pc : Bool} {pos : Pos} {a b c e : E} {x y z : Expr} {k : Nat}
theorem w_dnewK (m : Md) (hm : okL m = true := by rfl) : PE X (.Dict [] [] pos) (TEd (wdOf X) ks m true (ev P rp (.dnew false))) := by
  refine PE.imp pe_dnewK fun σ H Q ⟨O, ρ, d, ρ', R, e, q⟩ p hp => ?_
  simp only [ev] at e
  injection e with e
  obtain ⟨rfl, rfl⟩ := Prod.mk.inj e
  obtain ⟨O', P', r⟩ := newK (m := m) R hp hm
  exact q _ _ O' P' r
theorem w_dnewT (m : Md) (hm : okL m = true := by rfl) : PE X (.Dict [] [] pos) (TEd (wdOf X) ks m true (ev P rp (.dnew true))) := by
  refine PE.imp pe_dnewT fun σ H Q ⟨O, ρ, d, ρ', R, e, q⟩ p hp => ?_
  simp only [ev] at e
  injection e with e
  obtain ⟨rfl, rfl⟩ := Prod.mk.inj e
  obtain ⟨O', P', r⟩ := newT' (m := m) R hp hm
  exact q _ _ O' P' r
/-! ### d.get(k, x) -/
theorem isD_of {g : Wd} {H : Hp} {v : V} {t : Bool} {ds : List (D × D)} (h : Lay g H v (.dct t ds)) : ∃ a, v = .ref a ∧ IsD H a := by
  cases t with
  | false => obtain ⟨a, kvs, rfl, h1, _⟩ := lay_dk h; exact ⟨a, rfl, .inl ⟨kvs, .inl h1⟩⟩
  | true => obtain ⟨a, kvs, rfl, h1, _⟩ := lay_dt h; exact ⟨a, rfl, .inr ⟨kvs, .inl h1⟩⟩
/-- what a dict that is read holds, its items as they are shared -/
theorem dget_top {g : Wd} {H : Hp} {O : Ow} {v w : V} {k : D} {t : Bool} {ds : List (D × D)} (h : Top g H O v (.dct t ds)) (hk : Lay g H w k) (ik : isKey t k = true) :
    ∃ a r, v = .ref a ∧ DGet H a w r ∧ ((lookKey k ds = none ∧ r = none) ∨ ∃ z d, lookKey k ds = some d ∧ r = some z ∧ Lay g (ro H O) z d) := by
  cases t with
  | false =>
    obtain ⟨a, kvs, rfl, h1, l⟩ := h
    obtain ⟨k, rfl⟩ := isKey_k ik
    obtain rfl := lay_key hk
    refine ⟨a, _, rfl, .k h1, ?_⟩
    rcases look_k k l with ⟨e1, e2⟩ | ⟨z, d, e1, e2, e3⟩
    · exact .inl ⟨e1, e2⟩
    · exact .inr ⟨z, d, e1, e2, e3⟩
  | true =>
    obtain ⟨a, kvs, rfl, h1, l⟩ := h
    obtain ⟨ks, rfl⟩ := isKey_t ik
    obtain ⟨b, rfl, hb⟩ := lay_tkey hk
    refine ⟨a, _, rfl, .t h1 hb, ?_⟩
    rcases look_t ks l with ⟨e1, e2⟩ | ⟨z, d, e1, e2, e3⟩
    · exact .inl ⟨e1, e2⟩
    · exact .inr ⟨z, d, e1, e2, e3⟩
theorem w_get2 (m : Md) (G : Cx0 X k) {apos cpos : Pos} (ha : PE X x (TEd (wdOf X) ks ma pa (ev P rp a))) (hb : PE X y (TEd (wdOf X) ks (.own 0) pb (ev P rp b))) (hc : PE X z (TEd (wdOf X) ks (.own 0) pc (ev P rp c))) (ta : isTop ma = true := by rfl) (nm : noOwn m = true := by rfl)
    (hm : (pb && pc) = true ∨ ma = .own 0 := by first | exact .inl rfl | exact .inr rfl)
    (base : attributeBase x "get" X.env (eval x X.env) = eval x X.env := by rfl)
    (few : ((backTo cpos (starEach [y, z] X.env)).all (fun x => !x.1) && (backToKw cpos (keywordEach [] X.env)).all (fun x => x.1.isSome)
      && decide (([y, z] : List Expr).length + ([] : List Keyword).length + (if ([] : List Keyword).isEmpty then 0 else 1) < 30)) = true := by rfl)
    (line : (apos.endLine == cpos.line) = true := by rfl) (trees : backTo cpos (starEach [y, z] X.env) = [(false, eval y X.env), (false, eval z X.env)] := by rfl) :
    PE X (.Call (.Attribute x "get" apos) [y, z] [] cpos) (TEd (wdOf X) ks m (pa && (pb && pc)) (ev P rp (.mt .get2 a [b, c]))) := by
  refine PE.imp (pe_dget2 G.u1 ha hb hc ⟨base, few, line, trees⟩) fun σ H Q ⟨O, ρ, d, ρ', R, e0, q⟩ => ?_
  simp only [ev, evs] at e0
  obtain ⟨⟨d1, r1⟩, e1, e0⟩ := bind_ok e0
  obtain ⟨⟨ds, r2⟩, e2, e0⟩ := bind_ok e0
  obtain ⟨⟨d3, r3⟩, e3, e2⟩ := bind_ok e2
  obtain ⟨⟨ds4, r4⟩, e4, e2⟩ := bind_ok e2
  obtain ⟨⟨d5, r5⟩, e5, e4⟩ := bind_ok e4
  obtain ⟨⟨ds6, r6⟩, e6, e4⟩ := bind_ok e4
  injection e6 with e6
  obtain ⟨rfl, rfl⟩ := Prod.mk.inj e6
  obtain ⟨rfl, rfl⟩ := Prod.mk.inj (pure_inj e4)
  obtain ⟨rfl, rfl⟩ := Prod.mk.inj (pure_inj e2)
  obtain ⟨d7, e7, e0⟩ := bind_ok e0
  obtain ⟨rfl, rfl⟩ := Prod.mk.inj (pure_inj e0)
  match d1, e7, e1 with
  | .dct t kvs, e7, e1 =>
    obtain ⟨_, e8, e7⟩ := bind_ok e7
    obtain rfl : _ = d7 := pure_inj e7
    have ik := grd_ok e8
    refine ⟨O, ρ, _, r1, R, e1, fun v H1 O1 p1 q1 => ?_⟩
    obtain ⟨a0, rfl, isd⟩ := isD_of q1.lay
    refine ⟨a0, rfl, isd, O1, r1, d3, r3, p1.rel, e3, fun w H2 O2 p2 q2 => ⟨O2, r3, d5, r5, p2.rel, e5, fun u H3 O3 p3 q3 => ?_⟩⟩
    have p23 := p2.trans p1.rel p3
    have q1' : Res (wdOf X) ma H3 H3 O3 (.ref a0) (.dct t kvs) := (q1.any (H0' := H3) (isTop_no ta)).stay p23.step (hm.imp (fun z r ⟨w, _⟩ => by rw [z] at w; cases w) id) (noOwn_of (isTop_no ta))
    have q2' : Lay (wdOf X) (ro H3 O3) w d3 := Lay.le p3.step.le q2
    obtain ⟨a1, o, ea, dg, h⟩ := dget_top (topOf ta q1') (Lay.le ro_le q2') ik
    cases ea
    refine ⟨o, dg, q _ H3 O3 (p1.trans R p23) (Res.of0 ?_ nm)⟩
    rcases h with ⟨h1, rfl⟩ | ⟨z, d', h1, rfl, lz⟩
    · rw [h1]; exact q3
    · rw [h1]; exact lz
/-! ### xs.pop() -/
theorem w_pop (m : Md) (i : Nat) {nm : Str} {p1 apos cpos : Pos} (hN : X.N[i]? = some nm := by rfl) (hv : Vis X.env.scope nm := by first | exact Or.inl rfl | exact Or.inr (Or.inl rfl) | exact Or.inr (Or.inr rfl)) (hk : ks.getD i 0 = 1 := by rfl) (no : noOwn m = true := by rfl)
    (hd : (nm == ("__debug__" : Str)) = false := by decide) (hcd : (nm == ("__classdict__" : Str)) = false := by decide)
    (hbase : attributeBase (.Name nm p1) "pop" X.env (eval (.Name nm p1) X.env) = eval (.Name nm p1) X.env := by rfl) (hline : (apos.endLine == cpos.line) = true := by rfl) :
    PE X (.Call (.Attribute (.Name nm p1) "pop" apos) [] [] cpos) (TEd (wdOf X) ks m false (ev P rp (.pop i))) := by
  refine PE.imp (pe_bm0 PySem.F.plainAttrs_list PySem.F.slot_list_pop PySem.F.type_list_pop mt_pop (pe_var hN hv hd hcd) hbase hline) fun σ H Q ⟨O, ρ, d, ρ', R, e0, q⟩ => ?_
  simp only [ev] at e0
  obtain ⟨o, e1, e0⟩ := bind_ok e0
  obtain ⟨xs, e2, e0⟩ := bind_ok e0
  obtain ⟨d1, e3, e0⟩ := bind_ok e0
  obtain ⟨rfl, rfl⟩ := Prod.mk.inj (pure_inj e0)
  obtain ⟨d', e4, rfl⟩ := ofO_ok e3
  cases o <;> first | (cases e2; done) | skip
  obtain rfl := pure_inj e2
  obtain ⟨v, ev1, sl⟩ := R.slot i _ (rd_ok e1)
  rw [hk] at sl
  obtain ⟨l, ws, rfl, h1, h2, h3⟩ := (show Own1 (wdOf X) H O v (.lst _) from sl)
  rw [List.getLast?_eq_getElem?] at e4
  obtain ⟨y, hy, ly⟩ := h3.get e4
  refine ⟨_, ev1, .inl ⟨rfl, ws, .inl (.of h1)⟩, l, ws, y, rfl, rfl, h1, by rw [h3.length]; exact hy, ?_⟩
  obtain ⟨s, w⟩ := Step.wr (M := fun x => x = l) (o := .lst ws.dropLast) R.wf h2 rfl
  have P1 := Post.put R (rd_ok e1) (by omega) ev1 s w (d' := .lst (List.dropLast _)) (by rw [hk]; exact ⟨l, ws.dropLast, rfl, upd_same, h2, (h3.le s.le).dropLast⟩)
  exact q y _ O P1 (Res.of0 (Lay.le s.le ly) no)
end
end C

set_option Elab.async false
set_option linter.all false
set_option maxRecDepth 100000
set_option maxHeartbeats 1000000
/-! Sound20: [[..] for ..]: a list of lists of its own. -/
namespace C
open PySem PySem.Spec PyProof.Rows L2

/-- r, that owns itself alone, now belongs to D -/
def graft (O : Ow) (D r : Addr) : Ow := fun a => if a = r then some D else if O a = some r then none else O a
theorem graft_r {O : Ow} {D r : Addr} : graft O D r r = some D := by unfold graft; rw [if_pos rfl]
theorem graft_ne {O : Ow} {D r a : Addr} (h : a ≠ r) (h2 : O a ≠ some r) : graft O D r a = O a := by unfold graft; rw [if_neg h, if_neg h2]
section
variable {g : Wd} {H : Hp} {O : Ow} {D r : Addr}
theorem Step.graft (w : WF H O) (hr : O r = some r) (hD : O D = some D) (ne : D ≠ r) : Step (fun a => a = D ∨ a = r) H O H (C.graft O D r) ∧ WF H (C.graft O D r) := by
  refine ⟨⟨fun a o e q => ⟨?_, q⟩, fun a s e n => ⟨?_, rfl⟩, fun a o e => ⟨o, e⟩⟩, ⟨fun a s e => ?_, fun a s e => ?_⟩⟩
  · rw [graft_ne (fun z => by rw [z, hr] at e; cases e) (by rw [e]; simp)]; exact e
  · rw [graft_ne (fun z => by rw [z, hr] at e; cases e; exact n (.inr rfl)) (fun z => by rw [e] at z; cases z; exact n (.inr rfl))]; exact e
  · by_cases h : a = r
    · subst h; rw [graft_r] at e; cases e
      rw [graft_ne ne (by rw [hD]; intro z; cases z; exact ne rfl)]; exact hD
    · by_cases h2 : O a = some r
      · unfold C.graft at e; rw [if_neg h, if_pos h2] at e; cases e
      · rw [graft_ne h h2] at e
        have q := w.root _ _ e
        by_cases h3 : s = r
        · rw [h3] at e; exact absurd e h2
        · rw [graft_ne h3 (fun z => by rw [q] at z; cases z; exact h3 rfl)]; exact q
  · by_cases h : a = r
    · subst h; exact w.trk _ _ hr
    · unfold C.graft at e; rw [if_neg h] at e
      split at e
      · cases e
      · exact w.trk _ _ e
end
theorem lc_rd2 {g : Wd} {ks : List Nat} {P : Fs} {rp : D → Str} {pi pc pe fz : Bool} {m : Md} {t : Tg} {it : E} {cs : List E} {es : List E} {vs : List Nat} {σ : L2.St} {H : Hp} {Q : VK} (hv : ∀ i, i ∈ vs ↔ i ∈ t.slots) (hk : ∀ i ∈ t.slots, ks.getD i 0 = 0)
    (hf : (pc && pe) = false → fz = true) (hm : fits m 2 = true) (h : TEd g ks m (pi && (pc && pe)) (ev P rp (.lc t it cs (.lst es))) σ H Q) :
    tLc (TId g ks fz pi (iterE P rp it)) (gD g ks t) (TTd g ks pc (evc P rp cs)) (TEd g ks (.own 1) pe (ev P rp (.lst es))) vs σ H Q := by
  obtain ⟨O, ρ, d, ρ', R, e0, q⟩ := h
  simp only [ev] at e0
  obtain ⟨⟨x, r0⟩, e1, e0⟩ := bind_ok e0
  obtain ⟨xs, e2, e0⟩ := bind_ok e0
  obtain ⟨⟨acc, r⟩, e3, e0⟩ := bind_ok e0
  obtain ⟨rfl, rfl⟩ := Prod.mk.inj (pure_inj e0)
  have e3 : foldR (lcF P rp t.slots t cs (.lst es)) xs ([], r0) = .ok (acc, r) := by unfold lcF; simp only [ev]; exact e3
  refine ⟨O, ρ, xs, r0, R, by unfold iterE; simp only [e1, e2, ok_bind]; rfl, fun J H1 O1 p1 io D hD => ?_⟩
  have R1 := p1.rel
  obtain ⟨sN, wN⟩ := Step.newOwn (M := fun _ => False) (o := .lst []) R1.wf hD
  have noD : ∀ {a}, Mine ks σ r0 a → a ≠ D := fun {a} m z => by
    obtain ⟨_, o, e⟩ := R1.mine m
    rw [z, hD] at e; cases e
  let Mb : Addr → Prop := fun a => ((pc && pe) = false ∧ Mine ks σ r0 a) ∨ a = D
  have agW : Agr t.slots (wipe σ vs) σ := (agr_wipe σ vs).mono fun i h => (hv i).mp h
  let Els : Hp → Ow → List V → List C.D → Prop := fun Hc Oc xs ds => xs.length = ds.length ∧ (∀ (i : Nat) v d, xs[i]? = some v → ds[i]? = some d → Sub1 g Hc Oc D v d) ∧ ∀ (i j : Nat) b, xs[i]? = some (V.ref b) → xs[j]? = some (V.ref b) → i = j
  let Iv : Nat → Hp → Prop := fun i Hc => ∃ Oc accV accD rc, foldR (lcF P rp t.slots t cs (.lst es)) (xs.drop i) (accD, rc) = .ok (acc, r) ∧ Step Mb (upd H1 D (.lst [])) (own O1 D D) Hc Oc ∧ Rel g ks Hc Oc (wipe σ vs) (clr rc t.slots) ∧
    Hc D = some (.lst accV) ∧ Oc D = some D ∧ Els Hc Oc accV accD ∧ Sx t.slots rc r0 ∧ rc.length = σ.length
  have whole : ∀ {Hc Oc}, Step Mb (upd H1 D (.lst [])) (own O1 D D) Hc Oc → ∀ {M : Addr → Prop}, (∀ a, ((pc && pe) = false ∧ Mine ks σ r0 a) → M a) → Step M H1 O1 Hc Oc := fun {Hc Oc} s {M} hM =>
    (sN.mono fun _ z => z.elim).trans R1.wf s fun a h => h.imp (hM a) fun z => by rw [z]; exact hD
  have elsS : ∀ {Hc Oc Hd Od xs ds} {M : Addr → Prop}, Els Hc Oc xs ds → Step M Hc Oc Hd Od → ¬ M D → Els Hd Od xs ds := fun {Hc Oc Hd Od xs ds M} e s n => ⟨e.1, fun i v d a b => (e.2.1 i v d a b).step s n, e.2.2⟩
  refine ⟨fun i n Hc => n = xs.length - i ∧ i ≤ xs.length ∧ Iv i Hc, ⟨xs.length, by simp, Nat.zero_le _, own O1 D D, [], [], r0, by rw [List.drop_zero]; exact e3, Step.refl, ?_, upd_same, own_same, ⟨rfl, fun i v d h => by simp at h, fun i j b h => by simp at h⟩, Sx.refl _ _, R1.len⟩, ?_⟩
  · exact (R1.stay sN wN fun _ z => z.elim).clr agW
  rintro i n Hc ⟨rfl, hi, Oc, accV, accD, rc, ef, s, Rc, hDc, oDc, lA, sx, ln⟩
  have st := io Hc Oc (whole s fun a z => hf z.1) Rc.wf
  by_cases hlt : i < xs.length
  · obtain ⟨go, yl⟩ := st.1 i xs[i] (List.getElem?_eq_getElem hlt)
    rw [List.drop_eq_getElem_cons hlt] at ef
    unfold foldR at ef
    obtain ⟨⟨acc1, r1⟩, ef1, ef⟩ := bind_ok ef
    unfold lcF at ef1
    obtain ⟨ra, ea, ef1⟩ := bind_ok ef1
    obtain ⟨⟨b, rb⟩, eb, ef1⟩ := bind_ok ef1
    refine .inr ⟨go, Iv (i + 1), fun H' p' => ⟨xs.length - (i + 1), by omega, rfl, hlt, p'⟩, fun v H' y => ?_⟩
    obtain ⟨sy, wy, ly⟩ := yl v H' y
    have Ry : Rel g ks H' Oc (wipe σ vs) (clr rc t.slots) := Rc.stay sy wy fun _ z => z.elim
    refine ⟨Oc, clr rc t.slots, xs[i], ra, Ry, ly, ea, fun σ2 R2 ag => ?_⟩
    have ag2 : Agr t.slots σ2 σ := ag.trans agW
    refine ⟨?_, Oc, ra, b, rb, R2, eb, fun H3 O3 p3 => ?_⟩
    · rw [wipe_agr (ag.mono fun i h => (hv i).mpr h)]
      exact wipe_agr (agr_wipe σ vs)
    have sxa : Sx t.slots ra r0 := ((setT_sx t _ _ _ ea).trans (clr_sub _).sx).trans sx
    have sxb : Sx t.slots rb r0 := (evc_sub _ _ _ _ eb).sx.trans sxa
    have m3 : ∀ a, Mn pc ks σ2 ra a → (pc && pe) = false ∧ Mine ks σ r0 a := fun a ⟨z, m⟩ => ⟨by rw [z]; rfl, m.agr ag2 hk sxa⟩
    have nD3 : ¬ Mn pc ks σ2 ra D := fun z => noD (m3 D z).2 rfl
    obtain ⟨oDy, hDy⟩ := sy.fo D D oDc (fun z => z)
    obtain ⟨oD3, hD3⟩ := p3.step.fo D D oDy nD3
    have s3 : Step Mb (upd H1 D (.lst [])) (own O1 D D) H3 O3 := (s.trans wN sy fun _ z => z.elim).trans wN p3.step fun a z => .inl (.inl (m3 a z))
    have ag' : Agr t.slots (wipe σ vs) σ2 := ⟨by rw [wipe_length, ag2.1], fun i n => by rw [agW.2 i n, ag2.2 i n]⟩
    have lA3 : Els H3 O3 accV accD := elsS (elsS lA sy (fun z => z)) p3.step nD3
    cases b with
    | false =>
      simp only [Bool.false_eq_true, if_false] at ef1 ⊢
      obtain ⟨rfl, rfl⟩ := Prod.mk.inj (pure_inj ef1)
      exact ⟨O3, accV, accD, rb, ef, s3, p3.rel.clr ag', by rw [hD3, hDy]; exact hDc, oD3, lA3, sxb, by rw [p3.rel.len, ag2.1]⟩
    | true =>
      simp only [if_true] at ef1 ⊢
      obtain ⟨⟨yd, re⟩, ee, ef1⟩ := bind_ok ef1
      obtain ⟨_, eg, ef1⟩ := bind_ok ef1
      obtain ⟨rfl, rfl⟩ := Prod.mk.inj (pure_inj ef1)
      have hz := of_decide_eq_true (grd_ok eg)
      refine ⟨O3, rb, yd, re, p3.rel, ee, fun w H4 O4 p4 r4 => ?_⟩
      have ee' := ee
      simp only [ev] at ee'
      obtain ⟨⟨ys, r9⟩, _, ee'⟩ := bind_ok ee'
      obtain ⟨rfl, rfl⟩ := Prod.mk.inj (pure_inj ee')
      have r4 : ResO g 0 H3 H4 O4 w (.lst ys) := r4
      unfold ResO at r4
      rw [if_neg (by simp [isTS])] at r4
      obtain ⟨⟨rr, ws, rfl, k1, k2, k3⟩, k4⟩ := r4
      have kf : H3 rr = none := k4 rr rfl
      have m4 : ∀ a, Mn pe ks σ2 rb a → (pc && pe) = false ∧ Mine ks σ r0 a := fun a ⟨z, m⟩ => ⟨by rw [z]; simp, m.agr ag2 hk sxb⟩
      have nD4 : ¬ Mn pe ks σ2 rb D := fun z => noD (m4 D z).2 rfl
      obtain ⟨oD4, hD4⟩ := p4.step.fo D D oD3 nD4
      have ne : D ≠ rr := fun z => by rw [← z, hD3, hDy, hDc] at kf; cases kf
      have lA4 : Els H4 O4 accV accD := elsS lA3 p4.step nD4
      have s4 : Step Mb (upd H1 D (.lst [])) (own O1 D D) H4 O4 := s3.trans wN p4.step fun a z => .inl (.inl (m4 a z))
      have hD4' : H4 D = some (.lst accV) := by rw [hD4, hD3, hDy]; exact hDc
      refine ⟨accV, hD4', by rw [lA4.1, line_eq]; exact hz, ?_⟩
      obtain ⟨sg, wg⟩ := Step.graft p4.rel.wf k2 oD4 ne
      have oDg : graft O4 D rr D = some D := by rw [graft_ne ne (by rw [oD4]; intro z; cases z; exact ne rfl)]; exact oD4
      obtain ⟨s5, w5⟩ := Step.wr (M := fun a => a = D) (o := .lst (accV ++ [V.ref rr])) wg oDg rfl
      have s45 : Step (fun a => a = D ∨ a = rr) H4 O4 (upd H4 D (.lst (accV ++ [V.ref rr]))) (graft O4 D rr) := sg.trans p4.rel.wf s5 fun a z => .inl (.inl z)
      have f1 : upd H1 D (.lst []) rr = none := by
        rw [upd_ne (fun z => ne z.symm)]
        cases q9 : H1 rr with
        | none => rfl
        | some o =>
          have a1 := sN.tr rr o q9
          obtain ⟨o1, a1⟩ := a1
          obtain ⟨o2, a2⟩ := s3.tr rr o1 a1
          rw [kf] at a2; cases a2
      have sxe : Sx t.slots r9 r0 := (ev_sub _ _ _ _ ee).sx.trans sxb
      have le45 : Le (ro H4 O4) (ro (upd H4 D (.lst (accV ++ [V.ref rr]))) (graft O4 D rr)) := s45.le
      refine ⟨graft O4 D rr, accV ++ [V.ref rr], accD ++ [.lst ys], r9, ef, s4.trans wN s45 fun a z => z.elim (fun z => .inl (.inr z)) fun z => .inr (by rw [z]; exact f1), ?_, upd_same, oDg, ⟨by rw [List.length_append, List.length_append, lA4.1]; rfl, fun j v d a b => ?_, fun j1 j2 b a1 a2 => ?_⟩, sxe, by rw [p4.rel.len, ag2.1]⟩
      · refine (p4.rel.stay s45 w5 fun a z m => ?_).clr ag'
        have mm := m.agr ag2 hk sxe
        rcases z with z | z
        · exact noD mm z
        · obtain ⟨_, o, e⟩ := R1.mine mm
          rw [z] at e
          rw [upd_ne (fun z => ne z.symm), e] at f1
          cases f1
      · by_cases hj : j < accV.length
        · rw [List.getElem?_append_left hj] at a
          rw [List.getElem?_append_left (by rw [← lA4.1]; exact hj)] at b
          have sb := lA4.2.1 j v d a b
          cases d with
          | lst zs =>
            obtain ⟨b0, us, rfl, n0, h0, o0, l0⟩ := sb
            have nb : b0 ≠ rr := fun z => by rw [z, k2] at o0; cases o0; exact ne rfl
            refine ⟨b0, us, rfl, n0, by rw [upd_ne n0]; exact h0, ?_, l0.le le45⟩
            rw [graft_ne nb (by rw [o0]; intro z; cases z; exact ne rfl)]; exact o0
          | _ => exact ⟨sb.1, sb.2.le le45⟩
        · have ej : j = accV.length := by
            have := (List.getElem?_eq_some_iff.mp a).1
            rw [List.length_append, List.length_singleton] at this
            omega
          subst ej
          rw [List.getElem?_append_right (Nat.le_refl _)] at a
          rw [lA4.1, List.getElem?_append_right (Nat.le_refl _)] at b
          simp at a b
          subst a; subst b
          exact ⟨rr, ws, rfl, fun z => ne z.symm, by rw [upd_ne (fun z => ne z.symm)]; exact k1, graft_r, k3.le le45⟩
      · have old : ∀ {j : Nat} {b : Addr}, j < accV.length → (accV ++ [V.ref rr])[j]? = some (V.ref b) → accV[j]? = some (V.ref b) ∧ b ≠ rr := fun {j b} hj a => by
          rw [List.getElem?_append_left hj] at a
          refine ⟨a, fun z => ?_⟩
          subst z
          obtain ⟨d, hd⟩ : ∃ d, accD[j]? = some d := ⟨accD[j]'(by rw [← lA4.1]; exact hj), List.getElem?_eq_getElem _⟩
          have sb := lA3.2.1 j _ d a hd
          cases d with
          | lst zs =>
            obtain ⟨b0, us, e, n0, h0, _⟩ := sb
            cases e
            rw [kf] at h0; cases h0
          | _ => first | (cases sb.2; done) | (exact absurd sb.1 (by simp [atom]))
        have last : ∀ {j : Nat} {b : Addr}, ¬ j < accV.length → (accV ++ [V.ref rr])[j]? = some (V.ref b) → j = accV.length ∧ b = rr := fun {j b} hj a => by
          have ej : j = accV.length := by
            have := (List.getElem?_eq_some_iff.mp a).1
            rw [List.length_append, List.length_singleton] at this
            omega
          subst ej
          rw [List.getElem?_append_right (Nat.le_refl _)] at a
          simp at a
          exact ⟨rfl, a.symm⟩
        by_cases h1 : j1 < accV.length
        · by_cases h2 : j2 < accV.length
          · exact lA4.2.2 j1 j2 b (old h1 a1).1 (old h2 a2).1
          · exact absurd (last h2 a2).2 (old h1 a1).2
        · by_cases h2 : j2 < accV.length
          · exact absurd (last h1 a1).2 (old h2 a2).2
          · rw [(last h1 a1).1, (last h2 a2).1]
  · have en : i = xs.length := by omega
    subst en
    refine .inl ⟨st.2 _ (Nat.le_refl _), ?_⟩
    rw [List.drop_length] at ef
    unfold foldR at ef
    injection ef with ef
    obtain ⟨ea, er⟩ := Prod.mk.inj ef
    have sH1 : Step (fun a => (pc && pe) = false ∧ Mine ks σ r0 a) H1 O1 Hc Oc := whole s fun a z => z
    have sW : Step (Mn (pi && (pc && pe)) ks σ ρ) H O Hc Oc := by
      refine (p1.step.mono (M' := Mn (pi && (pc && pe)) ks σ ρ) fun a ⟨z, m⟩ => ⟨by rw [z]; rfl, m⟩).trans R.wf sH1 fun a z => .inl ⟨by rw [z.1]; simp, z.2.sub p1.sub⟩
    have Rr : Rel g ks Hc Oc σ (restE r0 rc t.slots) := by
      have := Rel.rest R1 sH1 Rc agW hk
      have e : restE r0 (clr rc t.slots) t.slots = restE r0 rc t.slots := by
        apply List.ext_getElem?
        intro j
        by_cases m : j ∈ t.slots
        · by_cases hl : j < rc.length
          · rw [restE_in m (by rw [clr_length]; exact hl), restE_in m hl]
          · rw [List.getElem?_eq_none (by rw [restE_length, clr_length]; omega), List.getElem?_eq_none (by rw [restE_length]; omega)]
        · rw [restE_out m, restE_out m, clr_out m]
      rw [e] at this
      exact this
    have sub : Sub (restE r0 rc t.slots) ρ := (sx_nil (rest_sub _ (T := []) (by rw [List.append_nil]; exact sx))).trans p1.sub
    have P : Post g ks (pi && (pc && pe)) H O σ ρ (restE r0 rc t.slots) Hc Oc := ⟨sW, Rr, sub⟩
    have res : Res g (.own 2) H Hc Oc (.ref D) (.lst accD) := by
      show ResO g 1 H Hc Oc _ _
      unfold ResO
      rw [if_neg (by simp [isTS])]
      exact ⟨⟨D, accV, rfl, hDc, oDc, lA.1, lA.2.1, lA.2.2⟩, fun z e => by cases e; exact p1.step.none_of hD⟩
    obtain ⟨O2, P2, r2⟩ := P.give hm R res
    rw [ea] at r2
    rw [er] at P2
    exact q _ Hc O2 P2 r2
end C

set_option Elab.async false
set_option linter.all false
set_option maxRecDepth 100000
set_option maxHeartbeats 1000000
/-! Sound21: short words for these; y = x[i]; y.append(e). -/
namespace C
open PySem PySem.Spec PyProof.Rows L2
section
variable {X : Cx} {ks : List Nat} {P : Fs} {rp : D → Str} {m ma mb : Md} {pa pb pc pe pi : Bool} {pos : Pos} {a b c e : E} {cs es as : List E} {x y z : Expr} {k : Nat} {B : Base} {ret n : Nat}
theorem w_lcO (m : Md) (G : Cx0 X k) (fz : Bool) (own : List (Str × Nat)) {t : Tg} {tg iter elt : Expr} {ifs : List Expr} {scope : Scope} (hi : PI X tg iter (TId (wdOf X) ks fz pi (iterE P rp a)))
    (hg : ∀ (s : Shared) (H : Hp) (C : Addr) (cl : List (Str × Addr)) (fp : List Addr), PG (X.blk s H scope (compEnvC scope cl C X.env) fp) tg (gD (wdOf X) ks t))
    (ht : ∀ (s : Shared) (H : Hp) (C : Addr) (cl : List (Str × Addr)) (fp : List Addr), PTs (X.blk s H scope (compEnvC scope cl C X.env) fp) ifs (TTd (wdOf X) ks pc (evc P rp cs)))
    (he : ∀ (s : Shared) (H : Hp) (C : Addr) (cl : List (Str × Addr)) (fp : List Addr), PE (X.blk s H scope (compEnvC scope cl C X.env) fp) elt (TEd (wdOf X) ks (.own 1) pe (ev P rp (.lst es))))
    (hv : sameB (own.map (·.2)) t.slots = true := by decide) (hk : (t.slots.all fun i => ks.getD i 0 == 0) = true := by decide) (hf : (pc && pe) = false → fz = true := by intro h; first | rfl | cases h) (hm : fits m 2 = true := by rfl)
    (ok : blkC X.N X.env.scope scope own = true := by rfl) (hs : ∀ x, foldedSetIterable iter X.env x = pure x := by intro _; rfl) :
    PE X (.ListComp elt [⟨tg, iter, ifs, 0⟩] scope pos) (TEd (wdOf X) ks m (pi && (pc && pe)) (ev P rp (.lc t a cs (.lst es)))) :=
  PE.imp (pe_lc G.hc G.nd hi (blkOk_by ok) hg ht he hs) fun σ H Q h => lc_rd2 (sameB_ok hv) (zero_ok hk) hf hm h
theorem w_asgLcO (G : Cx0 X k) (bo : B.Ok) {np : Nat} (bn : B.np = np) (fz : Bool) (own : List (Str × Nat)) (i : Nat) {nm : Str} {py spos : Pos} {t : Tg} {tg iter elt : Expr} {ifs : List Expr} {scope : Scope} (hi : PI X tg iter (TId (wdOf X) ks fz pi (iterE P rp a)))
    (hg : ∀ (s : Shared) (H : Hp) (C : Addr) (cl : List (Str × Addr)) (fp : List Addr), PG (X.blk s H scope (compEnvC scope cl C X.env) fp) tg (gD (wdOf X) ks t))
    (ht : ∀ (s : Shared) (H : Hp) (C : Addr) (cl : List (Str × Addr)) (fp : List Addr), PTs (X.blk s H scope (compEnvC scope cl C X.env) fp) ifs (TTd (wdOf X) ks pc (evc P rp cs)))
    (he : ∀ (s : Shared) (H : Hp) (C : Addr) (cl : List (Str × Addr)) (fp : List Addr), PE (X.blk s H scope (compEnvC scope cl C X.env) fp) elt (TEd (wdOf X) ks (.own 1) pe (ev P rp (.lst es))))
    (hN : X.N[i]? = some nm := by rfl) (hyl : X.env.scope.names.lookup nm = some .local := by rfl) (hsw : swapsWith (.ListComp elt [⟨tg, iter, ifs, 0⟩] scope pos) (some (.Name nm py)) spos.line X.env = pure true := by rfl) (hki : ks.getD i 0 = 2 := by rfl) (hp : np ≤ i := by decide)
    (hv : sameB (own.map (·.2)) t.slots = true := by decide) (hk : (t.slots.all fun i => ks.getD i 0 == 0) = true := by decide) (hf : (pc && pe) = false → fz = true := by intro h; first | rfl | cases h)
    (ok : blkC X.N X.env.scope scope own = true := by rfl) (hs : ∀ x, foldedSetIterable iter X.env x = pure x := by intro _; rfl) :
    PS X (.Assign [.Name nm py] (.ListComp elt [⟨tg, iter, ifs, 0⟩] scope pos) spos) (TSd (wdOf X) ks B ret (st P rp n (.asg (.nm i) (.lc t a cs (.lst es))))) :=
  PS.imp (ps_setLc G.hc G.nd hN hyl hsw hi (blkOk_by ok) hg ht he hs) fun D σ H h => lc_rd2 (m := .own 2) (sameB_ok hv) (zero_ok hk) hf rfl (asgK_rd (pa := pi && (pc && pe)) bo (by rw [bn]; exact hp) hki rfl h)
end
end C

set_option Elab.async false
set_option linter.all false
set_option maxRecDepth 100000
set_option maxHeartbeats 1000000
/-! Sound22: list(zip(xs, ys)). -/
namespace C
open PySem PySem.Spec PyProof.Rows L2

theorem zip_no_len : typeLookup (.type "zip") "__len__" = pure none := am_miss_of_fast (by decide +kernel)
theorem zip_no_hint : typeLookup (.type "zip") "__length_hint__" = pure none := am_miss_of_fast (by decide +kernel)

/-- the pairs laid anew at Ts -/
def PairsAt : List (V × V) → List Addr → Hp → Hp → Prop
  | [], [], H, H' => H' = H
  | z :: zs, T :: Ts, H, H' => H T = none ∧ PairsAt zs Ts (upd H T (.tup [z.1, z.2])) H'
  | _, _, _, _ => False
theorem upd_comm {H : Hp} {a b : Addr} {o u : HO} (h : a ≠ b) : upd (upd H a o) b u = upd (upd H b u) a o := by
  funext c
  unfold upd
  by_cases h1 : c = b
  · subst h1; rw [if_pos rfl, if_neg (Ne.symm h), if_pos rfl]
  · rw [if_neg h1]
    by_cases h2 : c = a
    · rw [if_pos h2, if_pos h2]
    · rw [if_neg h2, if_neg h2, if_neg h1]

def ZipSt (z TI TO i1 i2 a b S : Addr) (i : Nat) (h : Heap) : Prop :=
  IsPair h TI (.ref i1) (.ref i2) ∧ h.IsListIter i1 a i ∧ h.IsListIter i2 b i ∧
  ((IsZip h z TI TO .none ∧ ∃ x y, IsPair h TO x y) ∨ ∃ T f oT, IsZipHeld h z TI TO T f ∧ h.get? T = some oT ∧ T ≠ z ∧ T ≠ i1 ∧ T ≠ i2 ∧ T ≠ S ∧ ∃ o, h.get? TO = some o)
theorem ZipSt.keep {z TI TO i1 i2 a b S : Addr} {i : Nat} {h h' : Heap} (st : ZipSt z TI TO i1 i2 a b S i h) (k : ∀ c o, c ≠ S → h.get? c = some o → h'.get? c = some o) (hS : S ∉ [z, TI, TO, i1, i2]) : ZipSt z TI TO i1 i2 a b S i h' := by
  simp only [List.mem_cons, List.not_mem_nil, or_false, not_or] at hS
  obtain ⟨s1, s2, s3, s4, s5⟩ := hS
  obtain ⟨hTI, h1, h2, hz⟩ := st
  refine ⟨k _ _ (Ne.symm s2) hTI, h1.at fun o q => k _ o (Ne.symm s4) q, h2.at fun o q => k _ o (Ne.symm s5) q, ?_⟩
  rcases hz with ⟨hz, x, y, hTO⟩ | ⟨T, f, oT, hz, hT, r1, r2, r3, r4, o, r5⟩
  · exact .inl ⟨k _ _ (Ne.symm s1) hz, x, y, k _ _ (Ne.symm s3) hTO⟩
  · exact .inr ⟨T, f, oT, k _ _ (Ne.symm s1) hz, k _ _ r4 hT, r1, r2, r3, r4, o, k _ _ (Ne.symm s3) r5⟩

section
variable {X : Cx} {pins : List (Addr × Obj)} {σ : L2.St} {R : Result → Shared → Prop} {z TI TO i1 i2 a b S : Addr} {its its2 : List Value}
theorem zip_loop {A : Around} (hA : A.handled = none) (D : ZipApart z TI TO i1 i2 a b) (hS : S ∉ [z, TI, TO, i1, i2]) (hSa : a ≠ S) (hSb : b ≠ S) (res : Value) :
    ∀ (zs : List (V × V)) (i : Nat) (s : Shared) (H : Hp) (acc : List V), Inv X pins σ (upd H S (.lst acc)) s → (∀ c ∈ [z, TI, TO, i1, i2], FpOk X pins H c) → ZipSt z TI TO i1 i2 a b S i s.heap →
      s.heap.IsList a its.toArray → s.heap.IsList b its2.toArray →
      (∀ j p, zs[j]? = some p → ∃ u u2, its[i + j]? = some u ∧ its2[i + j]? = some u2 ∧ RelV p.1 u ∧ RelV p.2 u2) → (its.length ≤ i + zs.length ∨ its2.length ≤ i + zs.length) → acc.length + zs.length ≤ sizeLine → H S = none →
      (∀ s' H' Ts, PairsAt zs Ts H H' → H' S = none → Inv X pins σ (upd H' S (.lst (acc ++ Ts.map V.ref))) s' → R (.ok (.ret res)) s') →
      codeAny (model X.prog X.w) A (.builtin "list.extend.loop" ⟨[.ref S, .ref z, res], []⟩) R s := by
  intro zs
  induction zs with
  | nil =>
    intro i s H acc I hf st hl1 hl2 hz hend hlen hSn hR
    refine codeAny_builtin PySem.F.entry_extend_loop ?_
    rw [Around.under_plainId PySem.F.plain_extend_loop _]
    show wpAny _ A.in1 (pyNext (.ref z) >>= _) _ _ s
    have hf' : ∀ c ∈ [z, TI, TO, i1, i2], FpOk X pins (upd H S (.lst acc)) c := fun c hcm => by
      have hcS : c ≠ S := fun e => hS (e ▸ hcm)
      obtain ⟨q, r⟩ := hf c hcm
      exact ⟨by rw [upd_ne hcS]; exact q, r⟩
    have he : its.toArray[i]? = none ∨ its2.toArray[i]? = none := by
      rcases hend with q | q
      · exact .inl (by simp at q ⊢; omega)
      · exact .inr (by simp at q ⊢; omega)
    have fin : ∀ h' : Heap, (∀ c o, c ∉ [z, TI, TO, i1, i2] → s.heap.get? c = some o → h'.get? c = some o) → R (.ok (.ret res)) { s with heap := h' } := fun h' hk => by
      refine hR _ H [] rfl hSn ?_
      rw [List.map_nil, List.append_nil]
      exact I.turnedL (t' := s.toks) (ch := [z, TI, TO, i1, i2]) (fun c o hb q => hk c o hb q) hf'
    obtain ⟨hTI, h1, h2, hz'⟩ := st
    rcases hz' with ⟨hz', x, y, hTO⟩ | ⟨T, f, oT, hz', hT, r1, r2, r3, r4⟩
    · exact wpAny_bind (wpAny_pyNext_zip_end hA D hz' hTI hTO h1 h2 hl1 hl2 he fun h' hk => wpAny_pure (fin h' fun c o hb q =>
        hk c o (fun q' => hb (by simp [q'])) (fun q' => hb (by simp [q'])) (fun q' => hb (by simp [q'])) (fun q' => hb (by simp [q'])) q))
    · exact wpAny_bind (wpAny_pyNext_zip_end_held hA D hz' hT hTI h1 h2 hl1 hl2 he fun h' hk => wpAny_pure (fin h' fun c o hb q =>
        hk c o (fun q' => hb (by simp [q'])) (fun q' => hb (by simp [q'])) (fun q' => hb (by simp [q'])) q))
  | cons p zs ih =>
    obtain ⟨x, y⟩ := p
    intro i s H acc I hf st hl1 hl2 hz hend hlen hSn hR
    obtain ⟨u, u2, hu, hu2, ru, ru2⟩ := hz 0 _ rfl
    rw [Nat.add_zero] at hu hu2
    obtain ⟨_, aits, n0, rv, hSo⟩ := I.hok S _ upd_same
    have hSs := hS
    simp only [List.mem_cons, List.not_mem_nil, or_false, not_or] at hSs
    obtain ⟨s1, s2, s3, s4, s5⟩ := hSs
    have hSlt : S < s.heap.objs.size := Heap.lt_size hSo
    have hf' : ∀ c ∈ [z, TI, TO, i1, i2], FpOk X pins (upd H S (.lst acc)) c := fun c hcm => by
      have hcS : c ≠ S := fun e => hS (e ▸ hcm)
      obtain ⟨q, r⟩ := hf c hcm
      exact ⟨by rw [upd_ne hcS]; exact q, r⟩
    refine codeAny_builtin PySem.F.entry_extend_loop ?_
    rw [Around.under_plainId PySem.F.plain_extend_loop _]
    show wpAny _ A.in1 (pyNext (.ref z) >>= _) _ _ s
    have go : ∀ h' : Heap, ZipSt z TI TO i1 i2 a b S (i + 1) h' → IsPair h' s.heap.objs.size u u2 → h'.objs.size = s.heap.objs.size + 1 → (∀ c o, c ∉ [z, TO, i1, i2] → s.heap.get? c = some o → h'.get? c = some o) →
        wpAny (model X.prog X.w) A.in1 (updateSeq S (·.push (.ref s.heap.objs.size)) >>= fun _ => again (.builtin "list.extend.loop" ⟨[.ref S, .ref z, res], []⟩))
          (fun fin s' => match fin with | .done f => R (.ok f) s' | .again c' => c'.quiet = true ∧ codeAny (model X.prog X.w) A c' R s') (fun e s' => R (.error e) s') { s with heap := h' } := by
      intro h' st' hT hsz hk
      have nin : ∀ c, c ≠ z → c ≠ TO → c ≠ i1 → c ≠ i2 → c ∉ [z, TO, i1, i2] := fun c c1 c2 c3 c4 hm => by
        simp only [List.mem_cons, List.not_mem_nil, or_false] at hm
        rcases hm with q | q | q | q
        · exact c1 q
        · exact c2 q
        · exact c3 q
        · exact c4 q
      have hS' := hk S _ (nin S s1 s3 s4 s5) hSo
      have new : ObjOk X.prog X.w (upd (upd H S (.lst acc)) s.heap.objs.size (.tup [x, y])) h' s.heap.objs.size (.tup [x, y]) :=
        ⟨by show 2 ≤ sizeLine; decide, [u, u2], .cons ru (.cons ru2 .nil), ⟨_, hT, rfl, _, rfl⟩⟩
      have I1 : Inv X pins σ (upd (upd H S (.lst acc)) s.heap.objs.size (.tup [x, y])) { s with heap := h' } :=
        I.turnedNew (t' := s.toks) (ch := [z, TI, TO, i1, i2]) (fun c o hb q => hk c o (fun hm => hb (by simp only [List.mem_cons, List.not_mem_nil, or_false] at hm ⊢; rcases hm with q | q | q | q <;> simp [q])) q) hf' (Nat.le_refl _) new
      have hTS : S ≠ s.heap.objs.size := Nat.ne_of_lt hSlt
      rw [upd_comm hTS] at I1
      have hfl : ∀ c ∈ [z, TI, TO, i1, i2], c ≠ s.heap.objs.size := fun c hcm e => by
        obtain ⟨hTI, ⟨o1, e1, _⟩, ⟨o2, e2, _⟩, hz'⟩ := st
        have lt : ∀ {c o}, s.heap.get? c = some o → c < s.heap.objs.size := fun e => Heap.lt_size e
        have hzl : z < s.heap.objs.size := by rcases hz' with ⟨q, _⟩ | ⟨_, _, _, q, _⟩ <;> exact lt q
        have hTOl : TO < s.heap.objs.size := by
          rcases hz' with ⟨_, x', y', q⟩ | ⟨_, _, _, _, _, _, _, _, _, o, q⟩ <;> exact lt q
        simp only [List.mem_cons, List.not_mem_nil, or_false] at hcm
        have : c < s.heap.objs.size := by
          rcases hcm with q | q | q | q | q
          · rw [q]; exact hzl
          · rw [q]; exact lt hTI
          · rw [q]; exact hTOl
          · rw [q]; exact lt e1
          · rw [q]; exact lt e2
        exact Nat.ne_of_lt this e
      refine wpAny_bind (wpAny_updateSeq hS' rfl (wpAny_pure ⟨plainId_quiet PySem.F.plain_extend_loop _, ?_⟩) ?_ ?_)
      · have hS2 := Heap.get?_update_self (Obj.mapSeq (·.push (.ref s.heap.objs.size))) hS' rfl
        have oth : ∀ c o, c ≠ S → h'.get? c = some o → (h'.update S (Obj.mapSeq (·.push (.ref s.heap.objs.size)))).get? c = some o := fun c o hb e => (Heap.get?_update_other _ _ (Ne.symm hb)).trans e
        have new2 : ObjOk X.prog X.w (upd (upd (upd H s.heap.objs.size (.tup [x, y])) S (.lst acc)) S (.lst (acc ++ [V.ref s.heap.objs.size]))) (h'.update S (Obj.mapSeq (·.push (.ref s.heap.objs.size)))) S (.lst (acc ++ [V.ref s.heap.objs.size])) := by
          refine ⟨?_, aits ++ [.ref s.heap.objs.size], (if (aits.toArray.push (Value.ref s.heap.objs.size)).size == aits.toArray.size then n0 else n0 + 1), rv.append (.cons (show RelV (V.ref s.heap.objs.size) (.ref s.heap.objs.size) from rfl) .nil), ?_⟩
          · have e1 : ((x, y) :: zs).length = zs.length + 1 := rfl
            rw [e1] at hlen; rw [List.length_append, List.length_singleton]; omega
          · rw [hS2]
            rw [show (aits ++ [Value.ref s.heap.objs.size]).toArray = aits.toArray.push (.ref s.heap.objs.size) from by simp]
            rfl
        have I2 := I1.write (t' := s.toks) (x := S) (e := S) (o := .lst (acc ++ [V.ref s.heap.objs.size])) (by rw [upd_same]; trivial) (.inl rfl) (fun c o hb q => oth c o hb q) ⟨_, hS2⟩ new2
        rw [upd_upd] at I2
        have hn1 : H s.heap.objs.size = none := by
          have q := I.hok.fresh (Nat.le_refl s.heap.objs.size)
          rwa [upd_ne (Ne.symm hTS)] at q
        refine ih (i + 1) _ (upd H s.heap.objs.size (.tup [x, y])) (acc ++ [V.ref s.heap.objs.size]) I2 (fun c hcm => ?_) (st'.keep oth hS) ?_ ?_ ?_ ?_ ?_ ?_ ?_
        · obtain ⟨q, r⟩ := hf c hcm
          exact ⟨by rw [upd_ne (hfl c hcm)]; exact q, r⟩
        · exact (hl1.at fun o e => hk _ o (nin _ D.l1z D.l1TO D.l1i1 D.l1i2) e).at fun o e => oth _ o hSa e
        · exact (hl2.at fun o e => hk _ o (nin _ D.l2z D.l2TO D.l2i1 D.l2i2) e).at fun o e => oth _ o hSb e
        · intro j p hj
          have := hz (j + 1) p (by simpa using hj)
          rwa [show i + (j + 1) = i + 1 + j from by omega] at this
        · have e1 : ((x, y) :: zs).length = zs.length + 1 := rfl; rw [e1] at hend; clear I I1 I2; omega
        · have e1 : ((x, y) :: zs).length = zs.length + 1 := rfl; rw [e1] at hlen; rw [List.length_append, List.length_singleton]; omega
        · rw [upd_ne hTS]; exact hSn
        · intro s' H' Ts hp hSn' I'
          refine hR s' H' (s.heap.objs.size :: Ts) ⟨hn1, hp⟩ hSn' ?_
          rw [List.append_assoc] at I'
          exact I'
      · have e1 := rv.length
        have e2 : ((x, y) :: zs).length = zs.length + 1 := rfl
        rw [e2] at hlen
        rw [List.size_toArray, ← e1]; omega
      · have e1 := rv.length
        have e2 : ((x, y) :: zs).length = zs.length + 1 := rfl
        rw [e2] at hlen
        show (aits.toArray.push _).size ≤ _
        rw [Array.size_push, List.size_toArray, ← e1]; omega
    have ex : its.toArray[i]? = some u := by simpa using hu
    have ey : its2.toArray[i]? = some u2 := by simpa using hu2
    have st0 := st
    obtain ⟨hTI, h1, h2, hz'⟩ := st
    have lt : ∀ {c o}, s.heap.get? c = some o → s.heap.objs.size ≠ c := fun e => Nat.ne_of_gt (Heap.lt_size e)
    have n1 : s.heap.objs.size ≠ i1 := let ⟨_, e, _⟩ := h1; lt e
    have n2 : s.heap.objs.size ≠ i2 := let ⟨_, e, _⟩ := h2; lt e
    have ni : ∀ {c : Addr} {l : List Addr}, c ∉ l → ∀ q ∈ l, c ≠ q := fun h q hq e => h (e ▸ hq)
    rcases hz' with ⟨hz', x0, y0, hTO⟩ | ⟨T, f, oT, hz', hT, r1, r2, r3, r4, oo, r5⟩
    · refine wpAny_bind (wpAny_pyNext_zip_item D hz' hTI hTO h1 h2 hl1 hl2 ex ey fun h' a1 a2 a3 a4 a5 a6 hk => ?_)
      exact go h' ⟨hk _ _ D.TIz D.TITO D.TIi1 D.TIi2 hTI, a3, a4, .inr ⟨s.heap.objs.size, false, _, a1, a5, lt hz', n1, n2, lt hSo, _, a2⟩⟩ a5 a6
        fun c o hc e => hk c o (ni hc _ (by simp)) (ni hc _ (by simp)) (ni hc _ (by simp)) (ni hc _ (by simp)) e
    · refine wpAny_bind (wpAny_pyNext_zip_item_held D hz' hT hTI h1 h2 hl1 hl2 ex ey fun h' a1 a3 a4 a5 a6 hk => ?_)
      exact go h' ⟨hk _ _ D.TIz D.TIi1 D.TIi2 hTI, a3, a4, .inr ⟨T, true, oT, a1, hk _ _ r1 r2 r3 hT, r1, r2, r3, r4, oo, hk _ _ D.TOz D.TOi1 D.TOi2 r5⟩⟩ a5 a6
        fun c o hc e => hk c o (ni hc _ (by simp)) (ni hc _ (by simp)) (ni hc _ (by simp)) e

/-- list(z) for a zip z of two lists -/
theorem call_list_zip {s : Shared} {H : Hp} {zs : List (V × V)} {Q : VK} (hc : X.calm = true) (D : ZipApart z TI TO i1 i2 a b) (I : Inv X pins σ H s) (hf : ∀ c ∈ [z, TI, TO, i1, i2], FpOk X pins H c)
    (hz' : IsZip s.heap z TI TO .none) (hTI : IsPair s.heap TI (.ref i1) (.ref i2)) (hTO : ∃ x y, IsPair s.heap TO x y) (h1 : s.heap.IsListIter i1 a 0) (h2 : s.heap.IsListIter i2 b 0)
    (hl1 : s.heap.IsList a its.toArray) (hl2 : s.heap.IsList b its2.toArray)
    (hz : ∀ (j : Nat) (p : V × V), zs[j]? = some p → ∃ u u2, its[j]? = some u ∧ its2[j]? = some u2 ∧ RelV p.1 u ∧ RelV p.2 u2) (hend : its.length ≤ zs.length ∨ its2.length ≤ zs.length) (hlen : zs.length ≤ sizeLine)
    (hQ : ∀ S H' Ts, H S = none → PairsAt zs Ts H H' → H' S = none → Q (.ref S) (upd H' S (.lst (Ts.map V.ref)))) :
    wpAny (model X.prog X.w) X.A (call (.type "list") [.ref z]) (EP X pins σ Q) X.xe s := by
  have hzl : z < s.heap.objs.size := Heap.lt_size hz'
  have hall : ∀ c ∈ [z, TI, TO, i1, i2, a, b], c < s.heap.objs.size := fun c hcm => by
    obtain ⟨x, y, hTO⟩ := hTO
    obtain ⟨o1, e1, _⟩ := h1
    obtain ⟨o2, e2, _⟩ := h2
    obtain ⟨o3, e3, _⟩ := hl1
    obtain ⟨o4, e4, _⟩ := hl2
    simp only [List.mem_cons, List.not_mem_nil, or_false] at hcm
    rcases hcm with q | q | q | q | q | q | q <;> (rw [q]; first | exact Heap.lt_size hz' | exact Heap.lt_size hTI | exact Heap.lt_size hTO | exact Heap.lt_size e1 | exact Heap.lt_size e2 | exact Heap.lt_size e3 | exact Heap.lt_size e4)
  refine callType_codes (Q₁ := fun obj s₁ => obj = .ref s.heap.objs.size ∧ s₁ = { s with heap := s.heap.push { cls := .type "list", data := .seq #[] } }) PySem.F.called_list (PySem.F.typeCall_list_1 _) PySem.F.entry_list_init
    (code_list_new _ ⟨rfl, rfl⟩) fun obj s₁ h₁ => ?_
  obtain ⟨rfl, rfl⟩ := h₁
  have hS : (s.heap.push { cls := .type "list", data := .seq #[] }).get? s.heap.objs.size = some { cls := .type "list", data := .seq #[] } := Heap.get?_push_size _ rfl
  refine ⟨⟨_, hS, rfl⟩, PySem.F.args_list_init_2 _ _, ?_⟩
  have lo : ∀ c o, s.heap.get? c = some o → c ≠ s.heap.objs.size := fun c o e => Nat.ne_of_lt (Heap.lt_size e)
  show wpAny _ _ (do let old ← Builtin.List.listItems (.ref s.heap.objs.size); Builtin.List.listUpdate (.ref s.heap.objs.size) (fun _ => #[]); letGo old.toList.reverse; Builtin.List.listExtendWith (.ref s.heap.objs.size) (.ref z) .none) _ _ _
  refine wpAny_bind ?_
  unfold Builtin.List.listItems
  refine wpAny_bind (wpAny_seqItems hS rfl (wpAny_pure ?_))
  show wpAny _ _ (updateSeq s.heap.objs.size (fun _ => #[]) >>= fun _ => letGo (#[] : Array Value).toList.reverse >>= fun _ => Builtin.List.listExtendWith (.ref s.heap.objs.size) (.ref z) .none) _ _ _
  refine wpAny_bind (wpAny_updateSeq hS rfl ?_)
  have hS₂ := Heap.get?_update_self (Obj.mapSeq (fun _ => (#[] : Array Value))) hS rfl
  have oth₂ : ∀ c o, c ≠ s.heap.objs.size → (s.heap.push { cls := .type "list", data := .seq #[] }).get? c = some o → ((s.heap.push { cls := .type "list", data := .seq #[] }).update s.heap.objs.size (Obj.mapSeq (fun _ => (#[] : Array Value)))).get? c = some o :=
    fun c o hb e => (Heap.get?_update_other _ _ (Ne.symm hb)).trans e
  have k₂ : ∀ c o, s.heap.get? c = some o → ((s.heap.push { cls := .type "list", data := .seq #[] }).update s.heap.objs.size (Obj.mapSeq (fun _ => (#[] : Array Value)))).get? c = some o :=
    fun c o e => oth₂ c o (lo c o e) (Heap.get?_push_of_some _ e)
  refine wpAny_bind (wpAny_letGo ?_)
  generalize hG : (s.heap.push { cls := .type "list", data := .seq #[] }).update s.heap.objs.size (Obj.mapSeq (fun _ => (#[] : Array Value))) = G at hS₂ k₂ ⊢
  have hSz : s.heap.objs.size ≠ z := (lo z _ hz').symm
  have key : ∀ (G' : Heap) (n' : Nat), (∀ c o, s.heap.get? c = some o → G'.get? c = some o) → G'.get? s.heap.objs.size = some { cls := .type "list", data := .seq #[] n' } →
      codeAny (model X.prog X.w) X.A.in1 (.builtin "list.extend.loop" ⟨[.ref s.heap.objs.size, .ref z, .none], []⟩) (fun r s' => r = .ok (.ret .none) ∧ EP X pins σ Q (.ref s.heap.objs.size) s') { s with heap := G' } := by
    intro G' n' k hG'
    have new : ObjOk X.prog X.w (upd H s.heap.objs.size (.lst [])) G' s.heap.objs.size (.lst []) := ⟨Nat.zero_le _, [], n', .nil, hG'⟩
    have I1 : Inv X pins σ (upd H s.heap.objs.size (.lst [])) { s with heap := G' } := I.laid (t' := s.toks) k (Nat.le_refl _) new
    refine zip_loop (its := its) (its2 := its2) (A := X.A.in1) (I.ok.hd hc) D (fun hm => ?_) (Nat.ne_of_lt (hall a (by simp))) (Nat.ne_of_lt (hall b (by simp))) .none zs 0 _ H [] I1 hf ?_ (hl1.at fun o e => k _ o e) (hl2.at fun o e => k _ o e) ?_ ?_ ?_ (I.hok.fresh (Nat.le_refl _)) ?_
    · exact absurd (hall _ (by simp only [List.mem_cons, List.not_mem_nil, or_false] at hm ⊢; rcases hm with q | q | q | q | q <;> simp [q])) (Nat.lt_irrefl _)
    · obtain ⟨x, y, hTO⟩ := hTO
      exact ⟨k _ _ hTI, h1.at fun o e => k _ o e, h2.at fun o e => k _ o e, .inl ⟨k _ _ hz', x, y, k _ _ hTO⟩⟩
    · intro j p hj; rw [Nat.zero_add]; exact hz j p hj
    · rw [Nat.zero_add]; exact hend
    · rw [List.length_nil, Nat.zero_add]; exact hlen
    · intro s' H' Ts hp hSn I'
      rw [List.nil_append] at I'
      exact ⟨rfl, V.ref s.heap.objs.size, _, I', rfl, hQ _ H' Ts (I.hok.fresh (Nat.le_refl _)) hp hSn⟩
  have hGz : IsZip G z TI TO .none := k₂ _ _ hz'
  have hT : ∀ (G' : Heap) (tk : Nat), IsZip G' z TI TO .none → ({ s with heap := G', toks := tk } : Shared).TypeIs (.ref z) "zip" := fun G' tk q => ⟨_, q, rfl⟩
  unfold Builtin.List.listExtendWith
  refine wpAny_bind (wpAny_typeOf (T := "zip") (hT G s.toks hGz) ?_)
  have e1 : Builtin.List.listSameRef (.ref s.heap.objs.size) (.ref z) = false := by simp [Builtin.List.listSameRef, hSz]
  have e2 : (Value.type "zip" == Value.type "list") = false := by decide
  have e3 : (Value.type "zip" == Value.type "tuple") = false := by decide
  simp only [e1, e2, e3, Bool.or_false, Bool.false_eq_true, if_false]
  refine wpAny_bind (wpAny_pyIter_zip (s := { s with heap := G }) hGz ?_)
  refine wpAny_bind (wpAny_holding ?_)
  unfold Builtin.List.listLengthHint
  refine wpAny_bind (wpAny_specialOf (hT G s.toks hGz) zip_no_len ?_)
  show wpAny _ _ (specialOf (Value.ref z) (Str.ofString "__length_hint__") >>= _) _ _ _
  refine wpAny_bind (wpAny_specialOf (hT G s.toks hGz) zip_no_hint ?_)
  refine wpAny_pure ?_
  show wpAny _ _ (rule "list.extend.makes-room" >>= fun _ => Builtin.List.listTouch (.ref s.heap.objs.size) >>= fun _ =>
    again (.builtin "list.extend.loop" ⟨[.ref s.heap.objs.size, .ref z, .none], []⟩)) _ _ _
  refine wpAny_bind (wpAny_rule ?_)
  refine wpAny_bind ?_
  show wpAny _ _ (updateSeq s.heap.objs.size (·.push .none) >>= fun _ => updateSeq s.heap.objs.size (·.pop)) _ _ _
  refine wpAny_bind (wpAny_updateSeq hS₂ rfl ?_)
  have hS₃ := Heap.get?_update_self (Obj.mapSeq (·.push Value.none)) hS₂ rfl
  refine wpAny_updateSeq (hz := by seq_fits) hS₃ rfl ?_
  have hS₄ := Heap.get?_update_self (Obj.mapSeq (·.pop)) hS₃ rfl
  refine wpAny_pure ⟨plainId_quiet PySem.F.plain_extend_loop _, codeAny_mono (key _ _ (fun c o e => ?_) hS₄) fun r s' hq => ?_⟩
  · exact (Heap.get?_update_other _ _ (Ne.symm (lo c o e))).trans ((Heap.get?_update_other _ _ (Ne.symm (lo c o e))).trans (k₂ c o e))
  · obtain ⟨rfl, hq⟩ := hq
    exact ⟨rfl, hq⟩
end
section
variable {X : Cx} {ks : List Nat} {P : Fs} {rp : D → Str} {m ma : Md} {pa : Bool} {pos : Pos} {a : E} {as : List E} {e e2 : Expr} {k : Nat} {g : Wd}
def tLstZip (K : PySem.W.Frag) (ta : TA) : TE := fun σ H Q => ta σ H fun vs H1 => ∃ a b xs ys, vs = [.ref a, .ref b] ∧ SqL K H1 a xs ∧ SqL K H1 b ys ∧
  ∀ S H' Ts, PairsAt (xs.zip ys) Ts H1 H' → H' S = none → Q (.ref S) (upd H' S (.lst (Ts.map V.ref)))
theorem pe_listZip {ta : TA} {p pos p2 pos2 : Pos} (hc : X.calm = true) (hg : Gl X "list") (hm : X.mg "list" = none) (hg2 : Gl X "zip") (hm2 : X.mg "zip" = none) (ha : PA X [e, e2] ta)
    (hs : starEach [e, e2] X.env = (false, eval e X.env) :: starEach [e2] X.env) (hpl : (backTo pos2 (starEach [e2] X.env)).any (·.1) = false)
    (na : starEach [.Call (.Name "zip" p2) [e, e2] [] pos2] X.env = (false, eval (.Call (.Name "zip" p2) [e, e2] [] pos2) X.env) :: starEach [] X.env) :
    PE X (.Call (.Name "list" p) [.Call (.Name "zip" p2) [e, e2] [] pos2] [] pos) (tLstZip X.K ta) := by
  refine ⟨fun pins s σ H Q I h => ?_⟩
  refine Call_ (ld_blt I hg hm PyProof.Rows.boot_list (PyProof.Rows.callWith_type1 (args_cons (Call_ (ld_blt I hg2 hm2 PyProof.Rows.boot_zip (PyProof.Rows.callWith_type1 (thn (ha.run pos2 pins s σ H _ I h) fun us s1 ⟨vs, H1, I1, r1, q1⟩ => ?_) hs hpl))) na) na))
  obtain ⟨a, b, xs, ys, ex, hqx, hqy, q⟩ := q1
  subst ex
  cases r1 with
  | cons r rr =>
    cases rr with
    | cons r' rr =>
      cases rr
      cases r
      cases r'
      obtain ⟨its, rv, p1, z1⟩ := I1.list hqx
      obtain ⟨its2, rv2, p2, z2⟩ := I1.list hqy
      have la : a < s1.heap.objs.size := p1.lt
      have lb : b < s1.heap.objs.size := p2.lt
      refine call_zip_2 p1.isList p2.isList fun h' hz hTI hTO h1 h2 hsz hk => args_nil ?_
      have I2 : Inv X pins σ H1 { s1 with heap := h' } := I1.kept (t' := s1.toks) hk
      refine call_list_zip (its := its) (its2 := its2) (zs := xs.zip ys) hc (PySem.W.ktu_apart s1.heap.objs.size a b la lb) I2 (fun c hcm => ?_) hz hTI ⟨_, _, hTO⟩ h1 h2 (p1.isList.at fun o e => hk _ o e) (p2.isList.at fun o e => hk _ o e) (fun j p hj => ?_) ?_ ?_
        fun S H' Ts _ hp hn => q S H' Ts hp hn
      · have e' : c = s1.heap.objs.size + 4 ∨ c = s1.heap.objs.size + 2 ∨ c = s1.heap.objs.size + 3 ∨ c = s1.heap.objs.size ∨ c = s1.heap.objs.size + 1 := by simpa using hcm
        have hle : s1.heap.objs.size ≤ c := by
          rcases e' with z | z | z | z | z
          · rw [z]; exact Nat.le_add_right _ _
          · rw [z]; exact Nat.le_add_right _ _
          · rw [z]; exact Nat.le_add_right _ _
          · rw [z]; exact Nat.le_refl _
          · rw [z]; exact Nat.le_add_right _ _
        exact I1.fpOk hle (I1.hok.fresh hle)
      · obtain ⟨x, y⟩ := p
        obtain ⟨hx, hy⟩ := List.getElem?_zip_eq_some.mp hj
        obtain ⟨u, hu, ru⟩ := rv.get hx
        obtain ⟨u2, hu2, ru2⟩ := rv2.get hy
        exact ⟨u, u2, hu, hu2, ru, ru2⟩
      · have l1 := rv.length
        have l2 := rv2.length
        rw [List.length_zip]
        rcases Nat.le_total xs.length ys.length with h | h
        · exact .inl (by rw [Nat.min_eq_left h]; omega)
        · exact .inr (by rw [Nat.min_eq_right h]; omega)
      · rw [List.length_zip]; omega

theorem pairsAt_step {O : Ow} : ∀ {zs : List (V × V)} {Ts : List Addr} {H H' : Hp} {as bs : List D}, WF H O → PairsAt zs Ts H H' → LayL g (ro H O) (zs.map (·.1)) as → LayL g (ro H O) (zs.map (·.2)) bs →
    Step (fun _ => False) H O H' O ∧ WF H' O ∧ LayL g (ro H' O) (Ts.map V.ref) (zipD as bs)
  | [], [], H, H', as, bs, w, h, l1, l2 => by
    cases l1
    obtain rfl : H' = H := h
    exact ⟨Step.refl, w, .nil⟩
  | z :: zs, T :: Ts, H, H', as, bs, w, h, l1, l2 => by
    obtain ⟨hT, h⟩ := h
    cases l1 with
    | cons a1 l1 =>
    cases l2 with
    | cons b1 l2 =>
    obtain ⟨s, w', op⟩ := Step.new (M := fun _ => False) (o := .tup [z.1, z.2]) w hT
    obtain ⟨s2, w2, l⟩ := pairsAt_step w' h (l1.le s.le) (l2.le s.le)
    refine ⟨s.trans w s2 (fun _ h => .inl h), w2, ?_⟩
    refine .cons ?_ l
    refine Lay.le s2.le (Lay.tup (by rw [ro_of op]; exact upd_same) (.cons (a1.le s.le) (.cons (b1.le s.le) .nil)))
  | [], _ :: _, _, _, _, _, _, h, _, _ => nomatch h
  | _ :: _, [], _, _, _, _, _, h, _, _ => nomatch h
theorem layL_zip {H : Hp} : ∀ {xs ys : List V} {as bs : List D}, LayL g H xs as → LayL g H ys bs → ∃ as' bs', zipD as bs = zipD as' bs' ∧ LayL g H ((xs.zip ys).map (·.1)) as' ∧ LayL g H ((xs.zip ys).map (·.2)) bs'
  | _, _, _, _, .nil, _ => ⟨[], [], rfl, .nil, .nil⟩
  | _, _, _, _, .cons _ _, .nil => ⟨[], [], rfl, .nil, .nil⟩
  | _, _, _, _, .cons a l, .cons b r => by
    obtain ⟨as', bs', e, l', r'⟩ := layL_zip l r
    exact ⟨_ :: as', _ :: bs', congrArg (List.cons _) e, .cons a l', .cons b r'⟩
/-- list(zip(xs, ys)) of two lists -/
theorem d_listZip {p pos p2 pos2 : Pos} (hc : X.calm = true) (h2 : no2 m = true) (hg : Gl X "list") (hm : X.mg "list" = none) (hg2 : Gl X "zip") (hm2 : X.mg "zip" = none) (ha : PA X [e, e2] (TAd (wdOf X) ks .k pa (evs P rp as)))
    (hs : starEach [e, e2] X.env = (false, eval e X.env) :: starEach [e2] X.env) (hpl : (backTo pos2 (starEach [e2] X.env)).any (·.1) = false)
    (na : starEach [.Call (.Name "zip" p2) [e, e2] [] pos2] X.env = (false, eval (.Call (.Name "zip" p2) [e, e2] [] pos2) X.env) :: starEach [] X.env) :
    PE X (.Call (.Name "list" p) [.Call (.Name "zip" p2) [e, e2] [] pos2] [] pos) (TEd (wdOf X) ks m pa (ev P rp (.bi .lzip as))) := by
  refine PE.imp (pe_listZip hc hg hm hg2 hm2 ha hs hpl na) fun σ H Q ⟨O, ρ, d, ρ', R0, e1, q⟩ => ?_
  simp only [ev] at e1
  obtain ⟨⟨es2, ρ3⟩, e5, e1⟩ := bind_ok e1
  obtain ⟨d7, e6, e1⟩ := bind_ok e1
  obtain ⟨rfl, rfl⟩ := Prod.mk.inj (pure_inj e1)
  match es2, e6 with
  | [.lst xs, .lst ys], e6 =>
    obtain rfl := pure_inj e6
    refine ⟨O, ρ, _, ρ3, R0, e5, fun vs H' O' pp pr => ?_⟩
    obtain ⟨v, v2, rfl, r, r2⟩ := pr2 pr
    obtain ⟨p0, xs', rfl, h1, l1⟩ := r
    obtain ⟨p1, ys', rfl, h3, l3⟩ := r2
    refine ⟨p0, p1, xs', ys', rfl, .inl h1, .inl h3, fun S H2 Ts hp hS => ?_⟩
    obtain ⟨as', bs', ee, l1', l3'⟩ := layL_zip l1 l3
    obtain ⟨s, w, l⟩ := pairsAt_step pp.rel.wf hp l1' l3'
    have out := Out.post (m := m) (d := .lst (zipD xs ys)) R0 pp q
    have out2 : Out (wdOf X) m H2 O' (.lst (zipD xs ys)) Q := fun z H3 O3 s3 w3 r3 => out z H3 O3 (s.trans pp.rel.wf s3 fun _ h => .inl h) w3 (r3.early s)
    rw [← ee] at l
    exact out2.lst w hS l (no2_of h2)
theorem w_listZip (m : Md) (G : Cx0 X k) {p p2 pos2 : Pos} (ha : PA X [e, e2] (TAd (wdOf X) ks .k pa (evs P rp as))) (h2 : no2 m = true := by rfl) (hg : Gl X "list" := by rfl) (hg2 : Gl X "zip" := by rfl)
    (hs : starEach [e, e2] X.env = (false, eval e X.env) :: starEach [e2] X.env := by rfl) (hpl : (backTo pos2 (starEach [e2] X.env)).any (·.1) = false := by rfl)
    (na : starEach [.Call (.Name "zip" p2) [e, e2] [] pos2] X.env = (false, eval (.Call (.Name "zip" p2) [e, e2] [] pos2) X.env) :: starEach [] X.env := by rfl) :
    PE X (.Call (.Name "list" p) [.Call (.Name "zip" p2) [e, e2] [] pos2] [] pos) (TEd (wdOf X) ks m pa (ev P rp (.bi .lzip as))) :=
  d_listZip G.hc h2 hg (G.bl _ (by decide)) hg2 (G.bl _ (by decide)) ha hs hpl na
end
end C

set_option Elab.async false
set_option linter.all false
set_option maxRecDepth 100000
set_option maxHeartbeats 1000000
/-! Sound23: y = x[i]; y.append(e) where x is a list of lists of one's own. -/
namespace C
open PySem PySem.Spec PyProof.Rows L2
section
variable {X : Cx} {ks : List Nat} {P : Fs} {rp : D → Str} {B : Base} {ret n : Nat} {m : Md} {pa pb pc : Bool} {a b c e : E} {x y z : Expr} {pos : Pos} {i j : Nat}
/-- a slot is given up, its name means what nobody looks at -/
theorem RelS.drop {g : Wd} {H : Hp} {O : Ow} {σ : L2.St} {ρ : Env} (R : RelS g ks B H O σ ρ) {j : Nat} {v : V} (hk : ks.getD j 0 = 0) : RelS g ks B H O (σ.set j (some v)) (ρ.set j none) := by
  have un : ∀ {k d}, (ρ.set j none)[k]? = some (some d) → j ≠ k ∧ ρ[k]? = some (some d) := fun {k d} h => by
    by_cases z : j = k
    · subst z
      by_cases hl : j < ρ.length
      · rw [List.getElem?_set_self hl] at h; cases h
      · rw [List.getElem?_eq_none (by simpa using hl)] at h; cases h
    · rw [List.getElem?_set_ne z] at h
      exact ⟨z, h⟩
  refine ⟨⟨R.rel.wf, by rw [List.length_set, List.length_set]; exact R.rel.len, fun k e hj => ?_, fun j1 j2 r e1 e2 ne k1 k2 h1 h2 s1 => ?_⟩, R.step, fun a ⟨k, e, kk, h1, h2⟩ => ?_, fun k hj kk => ?_, R.kp⟩
  · obtain ⟨z, h⟩ := un hj
    obtain ⟨w, ew, sl⟩ := R.rel.slot k e h
    exact ⟨w, by rw [List.getElem?_set_ne z]; exact ew, sl⟩
  · obtain ⟨z1, h1⟩ := un h1
    obtain ⟨z2, h2⟩ := un h2
    rw [List.getElem?_set_ne z1] at s1
    rw [List.getElem?_set_ne z2]
    exact R.rel.apart j1 j2 r e1 e2 ne k1 k2 h1 h2 s1
  · obtain ⟨z, h⟩ := un h1
    rw [List.getElem?_set_ne z] at h2
    exact R.roots a ⟨k, e, kk, h, h2⟩
  · have z : j ≠ k := fun z => kk (z ▸ hk)
    rw [List.getElem?_set_ne z]
    exact R.ios k hj kk
theorem LayL.keep {g : Wd} {M : Addr → Prop} {H H1 : Hp} {O O1 : Ow} {xs : List V} {ds : List D} (s : Step M H O H1 O1) (h : LayL g (ro H O) xs ds) : LayL g (ro H1 O1) xs ds := h.le s.le
theorem set_getSome {α : Type} {xs : List α} {k : Nat} {a b : α} (h : xs[k]? = some b) : (xs.set k a)[k]? = some a := by
  have := (List.getElem?_eq_some_iff.mp h).1
  rw [List.getElem?_set_self this]
theorem set_same {α : Type} {xs : List α} {k : Nat} {a : α} (h : xs[k]? = some a) : xs.set k a = xs := by
  obtain ⟨hl, rfl⟩ := List.getElem?_eq_some_iff.mp h
  exact List.set_getElem_self hl
theorem Sub1.put {g : Wd} {H : Hp} {O : Ow} {a b : Addr} {o : HO} {v : V} {d : D} (s : Step (fun x => x = a) H O (upd H b o) O) (h : Sub1 g H O a v d) (nv : v ≠ .ref b) : Sub1 g (upd H b o) O a v d := by
  cases d with
  | lst ds =>
    obtain ⟨c, zs, rfl, h1, h2, h3, h4⟩ := h
    exact ⟨c, zs, rfl, h1, by rw [upd_ne fun z => nv (by rw [z])]; exact h2, h3, h4.le s.le⟩
  | _ => exact ⟨h.1, h.2.le s.le⟩
theorem Own2.put {g : Wd} {H : Hp} {O : Ow} {a b : Addr} {xs ys : List V} {ds es : List D} {k : Nat} (w : WF H O) (h1 : H a = some (.lst xs)) (h2 : O a = some a) (h3 : xs.length = ds.length)
    (h4 : ∀ (i : Nat) v d, xs[i]? = some v → ds[i]? = some d → Sub1 g H O a v d) (h5 : ∀ (i j : Nat) b, xs[i]? = some (V.ref b) → xs[j]? = some (V.ref b) → i = j)
    (nb : b ≠ a) (ob : O b = some a) (hx : xs[k]? = some (.ref b)) (l : LayL g (ro H O) ys es) : Own2 g (upd H b (.lst ys)) O (.ref a) (.lst (ds.set k (.lst es))) := by
  obtain ⟨s, _⟩ := Step.wr (M := fun x => x = a) (o := .lst ys) w ob rfl
  refine ⟨a, xs, rfl, by rw [upd_ne (Ne.symm nb)]; exact h1, h2, by rw [List.length_set]; exact h3, fun i v d e1 e2 => ?_, h5⟩
  by_cases z : k = i
  · subst z
    rw [hx] at e1
    cases e1
    have hl : k < ds.length := by
      have := (List.getElem?_eq_some_iff.mp hx).1
      omega
    rw [List.getElem?_set_self hl] at e2
    cases e2
    exact ⟨b, ys, rfl, nb, upd_same, ob, l.le s.le⟩
  · rw [List.getElem?_set_ne z] at e2
    exact Sub1.put s (h4 i v d e1 e2) fun q => z (by subst q; exact h5 k i b hx e1)
theorem RelS.put2 {g : Wd} {H : Hp} {O : Ow} {σ : L2.St} {ρ : Env} (bo : B.Ok) (R : RelS g ks B H O σ ρ) {i : Nat} {d d' : D} {a b : Addr} {o : HO} (live : ρ[i]? = some (some d)) (hk : ks.getD i 0 ≠ 0) (hs : σ[i]? = some (some (.ref a))) (ow : O b = some a)
    (new : Slot g (upd H b o) O (ks.getD i 0) (.ref a) d') : RelS g ks B (upd H b o) O σ (ρ.set i (some d')) := by
  obtain ⟨s, w⟩ := Step.wr (M := fun x => x = a) (o := o) R.rel.wf ow rfl
  have m0 : Mine ks σ ρ a := ⟨i, d, hk, live, hs⟩
  refine ⟨R.rel.put live hk hs s w new, R.step.trans bo.wf s fun x e => by subst e; exact R.roots x m0, fun a ⟨j, e, kj, h1, h2⟩ => ?_, R.ios, bo.cl R.rel.wf R.kp s⟩
  rcases set_live live d' h1 with ⟨rfl, _⟩ | ⟨_, h⟩
  · exact R.roots a ⟨_, d, kj, live, h2⟩
  · exact R.roots a ⟨j, e, kj, h, h2⟩
theorem isLst_ok {d : D} (h : isLst d = true) : ∃ xs, d = .lst xs := by
  cases d with
  | lst xs => exact ⟨xs, rfl⟩
  | _ => cases h
theorem lstOf_ok {d : D} {xs : List D} (h : lstOf d = .ok xs) : d = .lst xs := by
  cases d with
  | lst ys => injection h with h; rw [h]
  | _ => cases h
theorem intOf_ok' {d : D} {k : Int} (h : intOf d = .ok k) : d = .int k := by
  cases d with
  | int j => injection h with h; rw [h]
  | _ => cases h
theorem s_via {id : String} {f : Mu} {r : V → List V → Hp → VK → Prop} {nx ny name : Str} {px p1 p2 py apos cpos apn : Pos} {es : List Expr} {as : List E} {rest : List Stmt} {ss : List S} (bo : B.Ok) (slot : PySem.Slot "list" name id) (hty : typeOf (.builtin id) = pure (.type "method_descriptor")) (hm : MtR X id r) (mo : MuOk (wdOf X) f r)
    (hN : X.N.Nodup) (hi : X.N[i]? = some nx) (hv : Vis X.env.scope nx) (hd : (nx == ("__debug__" : Str)) = false) (hcd : (nx == ("__classdict__" : Str)) = false) (hk : ks.getD i 0 = 2)
    (hj : X.N[j]? = some ny) (hx : Loc X.env.scope ny) (hfn : X.fn ny = true ∨ X.env.scope.names.lookup ny = some .local) (hvy : Vis X.env.scope ny) (hdy : (ny == ("__debug__" : Str)) = false) (hcdy : (ny == ("__classdict__" : Str)) = false) (hkj : ks.getD j 0 = 0)
    (hb : PE X y (TEd (wdOf X) ks .b true (ev P rp c))) (hs : PlainIx y) (hsw : swapsWith (.Subscript (.Name nx p1) y p2) (some (.Name ny py)) pos.line X.env = pure false)
    (ha : PA X (x :: es) (TAd (wdOf X) ks (muMd f) true (evs P rp as)))
    (hbase : attributeBase (.Name ny px) name X.env (eval (.Name ny px) X.env) = eval (.Name ny px) X.env)
    (hfew : ((backTo cpos (starEach (x :: es) X.env)).all (fun x => !x.1) && (backToKw cpos (keywordEach [] X.env)).all (fun x => x.1.isSome)
      && decide ((x :: es).length + ([] : List Keyword).length + (if ([] : List Keyword).isEmpty then 0 else 1) < 30)) = true)
    (hline : (apos.endLine == cpos.line) = true) (hst : starEach (x :: es) X.env = (false, eval x X.env) :: starEach es X.env) (hpl : (starEach es X.env).any (·.1) = false)
    (hsw2 : swapsWith (.Call (.Attribute (.Name ny px) name apos) (x :: es) [] cpos) none apn.line X.env = pure false) (hr : PSs X rest (TSd (wdOf X) ks B ret (sts P rp n ss))) :
    PSs X (.Assign [.Name ny py] (.Subscript (.Name nx p1) y p2) pos :: .Expr (.Call (.Attribute (.Name ny px) name apos) (x :: es) [] cpos) apn :: rest) (TSd (wdOf X) ks B ret (sts P rp n (.via j i c f as :: ss))) := by
  refine PSs.imp (pss_cons (ps_set hN hj hx (pe_ix ix_list (pe_var hi hv hd hcd) hb hs) hsw hfn) (pss_cons (ps_expr (pe_bm F.plainAttrs_list slot hty hm (pe_var hj hvy hdy hcdy) ha hbase hfew hline hst (plainNext _ _ _ hpl)) hsw2) hr)) fun D σ H ⟨O, ρ, fl, R, e0, lv, q⟩ => ?_
  simp only [sts, st] at e0
  obtain ⟨f1, e0, e9⟩ := bind_ok e0
  obtain ⟨⟨k, r1⟩, e1, e0⟩ := bind_ok e0
  obtain ⟨o0, e2, e0⟩ := bind_ok e0
  obtain ⟨x0, e3, e0⟩ := bind_ok e0
  obtain ⟨kk, e4, e0⟩ := bind_ok e0
  obtain ⟨y0, e5, e0⟩ := bind_ok e0
  obtain ⟨_, e6, e0⟩ := bind_ok e0
  obtain ⟨⟨ds, r2⟩, e7, e0⟩ := bind_ok e0
  obtain ⟨o, e8, e0⟩ := bind_ok e0
  obtain ⟨o', e10, e0⟩ := bind_ok e0
  obtain rfl := pure_inj e0
  have il0 := grd_ok e6
  rw [Bool.and_eq_true] at il0
  have hl0 := of_decide_eq_true il0.2
  obtain ⟨ys0, rfl⟩ := isLst_ok il0.1
  obtain rfl := lstOf_ok e3
  obtain rfl := intOf_ok' e4
  obtain ⟨d0, l0⟩ := ev_sub _ _ _ _ e1 i _ (rd_ok e2)
  obtain ⟨v, ev1, _⟩ := R.rel.slot i d0 l0
  refine ⟨v, ev1, O, ρ, .int kk, r1, R.rel, e1, fun kv H1 O1 p1 q1 => ?_⟩
  have R1 := R.post bo p1
  obtain ⟨v', ev2, sl⟩ := R1.rel.slot i _ (rd_ok e2)
  rw [ev1] at ev2
  cases ev2
  rw [hk] at sl
  obtain ⟨a, xs, rfl, g1, g2, g3, g4, g5⟩ := (show Own2 (wdOf X) H1 O1 v (.lst x0) from sl)
  obtain rfl := lay_int (show Lay (wdOf X) H1 kv (.int kk) from q1)
  obtain ⟨y1, e5, hy⟩ := ofO_ok e5
  subst hy
  -- the item
  obtain ⟨jj, ej, ey⟩ : ∃ jj, ixN x0.length kk = some jj ∧ x0[jj]? = some (.lst ys0) := by
    unfold atI at e5
    cases h : ixN x0.length kk with
    | none => rw [h] at e5; cases e5
    | some jj => rw [h] at e5; exact ⟨jj, rfl, e5⟩
  obtain ⟨w, ew⟩ : ∃ w, xs[jj]? = some w := by
    have := (List.getElem?_eq_some_iff.mp ey).1
    exact ⟨_, List.getElem?_eq_getElem (by omega)⟩
  obtain ⟨b, zs, rfl, nb, gb, ob, lz⟩ := (show Sub1 (wdOf X) H1 O1 a w (.lst ys0) from g4 jj _ _ ew ey)
  refine ⟨a, xs, kk, .ref b, rfl, rfl, .inl (.inl g1), ?_, ?_⟩
  · unfold L2.atI
    rw [g3, show L2.ixN x0.length kk = C.ixN x0.length kk from rfl, ej]
    exact ew
  -- the method
  have R2 : RelS (wdOf X) ks B H1 O1 (σ.set j (some (.ref b))) (r1.set j none) := R1.drop hkj
  have ne : j ≠ i := fun z => by rw [z, hk] at hkj; cases hkj
  have hjl : j < σ.length := by
    have h1 := R1.rel.len
    have h2 : j < r1.length := hl0
    omega
  refine ⟨.ref b, by rw [List.getElem?_set_self hjl], .inl ⟨rfl, zs, .inl (.of gb)⟩, O1, r1.set j none, ds, r2, R2.rel, e7, fun vs H2 O2 p pr => ?_⟩
  have R3 := R2.post bo p
  obtain ⟨v', ev2, sl3⟩ := R3.rel.slot i o (rd_ok e8)
  rw [List.getElem?_set_ne ne, ev1] at ev2
  cases ev2
  rw [hk] at sl3
  have keep : ∀ a' r', O1 a' = some r' → O2 a' = some r' ∧ H2 a' = H1 a' := fun a' r' h => p.step.fo a' r' h fun m => by cases m.1
  simp only [atPath] at e10
  obtain ⟨x3, rfl⟩ : ∃ x3, o = .lst x3 := by
    cases o with
    | lst x3 => exact ⟨x3, rfl⟩
    | dct t kvs => exact absurd (show atom (.dct t kvs) = true ∧ Lay (wdOf X) (ro H2 O2) (.ref a) _ from sl3).1 (by simp [atom])
    | _ => cases e10
  obtain ⟨j3, e11, e10⟩ := bind_ok e10
  obtain ⟨y3, e12, e10⟩ := bind_ok e10
  obtain ⟨y4, e13, e10⟩ := bind_ok e10
  obtain rfl := pure_inj e10
  obtain ⟨j4, e11', hh⟩ := ofO_ok e11
  subst hh
  obtain ⟨y5, e12', hh⟩ := ofO_ok e12
  subst hh
  clear e11 e12
  have e11 := e11'
  have e12 := e12'
  obtain ⟨a3, xs3, ea, k1, k2, k3, k4, k5⟩ := (show Own2 (wdOf X) H2 O2 (.ref a) (.lst x3) from sl3)
  cases ea
  have hxs : xs3 = xs := by
    have := (keep a a g2).2
    rw [k1, g1] at this
    cases this; rfl
  subst hxs
  have hjj : j4 = jj := by
    rw [← k3, g3, ej] at e11
    exact (Option.some.inj e11).symm
  subst hjj
  have sb := k4 j4 _ _ ew e12
  cases y5 <;> first | (exact absurd (show atom _ = true ∧ Lay (wdOf X) (ro H2 O2) (.ref b) _ from sb) (by rintro ⟨h1, h2⟩; first | (cases h2; done) | (simp [atom] at h1; done))) | skip
  rename_i ys5
  obtain ⟨b', zs', eb, nb', gb', ob', lz'⟩ := (show Sub1 (wdOf X) H2 O2 a (.ref b) (.lst ys5) from sb)
  cases eb
  refine mo H2 O2 b zs' ys5 vs ds y4 _ gb' lz' ?_ e13 fun ys ds' ed ly => ?_
  · refine Paired.mapP pr fun a b z => ?_
    cases f <;> exact z
  · subst ed
    refine ⟨O2, _, fl, R3.put2 (d' := .lst (x3.set j4 (.lst ds'))) bo (rd_ok e8) (by omega) (by rw [List.getElem?_set_ne ne]; exact ev1) ob' ?_, e9, lv, q⟩
    rw [hk]
    exact Own2.put R3.rel.wf k1 k2 k3 k4 k5 nb' ob' ew ly
theorem pa_k {es : List Expr} {f : Env → Rs (List D × Env)} (h : PA X es (TAd (wdOf X) ks (.own 0) pa f)) : PA X es (TAd (wdOf X) ks .k pa f) :=
  PA.imp h fun σ H Q ⟨O, ρ, ds, ρ', R, e, q⟩ => ⟨O, ρ, ds, ρ', R, e, fun vs H' O' p r => q vs H' O' p (Paired.mapP r fun a b z => (Top.of z : Top (wdOf X) H' O' a b))⟩
theorem w_via {id : String} {f : Mu} {r : V → List V → Hp → VK → Prop} {k : Nat} {nx ny name : Str} {px p1 p2 py apos cpos apn : Pos} {es : List Expr} {as : List E} {rest : List Stmt} {ss : List S} (slot : PySem.Slot "list" name id) (hty : typeOf (.builtin id) = pure (.type "method_descriptor")) (hm : MtR X id r) (mo : MuOk (wdOf X) f r) (G : Cx0 X k) (bo : B.Ok) (j i : Nat)
    (hb : PE X y (TEd (wdOf X) ks .b true (ev P rp c))) (ha : PA X (x :: es) (TAd (wdOf X) ks (muMd f) true (evs P rp as))) (hr : PSs X rest (TSd (wdOf X) ks B ret (sts P rp n ss)))
    (hi : X.N[i]? = some nx := by rfl) (hv : Vis X.env.scope nx := by first | exact Or.inl rfl | exact Or.inr (Or.inl rfl) | exact Or.inr (Or.inr rfl)) (hk : ks.getD i 0 = 2 := by rfl)
    (hj : X.N[j]? = some ny := by rfl) (hx : Loc X.env.scope ny := by first | exact Or.inl rfl | exact Or.inr rfl) (hvy : Vis X.env.scope ny := by first | exact Or.inl rfl | exact Or.inr (Or.inl rfl) | exact Or.inr (Or.inr rfl))
    (hd : (nx == ("__debug__" : Str)) = false := by decide) (hcd : (nx == ("__classdict__" : Str)) = false := by decide) (hfn : X.fn ny = true ∨ X.env.scope.names.lookup ny = some .local := by first | exact .inl rfl | exact .inr rfl)
    (hdy : (ny == ("__debug__" : Str)) = false := by decide) (hcdy : (ny == ("__classdict__" : Str)) = false := by decide) (hkj : ks.getD j 0 = 0 := by rfl)
    (hs : PlainIx y := by exact fun _ _ => rfl) (hsw : swapsWith (.Subscript (.Name nx p1) y p2) (some (.Name ny py)) pos.line X.env = pure false := by rfl)
    (hbase : attributeBase (.Name ny px) name X.env (eval (.Name ny px) X.env) = eval (.Name ny px) X.env := by rfl)
    (hfew : ((backTo cpos (starEach (x :: es) X.env)).all (fun x => !x.1) && (backToKw cpos (keywordEach [] X.env)).all (fun x => x.1.isSome)
      && decide ((x :: es).length + ([] : List Keyword).length + (if ([] : List Keyword).isEmpty then 0 else 1) < 30)) = true := by rfl)
    (hline : (apos.endLine == cpos.line) = true := by rfl) (hst : starEach (x :: es) X.env = (false, eval x X.env) :: starEach es X.env := by rfl) (hpl : (starEach es X.env).any (·.1) = false := by rfl)
    (hsw2 : swapsWith (.Call (.Attribute (.Name ny px) name apos) (x :: es) [] cpos) none apn.line X.env = pure false := by rfl) :
    PSs X (.Assign [.Name ny py] (.Subscript (.Name nx p1) y p2) pos :: .Expr (.Call (.Attribute (.Name ny px) name apos) (x :: es) [] cpos) apn :: rest) (TSd (wdOf X) ks B ret (sts P rp n (.via j i c f as :: ss))) :=
  s_via bo slot hty hm mo G.nd hi hv hd hcd hk hj hx hfn hvy hdy hcdy hkj hb hs hsw ha hbase hfew hline hst hpl hsw2 hr
end
end C

set_option Elab.async false
set_option linter.all false
set_option maxRecDepth 100000
set_option maxHeartbeats 1000000
/-! Sound24: x[i].append(e) where x is a list of lists of one's own; x.reverse(). -/
namespace C
open PySem PySem.Spec PyProof.Rows L2
section
variable {X : Cx} {ks : List Nat} {P : Fs} {rp : D → Str} {B : Base} {ret n : Nat} {m : Md} {pa pb pc : Bool} {a b c e : E} {x y z : Expr} {pos : Pos} {i j : Nat}
/-- what a slot means is forgotten -/
theorem RelS.forget {g : Wd} {H : Hp} {O : Ow} {σ : L2.St} {ρ : Env} (R : RelS g ks B H O σ ρ) {j : Nat} : RelS g ks B H O σ (ρ.set j none) := by
  have un : ∀ {k d}, (ρ.set j none)[k]? = some (some d) → ρ[k]? = some (some d) := fun {k d} h => by
    by_cases z : j = k
    · subst z
      by_cases hl : j < ρ.length
      · rw [List.getElem?_set_self hl] at h; cases h
      · rw [List.getElem?_eq_none (by simpa using hl)] at h; cases h
    · rw [List.getElem?_set_ne z] at h
      exact h
  exact ⟨⟨R.rel.wf, by rw [List.length_set]; exact R.rel.len, fun k e hj => R.rel.slot k e (un hj), fun j1 j2 r e1 e2 ne k1 k2 h1 h2 s1 => R.rel.apart j1 j2 r e1 e2 ne k1 k2 (un h1) (un h2) s1⟩, R.step, fun a ⟨k, e, kk, h1, h2⟩ => R.roots a ⟨k, e, kk, un h1, h2⟩, R.ios, R.kp⟩
theorem s_mcV {id : String} {f : Mu} {r : V → List V → Hp → VK → Prop} {nx name : Str} {p1 p2 apos cpos apn : Pos} {es : List Expr} {as : List E} (bo : B.Ok) (slot : PySem.Slot "list" name id) (hty : typeOf (.builtin id) = pure (.type "method_descriptor")) (hm : MtR X id r) (mo : MuOk (wdOf X) f r)
    (hN : X.N.Nodup) (hi : X.N[i]? = some nx) (hv : Vis X.env.scope nx) (hd : (nx == ("__debug__" : Str)) = false) (hcd : (nx == ("__classdict__" : Str)) = false) (hk : ks.getD i 0 = 2)
    (hkj : ks.getD j 0 = 0)
    (hb : PE X y (TEd (wdOf X) ks .b true (ev P rp c))) (hs : PlainIx y)
    (ha : PA X (x :: es) (TAd (wdOf X) ks (muMd f) true (evs P rp as)))
    (hbase : attributeBase (.Subscript (.Name nx p1) y p2) name X.env (eval (.Subscript (.Name nx p1) y p2) X.env) = eval (.Subscript (.Name nx p1) y p2) X.env)
    (hfew : ((backTo cpos (starEach (x :: es) X.env)).all (fun x => !x.1) && (backToKw cpos (keywordEach [] X.env)).all (fun x => x.1.isSome)
      && decide ((x :: es).length + ([] : List Keyword).length + (if ([] : List Keyword).isEmpty then 0 else 1) < 30)) = true)
    (hline : (apos.endLine == cpos.line) = true) (hst : starEach (x :: es) X.env = (false, eval x X.env) :: starEach es X.env) (hpl : (starEach es X.env).any (·.1) = false)
    (hsw2 : swapsWith (.Call (.Attribute (.Subscript (.Name nx p1) y p2) name apos) (x :: es) [] cpos) none apn.line X.env = pure false) :
    PS X (.Expr (.Call (.Attribute (.Subscript (.Name nx p1) y p2) name apos) (x :: es) [] cpos) apn) (TSd (wdOf X) ks B ret (st P rp n (.via j i c f as))) := by
  refine PS.imp (ps_expr (pe_bm F.plainAttrs_list slot hty hm (pe_ix ix_list (pe_var hi hv hd hcd) hb hs) ha hbase hfew hline hst (plainNext _ _ _ hpl)) hsw2) fun D σ H ⟨O, ρ, fl, R, e0, lv, q⟩ => ?_
  simp only [st] at e0
  obtain ⟨⟨k, r1⟩, e1, e0⟩ := bind_ok e0
  obtain ⟨o0, e2, e0⟩ := bind_ok e0
  obtain ⟨x0, e3, e0⟩ := bind_ok e0
  obtain ⟨kk, e4, e0⟩ := bind_ok e0
  obtain ⟨y0, e5, e0⟩ := bind_ok e0
  obtain ⟨_, e6, e0⟩ := bind_ok e0
  obtain ⟨⟨ds, r2⟩, e7, e0⟩ := bind_ok e0
  obtain ⟨o, e8, e0⟩ := bind_ok e0
  obtain ⟨o', e10, e0⟩ := bind_ok e0
  obtain rfl := pure_inj e0
  have il0 := grd_ok e6
  rw [Bool.and_eq_true] at il0
  have hl0 := of_decide_eq_true il0.2
  obtain ⟨ys0, rfl⟩ := isLst_ok il0.1
  obtain rfl := lstOf_ok e3
  obtain rfl := intOf_ok' e4
  obtain ⟨d0, l0⟩ := ev_sub _ _ _ _ e1 i _ (rd_ok e2)
  obtain ⟨v, ev1, _⟩ := R.rel.slot i d0 l0
  refine ⟨v, ev1, O, ρ, .int kk, r1, R.rel, e1, fun kv H1 O1 p1 q1 => ?_⟩
  have R1 := R.post bo p1
  obtain ⟨v', ev2, sl⟩ := R1.rel.slot i _ (rd_ok e2)
  rw [ev1] at ev2
  cases ev2
  rw [hk] at sl
  obtain ⟨a, xs, rfl, g1, g2, g3, g4, g5⟩ := (show Own2 (wdOf X) H1 O1 v (.lst x0) from sl)
  obtain rfl := lay_int (show Lay (wdOf X) H1 kv (.int kk) from q1)
  obtain ⟨y1, e5, hy⟩ := ofO_ok e5
  subst hy
  -- the item
  obtain ⟨jj, ej, ey⟩ : ∃ jj, ixN x0.length kk = some jj ∧ x0[jj]? = some (.lst ys0) := by
    unfold atI at e5
    cases h : ixN x0.length kk with
    | none => rw [h] at e5; cases e5
    | some jj => rw [h] at e5; exact ⟨jj, rfl, e5⟩
  obtain ⟨w, ew⟩ : ∃ w, xs[jj]? = some w := by
    have := (List.getElem?_eq_some_iff.mp ey).1
    exact ⟨_, List.getElem?_eq_getElem (by omega)⟩
  obtain ⟨b, zs, rfl, nb, gb, ob, lz⟩ := (show Sub1 (wdOf X) H1 O1 a w (.lst ys0) from g4 jj _ _ ew ey)
  refine ⟨a, xs, kk, .ref b, rfl, rfl, .inl (.inl g1), ?_, ?_⟩
  · unfold L2.atI
    rw [g3, show L2.ixN x0.length kk = C.ixN x0.length kk from rfl, ej]
    exact ew
  -- the method
  have R2 : RelS (wdOf X) ks B H1 O1 σ (r1.set j none) := R1.forget
  refine ⟨.inl ⟨rfl, zs, .inl (.of gb)⟩, O1, r1.set j none, ds, r2, R2.rel, e7, fun vs H2 O2 p pr => ?_⟩
  have R3 := R2.post bo p
  obtain ⟨v', ev2, sl3⟩ := R3.rel.slot i o (rd_ok e8)
  rw [ev1] at ev2
  cases ev2
  rw [hk] at sl3
  have keep : ∀ a' r', O1 a' = some r' → O2 a' = some r' ∧ H2 a' = H1 a' := fun a' r' h => p.step.fo a' r' h fun m => by cases m.1
  simp only [atPath] at e10
  obtain ⟨x3, rfl⟩ : ∃ x3, o = .lst x3 := by
    cases o with
    | lst x3 => exact ⟨x3, rfl⟩
    | dct t kvs => exact absurd (show atom (.dct t kvs) = true ∧ Lay (wdOf X) (ro H2 O2) (.ref a) _ from sl3).1 (by simp [atom])
    | _ => cases e10
  obtain ⟨j3, e11, e10⟩ := bind_ok e10
  obtain ⟨y3, e12, e10⟩ := bind_ok e10
  obtain ⟨y4, e13, e10⟩ := bind_ok e10
  obtain rfl := pure_inj e10
  obtain ⟨j4, e11', hh⟩ := ofO_ok e11
  subst hh
  obtain ⟨y5, e12', hh⟩ := ofO_ok e12
  subst hh
  clear e11 e12
  have e11 := e11'
  have e12 := e12'
  obtain ⟨a3, xs3, ea, k1, k2, k3, k4, k5⟩ := (show Own2 (wdOf X) H2 O2 (.ref a) (.lst x3) from sl3)
  cases ea
  have hxs : xs3 = xs := by
    have := (keep a a g2).2
    rw [k1, g1] at this
    cases this; rfl
  subst hxs
  have hjj : j4 = jj := by
    rw [← k3, g3, ej] at e11
    exact (Option.some.inj e11).symm
  subst hjj
  have sb := k4 j4 _ _ ew e12
  cases y5 <;> first | (exact absurd (show atom _ = true ∧ Lay (wdOf X) (ro H2 O2) (.ref b) _ from sb) (by rintro ⟨h1, h2⟩; first | (cases h2; done) | (simp [atom] at h1; done))) | skip
  rename_i ys5
  obtain ⟨b', zs', eb, nb', gb', ob', lz'⟩ := (show Sub1 (wdOf X) H2 O2 a (.ref b) (.lst ys5) from sb)
  cases eb
  refine mo H2 O2 b zs' ys5 vs ds y4 _ gb' lz' ?_ e13 fun ys ds' ed ly => ?_
  · refine Paired.mapP pr fun a b z => ?_
    cases f <;> exact z
  · subst ed
    refine q σ _ O2 (R3.put2 (d' := .lst (x3.set j4 (.lst ds'))) bo (rd_ok e8) (by omega) ev1 ob' ?_)
    rw [hk]
    exact Own2.put R3.rel.wf k1 k2 k3 k4 k5 nb' ob' ew ly

theorem w_mcV {id : String} {f : Mu} {r : V → List V → Hp → VK → Prop} {k : Nat} {nx name : Str} {p1 p2 apos cpos apn : Pos} {es : List Expr} {as : List E} (slot : PySem.Slot "list" name id) (hty : typeOf (.builtin id) = pure (.type "method_descriptor")) (hm : MtR X id r) (mo : MuOk (wdOf X) f r) (G : Cx0 X k) (bo : B.Ok) (j i : Nat)
    (hb : PE X y (TEd (wdOf X) ks .b true (ev P rp c))) (ha : PA X (x :: es) (TAd (wdOf X) ks (muMd f) true (evs P rp as)))
    (hi : X.N[i]? = some nx := by rfl) (hv : Vis X.env.scope nx := by first | exact Or.inl rfl | exact Or.inr (Or.inl rfl) | exact Or.inr (Or.inr rfl)) (hk : ks.getD i 0 = 2 := by rfl)
    (hd : (nx == ("__debug__" : Str)) = false := by decide) (hcd : (nx == ("__classdict__" : Str)) = false := by decide) (hkj : ks.getD j 0 = 0 := by rfl) (hs : PlainIx y := by exact fun _ _ => rfl)
    (hbase : attributeBase (.Subscript (.Name nx p1) y p2) name X.env (eval (.Subscript (.Name nx p1) y p2) X.env) = eval (.Subscript (.Name nx p1) y p2) X.env := by rfl)
    (hfew : ((backTo cpos (starEach (x :: es) X.env)).all (fun x => !x.1) && (backToKw cpos (keywordEach [] X.env)).all (fun x => x.1.isSome)
      && decide ((x :: es).length + ([] : List Keyword).length + (if ([] : List Keyword).isEmpty then 0 else 1) < 30)) = true := by rfl)
    (hline : (apos.endLine == cpos.line) = true := by rfl) (hst : starEach (x :: es) X.env = (false, eval x X.env) :: starEach es X.env := by rfl) (hpl : (starEach es X.env).any (·.1) = false := by rfl)
    (hsw2 : swapsWith (.Call (.Attribute (.Subscript (.Name nx p1) y p2) name apos) (x :: es) [] cpos) none apn.line X.env = pure false := by rfl) :
    PS X (.Expr (.Call (.Attribute (.Subscript (.Name nx p1) y p2) name apos) (x :: es) [] cpos) apn) (TSd (wdOf X) ks B ret (st P rp n (.via j i c f as))) :=
  s_mcV bo slot hty hm mo G.nd hi hv hd hcd hk hkj hb hs ha hbase hfew hline hst hpl hsw2
theorem LayL.rev {g : Wd} {H : Hp} {xs : List V} {ds : List D} (h : LayL g H xs ds) : LayL g H xs.reverse ds.reverse := by
  induction xs generalizing ds with
  | nil => cases h; exact .nil
  | cons v xs ih =>
    cases h with
    | cons a r =>
      rw [List.reverse_cons, List.reverse_cons]
      exact (ih r).append (.cons a .nil)
theorem mu_reverse {g : Wd} : MuOk g .reverse rReverse := by
  intro H O l xs ds vs as d' Q h1 l1 pr e q
  match as, e with
  | [], e =>
    obtain rfl : D.lst ds.reverse = d' := by injection e
    cases pr
    exact ⟨l, xs, rfl, rfl, h1, q _ _ rfl l1.rev⟩
theorem s_mc0 {id : String} {f : Mu} {r : V → List V → Hp → VK → Prop} {nm name : Str} {p1 apos cpos : Pos} (bo : B.Ok) (slot : PySem.Slot "list" name id) (hty : typeOf (.builtin id) = pure (.type "method_descriptor")) (hm : MtR X id r) (mo : MuOk (wdOf X) f r)
    (hN : X.N[i]? = some nm) (hv : Vis X.env.scope nm) (hd : (nm == ("__debug__" : Str)) = false) (hcd : (nm == ("__classdict__" : Str)) = false) (hk : ks.getD i 0 = 1)
    (hbase : attributeBase (.Name nm p1) name X.env (eval (.Name nm p1) X.env) = eval (.Name nm p1) X.env) (hline : (apos.endLine == cpos.line) = true)
    (hsw : swapsWith (.Call (.Attribute (.Name nm p1) name apos) [] [] cpos) none pos.line X.env = pure false) :
    PS X (.Expr (.Call (.Attribute (.Name nm p1) name apos) [] [] cpos) pos) (TSd (wdOf X) ks B ret (st P rp n (.mcall f i [] []))) := by
  refine PS.imp (ps_expr (pe_bm0 F.plainAttrs_list slot hty hm (pe_var hN hv hd hcd) hbase hline) hsw) fun D σ H ⟨O, ρ, fl, R, e0, lv, q⟩ => ?_
  simp only [st, evs, ok_bind] at e0
  obtain ⟨o0, e1, e0⟩ := bind_ok e0
  obtain ⟨_, e2, e0⟩ := bind_ok e0
  obtain ⟨o, e4, e0⟩ := bind_ok e0
  obtain ⟨o', e5, e0⟩ := bind_ok e0
  obtain rfl := pure_inj e0
  obtain ⟨us0, rfl⟩ := isLst_ok (grd_ok e2)
  have e4' : rd ρ i = .ok o := e4
  rw [e1] at e4'
  cases e4'
  obtain ⟨v, ev1, sl⟩ := R.rel.slot i _ (rd_ok e1)
  rw [hk] at sl
  obtain ⟨l, ws, rfl, g1, g2, g3⟩ := (show Own1 (wdOf X) H O v (.lst _) from sl)
  simp only [atPath] at e5
  refine ⟨_, ev1, .inl ⟨rfl, ws, .inl (.of g1)⟩, mo H O l ws us0 [] [] o' _ g1 g3 .nil e5 fun ys ds' ed ly => ?_⟩
  subst ed
  obtain ⟨s, w⟩ := Step.wr (M := fun x => x = l) (o := .lst ys) R.rel.wf g2 rfl
  exact q σ _ O (R.put bo (rd_ok e1) (by omega) ev1 g2 (by rw [hk]; exact ⟨l, ys, rfl, upd_same, g2, ly.le s.le⟩))
theorem w_mc0 {id : String} {f : Mu} {r : V → List V → Hp → VK → Prop} {name : Str} (slot : PySem.Slot "list" name id) (hty : typeOf (.builtin id) = pure (.type "method_descriptor")) (hm : MtR X id r) (mo : MuOk (wdOf X) f r) (bo : B.Ok) (i : Nat) {nm : Str} {p1 apos cpos : Pos}
    (hN : X.N[i]? = some nm := by rfl) (hv : Vis X.env.scope nm := by first | exact Or.inl rfl | exact Or.inr (Or.inl rfl) | exact Or.inr (Or.inr rfl)) (hk : ks.getD i 0 = 1 := by rfl)
    (hd : (nm == ("__debug__" : Str)) = false := by decide) (hcd : (nm == ("__classdict__" : Str)) = false := by decide)
    (hbase : attributeBase (.Name nm p1) name X.env (eval (.Name nm p1) X.env) = eval (.Name nm p1) X.env := by rfl) (hline : (apos.endLine == cpos.line) = true := by rfl)
    (hsw : swapsWith (.Call (.Attribute (.Name nm p1) name apos) [] [] cpos) none pos.line X.env = pure false := by rfl) :
    PS X (.Expr (.Call (.Attribute (.Name nm p1) name apos) [] [] cpos) pos) (TSd (wdOf X) ks B ret (st P rp n (.mcall f i [] []))) :=
  s_mc0 bo slot hty hm mo hN hv hd hcd hk hbase hline hsw
end
end C

set_option Elab.async false
set_option linter.all false
set_option maxRecDepth 100000
/-! Shown: the signs of a repr are signs. -/
namespace C
open PySem PySem.Spec PyProof.Rows L2
def CO (s : Str) : Prop := ∀ c ∈ s.cps.toList, c < 1114112
theorem co_of (s : String) : CO (Str.ofString s) := by
  intro c hc
  rw [Str.ofString_eq_toList] at hc
  obtain ⟨x, _, rfl⟩ := List.mem_map.mp (by simpa using hc)
  have h : x.toNat.isValidChar := x.valid
  rcases h with h | ⟨_, h⟩
  · omega
  · exact h
theorem co_app {a b : Str} (ha : CO a) (hb : CO b) : CO (a ++ b) := by
  intro c hc
  have e : (a ++ b).cps.toList = a.cps.toList ++ b.cps.toList := by
    show (a.cps ++ b.cps).toList = _
    rw [Array.toList_append]
  rw [e] at hc
  rcases List.mem_append.mp hc with h | h
  · exact ha c h
  · exact hb c h
theorem co_join {sep : Str} (hs : CO sep) : ∀ {ts : List Str}, (∀ t ∈ ts, CO t) → CO (Str.join sep ts)
  | [], _ => fun c hc => by simp [Str.join, Str.empty] at hc
  | [x], h => h x (by simp)
  | x :: y :: r, h => by
    show CO (x ++ sep ++ Str.join sep (y :: r))
    exact co_app (co_app (h x (by simp)) hs) (co_join hs fun t ht => h t (by simp [ht]))
theorem co_text : ∀ (ts : List Str) (k : Nat) (acc : Str), CO acc → (∀ t ∈ ts, CO t) → CO (textFrom k acc ts)
  | [], _, _, h, _ => h
  | t :: r, k, acc, h, ht => by
    show CO (textFrom (k + 1) (acc ++ Str.ofString (if k > 0 then ", " else "") ++ t) r)
    exact co_text r _ _ (co_app (co_app h (co_of _)) (ht t (by simp))) fun u hu => ht u (by simp [hu])
theorem co_list {ts : List Str} (h : ∀ t ∈ ts, CO t) : CO (listText ts) := co_app (co_text _ _ _ (co_of "[") h) (co_of "]")
theorem co_tup {ts : List Str} (h : ∀ t ∈ ts, CO t) : CO (tupleText ts) := co_app (co_app (co_of "(") (co_join (co_of ", ") h)) (co_of _)
mutual
/-- data without texts -/
def nst : D → Bool
  | .str _ => false | .dct _ _ => false | .set _ => false
  | .tup xs => nsts xs
  | .lst xs => nsts xs
  | _ => true
def nsts : List D → Bool
  | [] => true
  | d :: r => nst d && nsts r
end
mutual
theorem co_shown : ∀ (d : D), nst d = true → CO (toPy d).shown
  | .non, _ => co_of "None"
  | .bl b, _ => by cases b; exact co_of "False"; exact co_of "True"
  | .int i, _ => co_of _
  | .str x, h => by simp [nst] at h
  | .tup xs, h => by
    simp only [toPy, PyData.shown]
    exact co_tup (co_showns xs (by simpa only [nst] using h))
  | .lst xs, h => by
    simp only [toPy, PyData.shown]
    exact co_list (co_showns xs (by simpa only [nst] using h))
  | .dct _ _, h => by simp [nst] at h
  | .set _, h => by simp [nst] at h
theorem co_showns : ∀ (ds : List D), nsts ds = true → ∀ t ∈ PyData.shownAll (toPys ds), CO t
  | [], _ => by simp [toPys, PyData.shownAll]
  | d :: ds, h => by
    simp only [nsts, Bool.and_eq_true] at h
    simp only [toPys, PyData.shownAll, List.mem_cons]
    rintro t (rfl | ht)
    · exact co_shown d h.1
    · exact co_showns ds h.2 t ht
end
theorem rp_ok {d : D} (h : nst d = true) : ((rpD d).cps.all fun c => decide (c < 1114112)) = true :=
  Array.all_eq_true_iff_forall_mem.mpr fun c hc => decide_eq_true (co_shown d h c (show c ∈ (toPy d).shown.cps.toList from Array.mem_toList_iff.mpr hc))
theorem rp_plain {d : D} (h : nst d = true) (k : Nat) : pl k (.str (rpD d)) = true := by
  have := rp_ok h
  cases k <;> simpa [pl] using this
end C

set_option Elab.async false
set_option linter.all false
set_option maxRecDepth 100000
/-! Head: a law's promise (FnG, spD) at the heap behind the top. -/
namespace C
open PySem PySem.Spec PyProof.Rows L2
theorem look_mem {K : PySem.W.Frag} {c : Addr} {ob : Obj} (e : K.lookup c = some ob) : (c, ob) ∈ K := by
  induction K with
  | nil => cases e
  | cons p rest ih =>
    obtain ⟨c', ob'⟩ := p
    rw [List.lookup_cons] at e
    by_cases z : c = c'
    · subst z
      rw [beq_self_eq_true] at e
      cases e
      exact List.mem_cons_self
    · rw [beq_false_of_ne z] at e
      exact List.mem_cons_of_mem _ (ih e)
/-- no list stands in what is known of the module -/
def noL (K : PySem.W.Frag) : Bool := K.all fun p => match p.2.cls with | .type t => t != "list" | _ => true
theorem noL_ok {K : PySem.W.Frag} {c : Addr} {ob : Obj} (h : noL K = true) (e : K.lookup c = some ob) : ob.cls ≠ .type "list" := fun z => by
  have := List.all_eq_true.mp h _ (look_mem e)
  simp only [z] at this
  revert this
  decide
/-- the abstract heap in which nothing but the script is known -/
def onlyS (c : Addr) (ob : Obj) (ns : List Int) : Hp := fun d => if d = c then some (.frz ob (.lst (ns.map V.int))) else none
theorem onlyS_at {c : Addr} {ob : Obj} {ns : List Int} : onlyS c ob ns c = some (.frz ob (.lst (ns.map V.int))) := if_pos rfl
theorem onlyS_of {c d : Addr} {ob : Obj} {ns : List Int} {u : HO} (e : onlyS c ob ns d = some u) : d = c ∧ u = .frz ob (.lst (ns.map V.int)) := by
  unfold onlyS at e
  by_cases z : d = c
  · rw [if_pos z] at e; cases e; exact ⟨z, rfl⟩
  · rw [if_neg z] at e; cases e
theorem onlyS_ne {c d : Addr} {ob : Obj} {ns : List Int} (z : d ≠ c) : onlyS c ob ns d = none := if_neg z
theorem lay_ints {g : Wd} {H : Hp} : ∀ ns : List Int, LayL g H (ns.map V.int) (ns.map D.int)
  | [] => .nil
  | i :: r => .cons (.int i) (lay_ints r)
abbrev scrO (vs : List Value) : Obj := { cls := .type "list", data := .seq vs.toArray }
/-- a def that the top has written -/
def Df (K : PySem.W.Frag) (x : Str) (st : Stmt) : Prop := ∃ (f : Addr) (fd : FuncData), L2.Fun K x x st f fd ∧ PySem.W.nsIn K mainGlobals x = some (some (.ref f))
theorem df_mk {K : PySem.W.Frag} {x : Str} {st : Stmt} {f : Addr} {oc kV doc pm cdv ct : Value} {od an : Option Addr} {osl : Array (Option Value)} (a : PySem.W.nsIn K mainGlobals x = some (some (.ref f)))
    (l : K.lookup f = some ⟨oc, od, .func (PySem.W.fnOf x x (defArgs st) (defBody st) (defScope st) .none kV doc pm an cdv ct), osl⟩) (c : PySem.W.codeIn K cdv x = true) (k : PySem.W.keepIn K (.ref f) = true) : Df K x st := ⟨f, _, fun_mk l c k, a⟩
theorem Df.cal {P : Program} {w : World} {K : PySem.W.Frag} {h base : Heap} {mg : Str → Option Value} {k : Nat} {x : Str} {st : Stmt} {ps : List Str} {sp : Sp} (d : Df K x st) (X : K.In h) (G : h.Ns mainGlobals mg)
    (b : ∀ (kV doc pm : Value) (an : Option Addr) (cdv ct : Value) (us : List Value), us.length = ps.length → bindArgs (PySem.W.fnOf x x (defArgs st) (defBody st) (defScope st) .none kV doc pm an cdv ct) ⟨us, []⟩ = pure (ps.zip us))
    (t : ∀ (f : Addr) (fd : FuncData), L2.Fun K x x st f fd → FnG P w K mg base CX0 k f fd ps sp) : CalG P w K mg base k x sp := by
  obtain ⟨f, fd, F, a⟩ := d
  exact ⟨f, fd, ps, t f fd F, PySem.W.mg_of X G a, F.kp, F.binds b⟩
/-- what a law's call comes to -/
theorem head_call {P : Program} {w : World} {K : PySem.W.Frag} {mg mb : Str → Option Value} {k : Nat} {fa c : Addr} {fd : FuncData} {x : Str} {m : List D → List D → Rs (D × List D)} {s₁ : Shared} {vs : List Value} {ns : List Int}
    (known : K.In s₁.heap) (lists : noL K = true) (globs : s₁.heap.Ns mainGlobals mg) (bns : s₁.heap.Ns builtinsNs mb) (boot : ∀ y : Str, y ≠ "__name__" → mb y = bootBuiltins y) (free : s₁.heap.NoLimit) (still : s₁.gens = #[])
    (there : s₁.heap.get? c = some (scrO vs)) (isI : IntsAre vs ns) (short : ns.length ≤ sizeLine) (room : Room k callerA)
    (F : ∀ base : Heap, K.In base → base.Ns mainGlobals mg → FnG P w K mg base CX0 k fa fd [x] (spD ⟨K, P, w⟩ [0] 2 m)) (hm : m [.lst (ns.map D.int)] [] = .ok (.bl true, []))
    (binds : ∀ (s : Shared) (u : Value), BindsTo s fd ⟨[u], []⟩ [(x, u)]) :
    codeAny (model P w) callerA (.call (.ref fa) ⟨[.ref c], []⟩) (fun r s' => r = .ok (.ret (.bool true)) ∧ OldK s₁.heap s'.heap ∧ s'.os = s₁.os ∧ AllBare s'.gens) s₁ := by
  have hv := vals_ints isI
  have notK : K.lookup c = none := by
    cases e : K.lookup c with
    | none => rfl
    | some ob =>
      have e2 := known c ob e
      rw [there] at e2
      cases e2
      exact absurd rfl (noL_ok lists e)
  let H : Hp := onlyS c (scrO vs) ns
  have stays : ∀ {d : Addr} {ob : Obj}, s₁.heap.get? d = some ob → d ≠ c → (hidT s₁.heap H).get? d = some ob := fun e z => hidT_get e (onlyS_ne z)
  have nsS : ∀ {d : Addr} {f : Str → Option Value}, s₁.heap.Ns d f → (hidT s₁.heap H).Ns d f := by
    rintro d f ⟨ob, es, ep, e, dt, rest⟩
    refine ⟨ob, es, ep, stays e fun z => ?_, dt, rest⟩
    rw [z, there] at e
    cases e
    cases dt
  have known' : K.In (hidT s₁.heap H) := fun d ob e => stays (known d ob e) fun z => by rw [z, notK] at e; cases e
  have md : Mod K mg (hidT s₁.heap H) := by
    obtain ⟨lim, l1, l2⟩ := free
    exact ⟨known', nsS globs, ⟨mb, nsS bns, boot⟩, ⟨lim, nsS l1, l2⟩⟩
  have hok : HOk P w H s₁.heap := fun d u e => by
    obtain ⟨rfl, rfl⟩ := onlyS_of e
    exact ⟨there, by rw [List.length_map]; exact short, vs, _, hv, there⟩
  have ctx : Env0 P w K mg (hidT s₁.heap H) callerA [] s₁ H :=
    ⟨rfl, md, fun _ _ e => of_hidT e, Nat.le_of_eq (hidT_size _ _), trivial, fun _ hb => (List.not_mem_nil hb).elim, hok, .of_eq still⟩
  let O : Ow := fun _ => none
  have wfO : WF H O := ⟨fun _ _ e => (nomatch e), fun _ _ e => (nomatch e)⟩
  have roH : ∀ d u, H d = some u → ro H O d = some u := fun d u e => by
    unfold ro
    simpa [O] using e
  have lay : Lay ⟨K, P, w⟩ (ro H O) (.ref c) (.lst (ns.map D.int)) := .lst (.inr ⟨scrO vs, roH _ _ onlyS_at⟩) (lay_ints ns)
  have sp : spD ⟨K, P, w⟩ [0] 2 m [.ref c] H (fun v _ => v = .bl true) fun _ _ _ => False := by
    refine ⟨O, [.lst (ns.map D.int)], [], .bl true, [], wfO, ⟨lay, trivial⟩, trivial, hm, fun v H' O' _ _ q _ => ?_⟩
    have q : Slot ⟨K, P, w⟩ H' O' 2 v (.bl true) ∧ _ := q
    have q2 : atom (.bl true) = true ∧ Lay ⟨K, P, w⟩ (ro H' O') v (.bl true) := q.1
    cases q2.2
    rfl
  refine codeAny_mono ((F _ known' (nsS globs)).run callerA [] s₁ H ⟨[.ref c], []⟩ [.ref c] [.ref c] _ _ room rfl ctx (binds s₁ _) (.cons rfl .nil) sp) fun r s' res => ?_
  match r, res with
  | .error e, res => exact absurd res (fun z => by exact z)
  | .ok (.ret u), ⟨v, H', os, bare, un, hok', rel, isT⟩ =>
    have isT : v = .bl true := isT
    subst isT
    obtain rfl : u = Value.bool true := rel
    refine ⟨rfl, OldK.of_keep fun d ob e => ?_, os, bare⟩
    by_cases z : d = c
    · subst z
      obtain ⟨e1, _⟩ := hok d _ onlyS_at
      obtain ⟨e2, _⟩ := hok' d _ (un.frzs d _ _ onlyS_at)
      rw [e] at e1
      cases e1
      exact e2
    · exact un.keep d ob e (onlyS_ne z) (fun q => (List.not_mem_nil q).elim) (fun q => (List.not_mem_nil q).elim)
/-- THE GOAL behind the top, by the law's meaning -/
theorem head_walk {l : PySem.W.OpenLaw} {n k : Nat} {q : Program} {loose : List Str} {XP : (Str → Option Value) → Heap → Prop} {YP : World → Heap → Prop} {d : DefRec} {K : Params → PySem.W.Frag} {x : Str} {m : List D → List D → Rs (D × List D)}
    (most : l.most = some n) (n_le : n ≤ sizeLine) (noDf : d.params.defaults = []) (room : Room k callerA) (known : ∀ (w : World) (h : Heap), YP w h → (K w.params).In h) (lists : ∀ w : World, noL (K w.params) = true)
    (F : ∀ (w : World) (mg : Str → Option Value) (fa : Addr) (h : Heap), (K w.params).In h → h.Ns mainGlobals mg → mg d.name = some (.ref fa) →
      ∃ fd : FuncData, (∀ (s : Shared) (u : Value), BindsTo s fd ⟨[u], []⟩ [(x, u)]) ∧ ∀ base : Heap, (K w.params).In base → base.Ns mainGlobals mg → FnG l.prog w (K w.params) mg base CX0 k fa fd [x] (spD ⟨K w.params, l.prog, w⟩ [0] 2 m))
    (hm : ∀ ns : List Int, ns.length ≤ n → (∀ z ∈ ns, Builtin.Int.intBits z ≤ 1048576) → m [.lst (ns.map D.int)] [] = .ok (.bl true, [])) :
    PySem.W.WalkO q loose XP YP l.row.toRowW d [] (fun f vs => PySem.call f vs) := by
  refine Att.attach_callB most noDf fun w s₀ s₁ mg mb fa o pm cd doc c vs ns G Y ho hd hcd hmg there isI len bits still => ?_
  have kx := known w _ Y
  obtain ⟨fd, binds, hF⟩ := F w mg fa _ kx G.T.g hmg
  exact head_call kx (lists w) G.T.g G.T.b G.T.builtins G.T.nolimit still there isI (Nat.le_trans len n_le) room hF (hm ns len bits) binds
end C

set_option linter.all false
set_option maxHeartbeats 1000000
/-! Plain: tools for plain laws about Core's meanings. -/
namespace C
open PySem (Str)
section
variable {P : Fs} {rp : D → Str} {n : Nat}
theorem rd_zero {d : D} {r : Env} : rd (some d :: r) 0 = .ok d := rfl
theorem rd_succ {x : Option D} {r : Env} {i : Nat} : rd (x :: r) (i + 1) = rd r i := by simp only [rd, List.getElem?_cons_succ]
theorem foldR_I {α β : Type} (f : β → α → Rs β) (I : Nat → β → Prop) : ∀ (xs : List α) (k : Nat) (b : β), I k b → (∀ i a b, xs[i]? = some a → I (k + i) b → ∃ b', f b a = .ok b' ∧ I (k + i + 1) b') → ∃ b', foldR f xs b = .ok b' ∧ I (k + xs.length) b'
  | [], k, b, h, _ => ⟨b, rfl, h⟩
  | a :: xs, k, b, h, hs => by
    obtain ⟨b1, e1, h1⟩ := hs 0 a b rfl h
    obtain ⟨b2, e2, h2⟩ := foldR_I f I xs (k + 1) b1 h1 fun i a b e h => by
      have := hs (i + 1) a b (by simpa using e) (by rw [show k + (i + 1) = k + 1 + i by omega]; exact h)
      rwa [show k + (i + 1) + 1 = k + 1 + i + 1 by omega] at this
    refine ⟨b2, by simp only [foldR, e1, ok_bind]; exact e2, ?_⟩
    rw [List.length_cons, show k + (xs.length + 1) = k + 1 + xs.length by omega]
    exact h2
theorem ev_lcI {t : Tg} {it : E} {cs : List E} {e : E} {r r0 : Env} {x : D} {xs : List D} (hi : ev P rp it r = .ok (x, r0)) (hx : items x = .ok xs) (I : Nat → List D → Env → Prop) (h0 : I 0 [] r0)
    (step : ∀ i d acc r, xs[i]? = some d → I i acc r → ∃ r1, setT t d (clr r t.slots) = .ok r1 ∧ ((∃ r2, evc P rp cs r1 = .ok (false, r2) ∧ I (i + 1) acc r2) ∨ ∃ r2 y r3, evc P rp cs r1 = .ok (true, r2) ∧ ev P rp e r2 = .ok (y, r3) ∧ acc.length < line ∧ I (i + 1) (acc ++ [y]) r3)) :
    ∃ acc r', ev P rp (.lc t it cs e) r = .ok (.lst acc, restE r0 r' t.slots) ∧ I xs.length acc r' := by
  obtain ⟨⟨acc, r'⟩, e1, h1⟩ := foldR_I (fun (p : List D × Env) d => do
        let r ← setT t d (clr p.2 t.slots)
        let (b, r) ← evc P rp cs r
        if b then do let (y, r) ← ev P rp e r; grd (decide (p.1.length < line)); return (p.1 ++ [y], r) else return (p.1, r)) (fun i p => I i p.1 p.2) xs 0 ([], r0) h0 fun i d p e h => by
    obtain ⟨acc, r⟩ := p
    rw [Nat.zero_add] at h ⊢
    obtain ⟨r1, e1, h | ⟨r2, y, r3, e2, e3, hl, h⟩⟩ := step i d acc r e h
    · obtain ⟨r2, e2, h⟩ := h
      exact ⟨(acc, r2), by simp only [e1, e2, ok_bind]; rfl, h⟩
    · exact ⟨(acc ++ [y], r3), by simp only [e1, e2, e3, ok_bind, if_true, decide_eq_true hl, grd_true]; rfl, h⟩
  refine ⟨acc, r', ?_, by rw [Nat.zero_add] at h1; exact h1⟩
  simp only [ev, hi, hx, ok_bind]
  have e1' := e1
  simp only [] at e1'
  exact (congrArg (fun z => z >>= fun p => (pure (D.lst p.1, restE r0 p.2 t.slots) : Rs (D × Env))) e1').trans rfl
/-- a comprehension that changes nothing -/
theorem ev_lcF {t : Tg} {it : E} {cs : List E} {e : E} {r r0 : Env} {x : D} {xs : List D} (hi : ev P rp it r = .ok (x, r0)) (hx : items x = .ok xs) (g : D → Option D) (R : Env → Prop) (h0 : R r0) (hl : xs.length ≤ line)
    (step : ∀ d r, d ∈ xs → R r → ∃ r1, setT t d (clr r t.slots) = .ok r1 ∧ ((∃ r2, evc P rp cs r1 = .ok (false, r2) ∧ g d = none ∧ R r2) ∨ ∃ r2 y r3, evc P rp cs r1 = .ok (true, r2) ∧ ev P rp e r2 = .ok (y, r3) ∧ g d = some y ∧ R r3)) :
    ∃ r', ev P rp (.lc t it cs e) r = .ok (.lst (xs.filterMap g), restE r0 r' t.slots) ∧ R r' := by
  obtain ⟨acc, r', e1, ⟨rfl, h⟩⟩ := ev_lcI (P := P) (rp := rp) (e := e) (cs := cs) (t := t) hi hx (fun i acc r => acc = (xs.take i).filterMap g ∧ R r) ⟨rfl, h0⟩ fun i d acc r e ⟨ea, h⟩ => by
    obtain ⟨r1, e1, h⟩ := step d r (List.mem_of_getElem? e) h
    have tk : xs.take (i + 1) = xs.take i ++ [d] := by rw [List.take_add_one, e]; rfl
    refine ⟨r1, e1, ?_⟩
    rcases h with ⟨r2, e2, e3, h⟩ | ⟨r2, y, r3, e2, e3, e4, h⟩
    · refine .inl ⟨r2, e2, ?_, h⟩
      rw [tk, List.filterMap_append, ea]; simp [e3]
    · refine .inr ⟨r2, y, r3, e2, e3, ?_, ?_, h⟩
      · rw [ea]
        have h1 := List.length_filterMap_le g (xs.take i)
        have h2 := (List.getElem?_eq_some_iff.mp e).1
        rw [List.length_take] at h1
        omega
      · rw [tk, List.filterMap_append, ea]; simp [e4]
  refine ⟨r', ?_, h⟩
  rw [e1, List.take_length]
theorem forR_inv (f : D → Env → Rs Fl) (I : Nat → Env → Prop) (Z : Fl → Prop) : ∀ (ds : List D) (k : Nat) (r : Env), I k r → (∀ i d r, ds[i]? = some d → I (k + i) r → (∃ r', f d r = .ok (.nx r') ∧ I (k + i + 1) r') ∨ ∃ v r', f d r = .ok (.ret v r') ∧ Z (.ret v r')) →
    ∃ fl, forR f ds r = .ok fl ∧ ((∃ r', fl = .nx r' ∧ I (k + ds.length) r') ∨ Z fl)
  | [], k, r, h, _ => ⟨.nx r, rfl, .inl ⟨r, rfl, h⟩⟩
  | d :: ds, k, r, h, hs => by
    rcases hs 0 d r rfl h with ⟨r1, e1, h1⟩ | ⟨v, r1, e1, h1⟩
    · obtain ⟨fl, e2, h2⟩ := forR_inv f I Z ds (k + 1) r1 h1 fun i d r e h => by
        have := hs (i + 1) d r (by simpa using e) (by rw [show k + (i + 1) = k + 1 + i by omega]; exact h)
        rwa [show k + (i + 1) + 1 = k + 1 + i + 1 by omega] at this
      refine ⟨fl, by simp only [forR, e1, ok_bind]; exact e2, ?_⟩
      rw [List.length_cons, show k + (ds.length + 1) = k + 1 + ds.length by omega]
      exact h2
    · exact ⟨_, by simp only [forR, e1, ok_bind]; rfl, .inr h1⟩
theorem st_forZ {t : Tg} {it : E} {b : List S} {r r0 : Env} {x : D} {ds : List D} (hi : ev P rp it r = .ok (x, r0)) (hx : items x = .ok ds) (I : Nat → Env → Prop) (Z : Fl → Prop) (h0 : I 0 r0)
    (step : ∀ i d r, ds[i]? = some d → I i r → ∃ r1, setT t d r = .ok r1 ∧ ((∃ r', sts P rp n b r1 = .ok (.nx r') ∧ I (i + 1) r') ∨ ∃ v r', sts P rp n b r1 = .ok (.ret v r') ∧ Z (.ret v r'))) :
    ∃ fl, st P rp n (.for_ t it b) r = .ok fl ∧ ((∃ r', fl = .nx r' ∧ I ds.length r') ∨ Z fl) := by
  obtain ⟨fl, e1, h1⟩ := forR_inv (fun d r => do sts P rp n b (← setT t d r)) I Z ds 0 r0 h0 fun i d r e h => by
    rw [Nat.zero_add] at h ⊢
    obtain ⟨r1, e1, h⟩ := step i d r e h
    simp only [e1, ok_bind]
    exact h
  rw [Nat.zero_add] at h1
  exact ⟨fl, by simp only [st, hi, hx, ok_bind]; exact e1, h1⟩
theorem st_forI {t : Tg} {it : E} {b : List S} {r r0 : Env} {x : D} {ds : List D} (hi : ev P rp it r = .ok (x, r0)) (hx : items x = .ok ds) (I : Nat → Env → Prop) (h0 : I 0 r0)
    (step : ∀ i d r, ds[i]? = some d → I i r → ∃ r1, setT t d r = .ok r1 ∧ ∃ r', sts P rp n b r1 = .ok (.nx r') ∧ I (i + 1) r') :
    ∃ r', st P rp n (.for_ t it b) r = .ok (.nx r') ∧ I ds.length r' := by
  obtain ⟨fl, e, h⟩ := st_forZ (n := n) (b := b) (t := t) hi hx I (fun _ => False) h0 fun i d r e h => by
    obtain ⟨r1, e1, h⟩ := step i d r e h
    exact ⟨r1, e1, .inl h⟩
  rcases h with ⟨r', rfl, h⟩ | h
  · exact ⟨r', e, h⟩
  · exact h.elim
end
/-! ### data -/
def Is (ns : List Int) : List D := ns.map D.int
theorem cut_map {α β : Type} (f : α → β) (xs : List α) (lo hi : Option Int) : cut (xs.map f) lo hi = (cut xs lo hi).map f := by
  unfold cut
  simp only [List.length_map, List.map_drop, List.map_take]
theorem cut_len {α : Type} (xs : List α) (lo hi : Option Int) : (cut xs lo hi).length ≤ xs.length := by
  unfold cut
  rw [List.length_take, List.length_drop]
  omega
theorem cut_mem {α : Type} {xs : List α} {lo hi : Option Int} {x : α} (h : x ∈ cut xs lo hi) : x ∈ xs := List.mem_of_mem_drop (List.mem_of_mem_take h)
theorem atI_nat {α : Type} {xs : List α} {i : Nat} {x : α} (h : xs[i]? = some x) : atI xs (i : Int) = some x := by
  have := (List.getElem?_eq_some_iff.mp h).1
  unfold atI ixN
  rw [if_pos (by omega), if_pos (by omega)]
  simpa using h
theorem atI_at {α : Type} {xs : List α} {i : Int} (h0 : 0 ≤ i) (h : i < xs.length) : ∃ x, atI xs i = some x ∧ xs[i.toNat]? = some x := by
  obtain ⟨k, rfl⟩ := Int.eq_ofNat_of_zero_le h0
  have hk : k < xs.length := by omega
  refine ⟨xs[k], atI_nat (List.getElem?_eq_getElem hk), ?_⟩
  simp [List.getElem?_eq_getElem hk]
mutual
theorem eqv_refl : ∀ (k : Nat) (d : D), pl k d = true → eqv d d = true
  | _, .non, _ => rfl
  | _, .bl b, _ => by simp [eqv]
  | _, .int i, _ => by simp [eqv]
  | _, .str s, _ => by simp [eqv]
  | k, .tup xs, h => by
    cases k with
    | zero => simp [pl] at h
    | succ k => simp only [eqv]; exact eqvs_refl k xs (by simpa only [pl] using h)
  | k, .lst xs, h => by
    cases k with
    | zero => simp [pl] at h
    | succ k => simp only [eqv]; exact eqvs_refl k xs (by simpa only [pl] using h)
  | k, .dct _ _, h => by cases k <;> simp [pl] at h
  | k, .set _, h => by cases k <;> simp [pl] at h
theorem eqvs_refl : ∀ (k : Nat) (ds : List D), pls k ds = true → eqvs ds ds = true
  | _, [], _ => rfl
  | k, d :: ds, h => by
    simp only [pls, Bool.and_eq_true] at h
    simp only [eqvs, Bool.and_eq_true]
    exact ⟨eqv_refl k d h.1, eqvs_refl k ds h.2⟩
end
theorem pls_of {k : Nat} : ∀ {ds : List D}, (∀ d ∈ ds, pl k d = true) → pls k ds = true
  | [], _ => rfl
  | d :: ds, h => by simp only [pls, Bool.and_eq_true]; exact ⟨h d (by simp), pls_of fun e he => h e (by simp [he])⟩
theorem smalls_of : ∀ {ds : List D}, (∀ d ∈ ds, small d = true) → smalls ds = true
  | [], _ => rfl
  | d :: ds, h => by simp only [smalls, Bool.and_eq_true]; exact ⟨h d (by simp), smalls_of fun e he => h e (by simp [he])⟩
theorem rooms_of {b : Nat} : ∀ {ds : List D}, (∀ d ∈ ds, room d ≤ b) → rooms ds ≤ ds.length * (b + 2)
  | [], _ => by simp [rooms]
  | d :: ds, h => by
    simp only [rooms, List.length_cons, Nat.add_mul]
    have h1 := h d (by simp)
    have h2 := rooms_of (b := b) fun e (he : e ∈ ds) => h e (by simp [he])
    omega
theorem sortD_all {p : D → Prop} : ∀ {xs : List D}, (∀ x ∈ xs, p x) → ∀ x ∈ sortD xs, p x := by
  have ins : ∀ (x : D) (xs : List D), p x → (∀ y ∈ xs, p y) → ∀ y ∈ insD x xs, p y := by
    intro x xs hx h
    induction xs with
    | nil => intro y hy; simp [insD] at hy; subst hy; exact hx
    | cons z r ih =>
      intro y hy
      unfold insD at hy
      split at hy
      · rcases List.mem_cons.mp hy with rfl | hy
        · exact h _ (by simp)
        · exact ih (fun y hy => h y (by simp [hy])) y hy
      · rcases List.mem_cons.mp hy with rfl | hy
        · exact hx
        · exact h y hy
  intro xs h
  induction xs with
  | nil => exact h
  | cons x r ih => exact ins x _ (h x (by simp)) (ih fun y hy => h y (by simp [hy]))
theorem insD_perm (x : D) : ∀ (xs : List D), (insD x xs).Perm (x :: xs)
  | [] => .refl _
  | y :: r => by
    unfold insD
    split
    · exact ((insD_perm x r).cons y).trans (.swap x y r)
    · exact .refl _
theorem sortD_perm : ∀ (xs : List D), (sortD xs).Perm xs
  | [] => .refl _
  | x :: r => (insD_perm x _).trans ((sortD_perm r).cons x)
theorem dedup_mem : ∀ (xs acc : List D) (x : D), x ∈ dedup acc xs → x ∈ acc ∨ x ∈ xs
  | [], acc, x, h => .inl h
  | y :: r, acc, x, h => by
    unfold dedup at h
    rcases dedup_mem r _ x h with h | h
    · split at h
      · exact .inl h
      · rcases List.mem_append.mp h with h | h
        · exact .inl h
        · exact .inr (by simp at h; simp [h])
    · exact .inr (by simp [h])
theorem dedup_len : ∀ (xs acc : List D), (dedup acc xs).length ≤ acc.length + xs.length
  | [], acc => by simp [dedup]
  | y :: r, acc => by
    unfold dedup
    by_cases m : memD y acc = true
    · rw [if_pos m]
      have := dedup_len r acc
      simp only [List.length_cons]
      omega
    · rw [if_neg m]
      have := dedup_len r (acc ++ [y])
      simp only [List.length_cons, List.length_append, List.length_nil] at *
      omega
end C

set_option Elab.async false
set_option linter.all false
set_option maxRecDepth 100000
set_option maxHeartbeats 1000000
namespace C
open PySem (Str)
abbrev fuel : Nat := 1000000
def f_neighbours_of : Fn where
  np := 3
  ks := [0, 0, 0, 2, 0, 0]
  ret := 2
  names := ["chart", "source_at", "target_at", "found", "stand", "step"]
  body := [.asg (.nm 3) (.lc (.nm 4) (.bi .range1 [(.idx (.var 0) (.int 0))]) [] (.lst [])), .for_ (.nm 5) (.idx (.var 0) (.int 2)) [.via 4 3 (.idx (.var 5) (.var 1)) .append [(.idx (.var 5) (.var 2))]], .ret (.mv 3)]
def p_neighbours_of : Fs := fun i => match i with
  | _ => fun _ _ => .no
def m_neighbours_of (ros ios : List D) : Rs (D × List D) := f_neighbours_of.run p_neighbours_of rpD fuel ros ios
def f_reached_from : Fn where
  np := 2
  ks := [0, 0, 1, 1, 0]
  ret := 1
  names := ["neighbours", "stand", "found", "waiting", "other"]
  body := [.asg (.nm 2) (.lk (.bin .mul (.lst [(.bl false)]) (.bi .len [(.var 0)]))), .set1 2 (.var 1) (.bl true), .asg (.nm 3) (.lst [(.var 1)]), .while_ (.var 3) [.for_ (.nm 4) (.idx (.var 0) (.pop 3)) [.ite (.not (.idx (.var 2) (.var 4))) [.set1 2 (.var 4) (.bl true), .mcall .append 3 [] [(.var 4)]] []]], .ret (.mv 2)]
def p_reached_from : Fs := fun i => match i with
  | _ => fun _ _ => .no
def m_reached_from (ros ios : List D) : Rs (D × List D) := f_reached_from.run p_reached_from rpD fuel ros ios
def f_pieces_of : Fn where
  np := 1
  ks := [0, 0, 0, 1, 1, 0, 0, 0, 0, 0]
  ret := 1
  names := ["chart", "ahead", "behind", "found", "done", "stand", "to", "back", "piece", "other"]
  body := [.par [1, 2] [(.call 0 [(.var 0), (.int 0), (.int 2)] []), (.call 0 [(.var 0), (.int 2), (.int 0)] [])], .par [3, 4] [(.lst []), (.lk (.bin .mul (.lst [(.bl false)]) (.idx (.var 0) (.int 0))))], .for_ (.nm 5) (.bi .range1 [(.idx (.var 0) (.int 0))]) [.ite (.not (.idx (.var 4) (.var 5))) [.par [6, 7] [(.call 1 [(.var 1), (.var 5)] []), (.call 1 [(.var 2), (.var 5)] [])], .asg (.nm 8) (.bi .tuple [(.lc (.nm 9) (.bi .range1 [(.idx (.var 0) (.int 0))]) [(.and (.idx (.var 6) (.var 9)) (.idx (.var 7) (.var 9)))] (.var 9))]), .for_ (.nm 9) (.var 8) [.set1 4 (.var 9) (.bl true)], .mcall .append 3 [] [(.var 8)]] []], .ret (.mv 3)]
def p_pieces_of : Fs := fun i => match i with
  | 0 => m_neighbours_of
  | 1 => m_reached_from
  | _ => fun _ _ => .no
def m_pieces_of (ros ios : List D) : Rs (D × List D) := f_pieces_of.run p_pieces_of rpD fuel ros ios
def f_is_fed : Fn where
  np := 2
  ks := [0, 0, 0]
  ret := 2
  names := ["chart", "piece", "step"]
  body := [.ret (.bi .any [(.lc (.nm 2) (.idx (.var 0) (.int 2)) [] (.and (.cmp .isin (.idx (.var 2) (.int 2)) (.var 1)) (.cmp .notin (.idx (.var 2) (.int 0)) (.var 1))))])]
def p_is_fed : Fs := fun i => match i with
  | _ => fun _ _ => .no
def m_is_fed (ros ios : List D) : Rs (D × List D) := f_is_fed.run p_is_fed rpD fuel ros ios
def f_law_bag : Fn where
  np := 1
  ks := [0, 0]
  ret := 1
  names := ["_law_script", "_law_cell"]
  body := [.ret (.lst [(.int 0), (.int 1234567891), (.int 0), (.lc (.nm 1) (.slc (.var 0) [] [(.int 63)]) [] (.bi .abs [(.var 1)]))])]
def p_law_bag : Fs := fun i => match i with
  | _ => fun _ _ => .no
def m_law_bag (ros ios : List D) : Rs (D × List D) := f_law_bag.run p_law_bag rpD fuel ros ios
def f_law_take : Fn where
  np := 2
  ks := [1, 0, 0, 0, 0, 0, 0]
  ret := 0
  names := ["_law_bag_here", "_law_many", "_law_cell", "_law_stirred", "_law_value", "_law_begin", "_law_second"]
  body := [.ite (.cmp .eq (.idx (.var 0) (.int 0)) (.int 0)) [.asg (.nm 2) (.idx (.bin .add (.slc (.idx (.var 0) (.int 3)) [(.idx (.var 0) (.int 2))] []) (.lst [(.int 0)])) (.int 0)), .aug1 0 (.int 2) .add (.int 1), .ite (.cmp .ge (.var 2) (.bin .pow (.int 10) (.int 18))) [.set1 0 (.int 0) (.var 2)] [], .asg (.nm 3) (.bin .add (.bin .add (.bin .mul (.idx (.var 0) (.int 1)) (.int 48271)) (.bin .mod (.bi .int [(.var 2)]) (.int 2147483647))) (.bin .mul (.int 7919) (.idx (.var 0) (.int 2)))), .set1 0 (.int 1) (.bin .mod (.bi .int [(.var 3)]) (.int 2147483647))] [], .ite (.cmp .gt (.idx (.var 0) (.int 0)) (.int 0)) [.asg (.nm 4) (.bin .mod (.bi .int [(.idx (.var 0) (.int 0))]) (.var 1)), .set1 0 (.int 0) (.bin .fdiv (.bi .int [(.idx (.var 0) (.int 0))]) (.var 1)), .ret (.var 4)] [], .asg (.nm 5) (.bin .mod (.bi .int [(.bin .mul (.bin .add (.idx (.var 0) (.int 1)) (.int 1)) (.int 39373))]) (.int 1000000007)), .asg (.nm 6) (.bin .mod (.bi .int [(.bin .mul (.bin .mod (.bi .int [(.bin .mul (.var 5) (.var 5))]) (.int 998244353)) (.int 30011))]) (.int 998244353)), .ret (.bin .mod (.bi .int [(.bin .fdiv (.var 6) (.int 7))]) (.var 1))]
def p_law_take : Fs := fun i => match i with
  | _ => fun _ _ => .no
def m_law_take (ros ios : List D) : Rs (D × List D) := f_law_take.run p_law_take rpD fuel ros ios
def f_law_one : Fn where
  np := 2
  ks := [1, 0]
  ret := 0
  names := ["_law_bag_here", "_law_things"]
  body := [.ret (.idx (.var 1) (.call 5 [(.bi .len [(.var 1)])] [0]))]
def p_law_one : Fs := fun i => match i with
  | 5 => m_law_take
  | _ => fun _ _ => .no
def m_law_one (ros ios : List D) : Rs (D × List D) := f_law_one.run p_law_one rpD fuel ros ios
def f_law_mixed : Fn where
  np := 2
  ks := [1, 0, 1, 0]
  ret := 1
  names := ["_law_bag_here", "_law_things", "_law_found", "_law_thing"]
  body := [.asg (.nm 2) (.lst []), .for_ (.nm 3) (.var 1) [.mcall .insert 2 [] [(.call 5 [(.bin .add (.bi .len [(.var 2)]) (.int 1))] [0]), (.var 3)]], .ret (.mv 2)]
def p_law_mixed : Fs := fun i => match i with
  | 5 => m_law_take
  | _ => fun _ _ => .no
def m_law_mixed (ros ios : List D) : Rs (D × List D) := f_law_mixed.run p_law_mixed rpD fuel ros ios
def f_law_alike : Fn where
  np := 2
  ks := [0, 0]
  ret := 0
  names := ["_law_found", "_law_due"]
  body := [.ret (.and (.cmp .eq (.var 0) (.var 1)) (.cmp .eq (.bi .repr [(.var 0)]) (.bi .repr [(.var 1)])))]
def p_law_alike : Fs := fun i => match i with
  | _ => fun _ _ => .no
def m_law_alike (ros ios : List D) : Rs (D × List D) := f_law_alike.run p_law_alike rpD fuel ros ios
def f_law_flat : Fn where
  np := 1
  ks := [0, 1, 0]
  ret := 1
  names := ["_law_rows", "_law_found", "_law_row"]
  body := [.asg (.nm 1) (.lst []), .for_ (.nm 2) (.var 0) [.mcall .extend 1 [] [(.var 2)]], .ret (.mv 1)]
def p_law_flat : Fs := fun i => match i with
  | _ => fun _ _ => .no
def m_law_flat (ros ios : List D) : Rs (D × List D) := f_law_flat.run p_law_flat rpD fuel ros ios
def f_law_narrow : Fn where
  np := 2
  ks := [0, 0, 1, 0, 0]
  ret := 1
  names := ["_law_pairs", "_law_wide", "_law_found", "_law_pair", "_law_one_here"]
  body := [.asg (.nm 2) (.lst []), .for_ (.nm 3) (.var 0) [.ite (.cmp .lt (.bi .len [(.lc (.nm 4) (.var 2) [(.cmp .eq (.idx (.var 4) (.int 0)) (.idx (.var 3) (.int 0)))] (.var 4))]) (.var 1)) [.mcall .append 2 [] [(.var 3)]] []], .ret (.mv 2)]
def p_law_narrow : Fs := fun i => match i with
  | _ => fun _ _ => .no
def m_law_narrow (ros ios : List D) : Rs (D × List D) := f_law_narrow.run p_law_narrow rpD fuel ros ios
def f_law_planted : Fn where
  np := 3
  ks := [1, 0, 0, 0, 0, 0, 0, 0, 0, 0, 0, 0, 0]
  ret := 0
  names := ["_law_bag_here", "_law_count", "_law_wide", "_law_way", "_law_stands", "_law_some", "_law_stand", "_law_many", "_law_k", "_law_cut", "_law_rings", "_law_found", "_law_ring"]
  body := [.par [3, 4] [(.call 5 [(.int 6)] [0]), (.bi .list [(.bi .range1 [(.var 1)])])], .ite (.cmp .lt (.var 3) (.int 2)) [.asg (.nm 5) (.lc (.nm 6) (.var 4) [] (.tup [(.var 6), (.call 6 [(.lst [(.int 1), (.int 0), (.int 1), (.int 2), (.var 2)])] [0])])), .ret (.call 9 [(.lc (.tup [(.nm 6), (.nm 7)]) (.var 5) [] (.lc (.nm 8) (.bi .range1 [(.var 7)]) [] (.tup [(.var 6), (.call 6 [(.var 4)] [0])])))] [])] [], .ite (.cmp .eq (.var 3) (.int 2)) [.ret (.bin .add (.lc (.nm 6) (.slc (.var 4) [(.int 1)] []) [] (.tup [(.var 6), (.call 5 [(.var 6)] [0])])) (.lst [(.tup [(.int 0), (.call 6 [(.var 4)] [0])])]))] [], .ite (.cmp .eq (.var 3) (.int 3)) [.ret (.bi .lzip [(.var 4), (.call 7 [(.var 4)] [0])])] [], .par [9, 7] [(.bin .add (.int 1) (.call 5 [(.var 1)] [0])), (.bin .add (.int 1) (.call 5 [(.bi .min2 [(.var 2), (.int 2)])] [0]))], .asg (.nm 10) (.lst [(.slc (.var 4) [] [(.var 9)]), (.slc (.var 4) [(.var 9)] [])]), .asg (.nm 11) (.call 9 [(.lc (.nm 12) (.var 10) [] (.bin .mul (.bi .lzip [(.var 12), (.bin .add (.slc (.var 12) [(.int 1)] []) (.slc (.var 12) [] [(.int 1)]))]) (.ife (.cmp .eq (.var 3) (.int 4)) (.var 7) (.int 1))))] []), .ite (.and (.cmp .lt (.var 9) (.var 1)) (.cmp .gt (.call 5 [(.int 4)] [0]) (.int 0))) [.asg (.nm 11) (.bin .add (.lst [(.tup [(.call 6 [(.idx (.var 10) (.int 0))] [0]), (.call 6 [(.idx (.var 10) (.int 1))] [0])])]) (.var 11))] [], .ret (.var 11)]
def p_law_planted : Fs := fun i => match i with
  | 5 => m_law_take
  | 6 => m_law_one
  | 9 => m_law_flat
  | 7 => m_law_mixed
  | _ => fun _ _ => .no
def m_law_planted (ros ios : List D) : Rs (D × List D) := f_law_planted.run p_law_planted rpD fuel ros ios
def f_law_come_to : Fn where
  np := 2
  ks := [0, 0, 0, 0, 0, 0, 0]
  ret := 1
  names := ["_law_firsts", "_law_pairs", "_law_seen", "_law_turn", "_law_more", "_law_source", "_law_target"]
  body := [.asg (.nm 2) (.bi .sorted [(.bi .set [(.var 0)])]), .for_ (.nm 3) (.bi .range1 [(.bin .add (.bi .len [(.var 1)]) (.int 1))]) [.asg (.nm 4) (.bi .sorted [(.bi .set [(.lc (.tup [(.nm 5), (.nm 6)]) (.var 1) [(.cmp .isin (.var 5) (.var 2))] (.var 6))])]), .asg (.nm 4) (.lc (.nm 6) (.var 4) [(.cmp .notin (.var 6) (.var 2))] (.var 6)), .ite (.cmp .eq (.var 4) (.lst [])) [.ret (.bi .sorted [(.var 2)])] [], .asg (.nm 2) (.bin .add (.var 2) (.var 4))], .ret (.bi .sorted [(.var 2)])]
def p_law_come_to : Fs := fun i => match i with
  | _ => fun _ _ => .no
def m_law_come_to (ros ios : List D) : Rs (D × List D) := f_law_come_to.run p_law_come_to rpD fuel ros ios
def f_law_numbered : Fn where
  np := 1
  ks := [0, 1, 1, 0, 0, 0]
  ret := 0
  names := ["_law_pairs", "_law_counts", "_law_found", "_law_source", "_law_target", "_law_number"]
  body := [.par [1, 2] [(.dnew false), (.lst [])], .for_ (.tup [(.nm 3), (.nm 4)]) (.var 0) [.asg (.nm 5) (.mt .get2 (.var 1) [(.var 3), (.int 0)]), .mcall .append 2 [] [(.tup [(.var 3), (.var 5), (.var 4)])], .set1 1 (.var 3) (.bin .add (.var 5) (.int 1))], .ret (.bi .tuple [(.bi .sorted [(.var 2)])])]
def p_law_numbered : Fs := fun i => match i with
  | _ => fun _ _ => .no
def m_law_numbered (ros ios : List D) : Rs (D × List D) := f_law_numbered.run p_law_numbered rpD fuel ros ios
def f_law_chart : Fn where
  np := 3
  ks := [1, 0, 0, 0, 0, 0, 0, 0, 0, 0, 0, 0, 0, 0, 0, 0, 0, 0]
  ret := 0
  names := ["_law_bag_here", "_law_most", "_law_wide", "_law_count", "_law_stands", "_law_firsts", "_law_pairs", "_law_more", "_law_k", "_law_turn", "_law_seen", "_law_lost", "_law_stand", "_law_free", "_law_pair", "_law_names", "_law_source", "_law_target"]
  body := [.asg (.nm 3) (.bin .add (.int 1) (.call 5 [(.var 1)] [0])), .asg (.nm 4) (.bi .list [(.bi .range1 [(.var 3)])]), .par [5, 6] [(.slc (.call 7 [(.var 4)] [0]) [] [(.call 6 [(.lst [(.int 1), (.int 1), (.int 2), (.int 3)])] [0])]), (.call 11 [(.var 3), (.var 2)] [0])], .asg (.nm 7) (.lc (.nm 8) (.bi .range1 [(.call 6 [(.lst [(.int 0), (.int 1), (.int 0), (.int 2)])] [0])]) [] (.tup [(.call 6 [(.var 4)] [0]), (.call 6 [(.var 4)] [0])])), .asg (.nm 6) (.call 12 [(.bin .add (.var 6) (.var 7)), (.var 2)] []), .for_ (.nm 9) (.bi .range1 [(.var 3)]) [.asg (.nm 10) (.call 13 [(.var 5), (.var 6)] []), .asg (.nm 11) (.lc (.nm 12) (.var 4) [(.cmp .notin (.var 12) (.var 10))] (.var 12)), .asg (.nm 13) (.lc (.nm 12) (.var 10) [(.cmp .lt (.bi .len [(.lc (.nm 14) (.var 6) [(.cmp .eq (.idx (.var 14) (.int 0)) (.var 12))] (.var 14))]) (.var 2))] (.var 12)), .ite (.and (.cmp .ne (.var 11) (.lst [])) (.or (.cmp .eq (.var 13) (.lst [])) (.cmp .eq (.call 5 [(.int 4)] [0]) (.int 0)))) [.asg (.nm 5) (.bin .add (.var 5) (.lst [(.idx (.var 11) (.int 0))]))] [.ite (.cmp .ne (.var 11) (.lst [])) [.asg (.nm 6) (.bin .add (.var 6) (.lst [(.tup [(.call 6 [(.var 13)] [0]), (.idx (.var 11) (.int 0))])]))] []]], .asg (.nm 15) (.ife (.cmp .gt (.call 5 [(.int 3)] [0]) (.int 0)) (.call 7 [(.var 4)] [0]) (.var 4)), .asg (.nm 6) (.lc (.tup [(.nm 16), (.nm 17)]) (.call 7 [(.var 6)] [0]) [] (.tup [(.idx (.var 15) (.var 16)), (.idx (.var 15) (.var 17))])), .ret (.tup [(.var 3), (.bi .tuple [(.bi .sorted [(.lc (.nm 12) (.var 5) [] (.idx (.var 15) (.var 12)))])]), (.call 14 [(.var 6)] [])])]
def p_law_chart : Fs := fun i => match i with
  | 5 => m_law_take
  | 6 => m_law_one
  | 7 => m_law_mixed
  | 11 => m_law_planted
  | 12 => m_law_narrow
  | 13 => m_law_come_to
  | 14 => m_law_numbered
  | _ => fun _ _ => .no
def m_law_chart (ros ios : List D) : Rs (D × List D) := f_law_chart.run p_law_chart rpD fuel ros ios
def f_law_pieces : Fn where
  np := 1
  ks := [0, 0, 1, 0, 0, 0, 0, 0, 0, 0]
  ret := 1
  names := ["_law_chart_here", "_law_pairs", "_law_found", "_law_source", "_law_number", "_law_target", "_law_reach", "_law_stand", "_law_piece", "_law_one_here"]
  body := [.par [1, 2] [(.lc (.tup [(.nm 3), (.nm 4), (.nm 5)]) (.idx (.var 0) (.int 2)) [] (.tup [(.var 3), (.var 5)])), (.lst [])], .asg (.nm 6) (.lc (.nm 7) (.bi .range1 [(.idx (.var 0) (.int 0))]) [] (.call 13 [(.lst [(.var 7)]), (.var 1)] [])), .for_ (.nm 7) (.bi .range1 [(.idx (.var 0) (.int 0))]) [.asg (.nm 8) (.bi .tuple [(.lc (.nm 9) (.bi .range1 [(.idx (.var 0) (.int 0))]) [(.and (.cmp .isin (.var 9) (.idx (.var 6) (.var 7))) (.cmp .isin (.var 7) (.idx (.var 6) (.var 9))))] (.var 9))]), .ite (.cmp .notin (.var 8) (.var 2)) [.mcall .append 2 [] [(.var 8)]] []], .ret (.bi .sorted [(.var 2)])]
def p_law_pieces : Fs := fun i => match i with
  | 13 => m_law_come_to
  | _ => fun _ _ => .no
def m_law_pieces (ros ios : List D) : Rs (D × List D) := f_law_pieces.run p_law_pieces rpD fuel ros ios
def f_law_is_fed : Fn where
  np := 2
  ks := [0, 0, 0]
  ret := 2
  names := ["_law_chart_here", "_law_piece", "_law_step"]
  body := [.ret (.cmp .ne (.lc (.nm 2) (.idx (.var 0) (.int 2)) [(.and (.cmp .isin (.idx (.var 2) (.int 2)) (.var 1)) (.cmp .notin (.idx (.var 2) (.int 0)) (.var 1)))] (.var 2)) (.lst []))]
def p_law_is_fed : Fs := fun i => match i with
  | _ => fun _ _ => .no
def m_law_is_fed (ros ios : List D) : Rs (D × List D) := f_law_is_fed.run p_law_is_fed rpD fuel ros ios
def f_law : Fn where
  np := 1
  ks := [0, 1, 1, 0, 0, 0, 0, 0, 1, 0]
  ret := 2
  names := ["_law_script", "_law_bag_here", "_law_charts", "_law_k", "_law_chart_here", "_law_pieces_here", "_law_shown", "_law_again", "_law_told", "_law_piece"]
  body := [.asg (.nm 1) (.lk (.call 4 [(.var 0)] [])), .asg (.nm 2) (.lc (.nm 3) (.bi .range1 [(.int 3)]) [] (.call 10 [(.call 6 [(.lst [(.int 5), (.int 4), (.int 7), (.int 3), (.int 12)])] [1]), (.int 3)] [1])), .ite (.cmp .eq (.call 5 [(.int 6)] [1]) (.int 0)) [.mcall .append 2 [] [(.call 10 [(.int 60), (.int 4)] [1])]] [], .for_ (.nm 4) (.bin .add (.var 2) (.slc (.var 2) [] [(.int 1)])) [.par [5, 6] [(.call 15 [(.var 4)] []), (.bi .repr [(.var 4)])], .for_ (.nm 7) (.bi .range1 [(.int 2)]) [.asg (.nm 8) (.lk (.call 2 [(.var 4)] [])), .ite (.not (.bcall 8 [(.var 8), (.var 5)])) [.ret (.bl false)] [], .mcall .append 8 [] [(.tup [(.int 0)])], .mcall .reverse 8 [] []], .for_ (.nm 9) (.call 7 [(.var 5)] [1]) [.ite (.not (.call 8 [(.call 3 [(.var 4), (.var 9)] []), (.call 16 [(.var 4), (.var 9)] [])] [])) [.ret (.bl false)] []], .ite (.cmp .ne (.bi .repr [(.var 4)]) (.var 6)) [.ret (.bl false)] []], .ret (.bl true)]
def p_law : Fs := fun i => match i with
  | 4 => m_law_bag
  | 10 => m_law_chart
  | 6 => m_law_one
  | 5 => m_law_take
  | 15 => m_law_pieces
  | 2 => m_pieces_of
  | 8 => m_law_alike
  | 7 => m_law_mixed
  | 3 => m_is_fed
  | 16 => m_law_is_fed
  | _ => fun _ _ => .no
def m_law (ros ios : List D) : Rs (D × List D) := f_law.run p_law rpD fuel ros ios
end C

set_option linter.all false
set_option maxHeartbeats 1000000
set_option maxRecDepth 100000
set_option exponentiation.threshold 20000
namespace C
open PySem (Str)
theorem run_ok {P : Fs} {rp : D → Str} {n : Nat} (f : Fn) {ros ios : List D} {r0 : Env} {d : D} {r : Env} {os : List D} (e0 : (do let r ← ofO (mkEnv (f.ks.take f.np) ros ios); pure (r ++ List.replicate (f.ks.length - f.np) none)) = Rs.ok r0)
    (e1 : sts P rp n f.body r0 = .ok (.ret d r)) (e2 : getAll f.ios r = .ok os) : f.run P rp n ros ios = .ok (d, os) := by
  unfold Fn.run
  cases h : ofO (mkEnv (f.ks.take f.np) ros ios) with
  | ok r1 =>
    rw [h] at e0
    have e0 : r1 ++ List.replicate (f.ks.length - f.np) none = r0 := (fun z => by injection z) e0
    simp only [ok_bind, e0, e1, e2, pure_ok]
  | ex c as => rw [h] at e0; cases e0
  | no => rw [h] at e0; cases e0
section
variable {P : Fs} {rp : D → Str} {n : Nat}
theorem sts_nx {s : S} {ss : List S} {r r1 : Env} {fl : Rs Fl} (h : st P rp n s r = .ok (.nx r1)) (h2 : sts P rp n ss r1 = fl) : sts P rp n (s :: ss) r = fl := by
  simp only [sts, h, ok_bind, h2]
theorem sts_ret {s : S} {ss : List S} {r r1 : Env} {d : D} (h : st P rp n s r = .ok (.ret d r1)) : sts P rp n (s :: ss) r = .ok (.ret d r1) := by
  simp only [sts, h, ok_bind]; rfl
theorem st_ite_t {c : E} {a b : List S} {r r1 : Env} {x : D} {fl : Rs Fl} (h : ev P rp c r = .ok (x, r1)) (t : truth x = .ok true) (h2 : sts P rp n a r1 = fl) : st P rp n (.ite c a b) r = fl := by
  simp only [st, h, t, ok_bind, if_true, h2]
theorem st_ite_f {c : E} {a b : List S} {r r1 : Env} {x : D} {fl : Rs Fl} (h : ev P rp c r = .ok (x, r1)) (t : truth x = .ok false) (h2 : sts P rp n b r1 = fl) : st P rp n (.ite c a b) r = fl := by
  simp only [st, h, t, ok_bind, if_false, h2, Bool.false_eq_true]
end
def Bag (k : Nat) (b : D) : Prop := ∃ (a s p : Int) (cs : List Int), b = .lst [.int a, .int s, .int p, .lst (Is cs)] ∧ 0 ≤ s ∧ s < 2147483648 ∧ 0 ≤ p ∧ p ≤ k ∧ cs.length ≤ 63
theorem Bag.le {k k' : Nat} {b : D} (h : Bag k b) (l : k ≤ k') : Bag k' b := by
  obtain ⟨a, s, p, cs, e, h1, h2, h3, h4, h5⟩ := h
  exact ⟨a, s, p, cs, e, h1, h2, h3, by omega, h5⟩
theorem log2_le {a : Int} {n : Nat} (h : a.natAbs < 2 ^ n) (hn : 0 < n) : a.natAbs.log2 < n := by
  by_cases z : a.natAbs = 0
  · rw [z]; simpa using hn
  · exact (Nat.log2_lt z).mpr h
theorem mulOk_of {a b : Int} {n m : Nat} (ha : a.natAbs < 2 ^ n) (hb : b.natAbs < 2 ^ m) (hn : 0 < n := by decide) (hm : 0 < m := by decide) (h : n + m < 1000000 := by decide) : mulOk a b = true := by
  have := log2_le ha hn
  have := log2_le hb hm
  exact decide_eq_true (by omega)
theorem grd_of {b : Bool} (h : b = true) : grd b = .ok () := by rw [h]; rfl
theorem head_app (xs : List Int) : ∃ c, atI (Is xs ++ [D.int 0]) 0 = some (.int c) := by
  cases xs with
  | nil => exact ⟨0, rfl⟩
  | cons x r => exact ⟨x, atI_nat (i := 0) rfl⟩
/-- the last lines of take -/
theorem take_end {a s p n : Int} {l : D} {x2 x3 x4 x5 x6 : Option D} (hn : 0 < n) (hn2 : n < 1000000) (h1 : 0 ≤ s) (h2 : s < 2147483648) : ∃ v r a', sts p_law_take rpD fuel (f_law_take.body.drop 1) [some (.lst [.int a, .int s, .int p, l]), some (.int n), x2, x3, x4, x5, x6] = .ok (.ret (.int v) r) ∧ getAll [0] r = .ok [.lst [.int a', .int s, .int p, l]] ∧ 0 ≤ v ∧ v < n := by
  have hlog : n.natAbs.log2 < 9000 := log2_le (n := 9000) (Nat.lt_of_lt_of_le (show n.natAbs < 2 ^ 20 by omega) (Nat.pow_le_pow_right (by decide) (by decide))) (by decide)
  have hg : grd (decide (0 < n ∧ n.natAbs.log2 < 9000)) = .ok () := grd_of (decide_eq_true ⟨hn, hlog⟩)
  have hm : grd (decide (0 < n)) = .ok () := grd_of (decide_eq_true hn)
  have i0 : ∀ x : D, ∀ l : List D, atI (x :: l) 0 = some x := fun x l => atI_nat (i := 0) rfl
  have i1 : ∀ x y : D, ∀ l : List D, atI (x :: y :: l) 1 = some y := fun x y l => atI_nat (i := 1) rfl
  have ix0 : ixN 4 0 = some 0 := rfl
  have g7 : (Int.natAbs 7).log2 < 9000 := by decide
  simp only [f_law_take, List.drop_succ_cons, List.drop_zero]
  by_cases ha : 0 < a
  · refine ⟨a % n, [some (.lst [.int (a / n), .int s, .int p, l]), some (.int n), x2, x3, some (.int (a % n)), x5, x6], a / n, sts_ret (st_ite_t (x := .bl true) (r1 := [some (.lst [.int a, .int s, .int p, l]), some (.int n), x2, x3, x4, x5, x6]) ?_ rfl ?_), rfl, Int.emod_nonneg _ (by omega), Int.emod_lt_of_pos _ hn⟩
    rotate_left
    · simp only [sts, st, ev, evs, evc, rd_zero, rd_succ, ok_bind, pure_ok, ofO_some, grd_true, List.set_cons_zero, List.set_cons_succ, getAll, putAll, setT, setTs, List.length_cons, List.length_nil, intOf, Bool.and_true, Bool.true_and, if_true, if_false, Bool.false_eq_true, Nat.zero_add, Nat.reduceAdd, Nat.reduceLT, decide_true, decide_false, true_and, and_true, Int.reduceAdd, Int.reduceLT, Int.reduceNeg, binop, index, slice, cmpop, truth, bi, intsD, List.head?_cons, List.head?_nil, setIx, isInt, mu, lstOf, i0, hm, hg, ix0]
    · simp only [sts, st, ev, evs, evc, rd_zero, rd_succ, ok_bind, pure_ok, ofO_some, grd_true, List.set_cons_zero, List.set_cons_succ, getAll, putAll, setT, setTs, List.length_cons, List.length_nil, intOf, Bool.and_true, Bool.true_and, if_true, if_false, Bool.false_eq_true, Nat.zero_add, Nat.reduceAdd, Nat.reduceLT, decide_true, decide_false, true_and, and_true, Int.reduceAdd, Int.reduceLT, Int.reduceNeg, binop, index, slice, cmpop, truth, bi, intsD, List.head?_cons, List.head?_nil, setIx, isInt, mu, lstOf, i0, ha, decide_true]
  · have m1 : grd (mulOk (s + 1) 39373) = .ok () := grd_of (mulOk_of (n := 32) (m := 16) (by omega) (by decide))
    obtain ⟨u, hu⟩ : ∃ u, ((s + 1) * 39373) % 1000000007 = u := ⟨_, rfl⟩
    have u1 : 0 ≤ u ∧ u < 1000000007 := by omega
    have m2 : grd (mulOk u u) = .ok () := grd_of (mulOk_of (n := 32) (m := 32) (by omega) (by omega))
    obtain ⟨w, hw⟩ : ∃ w, (u * u) % 998244353 = w := ⟨_, rfl⟩
    have w1 : 0 ≤ w ∧ w < 998244353 := by omega
    have m3 : grd (mulOk w 30011) = .ok () := grd_of (mulOk_of (n := 32) (m := 32) (by omega) (by decide))
    refine ⟨((w * 30011) % 998244353 / 7) % n, [some (.lst [.int a, .int s, .int p, l]), some (.int n), x2, x3, x4, some (.int u), some (.int ((w * 30011) % 998244353))], a, sts_nx (st_ite_f (x := .bl false) (r1 := [some (.lst [.int a, .int s, .int p, l]), some (.int n), x2, x3, x4, x5, x6]) ?_ rfl rfl) (sts_nx (r1 := [some (.lst [.int a, .int s, .int p, l]), some (.int n), x2, x3, x4, some (.int u), x6]) ?_ (sts_nx (r1 := [some (.lst [.int a, .int s, .int p, l]), some (.int n), x2, x3, x4, some (.int u), some (.int ((w * 30011) % 998244353))]) ?_ (sts_ret ?_))), rfl, Int.emod_nonneg _ (by omega), Int.emod_lt_of_pos _ hn⟩
    · simp only [sts, st, ev, evs, evc, rd_zero, rd_succ, ok_bind, pure_ok, ofO_some, grd_true, List.set_cons_zero, List.set_cons_succ, getAll, putAll, setT, setTs, List.length_cons, List.length_nil, intOf, Bool.and_true, Bool.true_and, if_true, if_false, Bool.false_eq_true, Nat.zero_add, Nat.reduceAdd, Nat.reduceLT, decide_true, decide_false, true_and, and_true, Int.reduceAdd, Int.reduceLT, Int.reduceNeg, binop, index, slice, cmpop, truth, bi, intsD, List.head?_cons, List.head?_nil, setIx, isInt, mu, lstOf, i0, ha, decide_false]
    · simp only [sts, st, ev, evs, evc, rd_zero, rd_succ, ok_bind, pure_ok, ofO_some, grd_true, List.set_cons_zero, List.set_cons_succ, getAll, putAll, setT, setTs, List.length_cons, List.length_nil, intOf, Bool.and_true, Bool.true_and, if_true, if_false, Bool.false_eq_true, Nat.zero_add, Nat.reduceAdd, Nat.reduceLT, decide_true, decide_false, true_and, and_true, Int.reduceAdd, Int.reduceLT, Int.reduceNeg, binop, index, slice, cmpop, truth, bi, intsD, List.head?_cons, List.head?_nil, setIx, isInt, mu, lstOf, i1, m1, hu]
    · simp only [sts, st, ev, evs, evc, rd_zero, rd_succ, ok_bind, pure_ok, ofO_some, grd_true, List.set_cons_zero, List.set_cons_succ, getAll, putAll, setT, setTs, List.length_cons, List.length_nil, intOf, Bool.and_true, Bool.true_and, if_true, if_false, Bool.false_eq_true, Nat.zero_add, Nat.reduceAdd, Nat.reduceLT, decide_true, decide_false, true_and, and_true, Int.reduceAdd, Int.reduceLT, Int.reduceNeg, binop, index, slice, cmpop, truth, bi, intsD, List.head?_cons, List.head?_nil, setIx, isInt, mu, lstOf, m2, m3, hw]
    · simp only [sts, st, ev, evs, evc, rd_zero, rd_succ, ok_bind, pure_ok, ofO_some, grd_true, List.set_cons_zero, List.set_cons_succ, getAll, putAll, setT, setTs, List.length_cons, List.length_nil, intOf, Bool.and_true, Bool.true_and, if_true, if_false, Bool.false_eq_true, Nat.zero_add, Nat.reduceAdd, Nat.reduceLT, decide_true, decide_false, true_and, and_true, Int.reduceAdd, Int.reduceLT, Int.reduceNeg, binop, index, slice, cmpop, truth, bi, intsD, List.head?_cons, List.head?_nil, setIx, isInt, mu, lstOf, hm, g7]
theorem take_ok {k : Nat} {n : Int} {b : D} (hb : Bag k b) (hn : 0 < n) (hn2 : n < 1000000) (hk : k < 1000000000) : ∃ v b', m_law_take [.int n] [b] = .ok (.int v, [b']) ∧ 0 ≤ v ∧ v < n ∧ Bag (k + 1) b' := by
  obtain ⟨a, s, p, cs, rfl, h1, h2, h3, h4, h5⟩ := hb
  have i0 : ∀ x : D, ∀ l : List D, atI (x :: l) 0 = some x := fun x l => atI_nat (i := 0) rfl
  by_cases ha : a = 0
  · subst ha
    obtain ⟨c, hc⟩ := head_app (cut cs (some p) none)
    have hcs : cut (Is cs) (some p) none = Is (cut cs (some p) none) := cut_map _ _ _ _
    have hl : (cut cs (some p) none).length ≤ 63 := Nat.le_trans (cut_len _ _ _) h5
    have hl2 : grd (decide ((Is (cut cs (some p) none)).length + 1 ≤ line)) = .ok () := grd_of (decide_eq_true (by simp only [Is, List.length_map]; show _ ≤ 16777216; omega))
    have gp : grd (decide (((0:Int) ≤ 18) ∧ (18:Int) ≤ 1000000 ∧ (10:Int).natAbs < 2 ^ 64)) = .ok () := rfl
    have i1 : ∀ x y : D, ∀ l : List D, atI (x :: y :: l) 1 = some y := fun x y l => atI_nat (i := 1) rfl
    have i2 : ∀ x y z : D, ∀ l : List D, atI (x :: y :: z :: l) 2 = some z := fun x y z l => atI_nat (i := 2) rfl
    have i3 : ∀ x y z w : D, ∀ l : List D, atI (x :: y :: z :: w :: l) 3 = some w := fun x y z w l => atI_nat (i := 3) rfl
    have n0 : ixN 4 0 = some 0 := rfl
    have n1 : ixN 4 1 = some 1 := rfl
    have n2 : ixN 4 2 = some 2 := rfl
    obtain ⟨u, hu⟩ : ∃ u, c % 2147483647 = u := ⟨_, rfl⟩
    have u1 : 0 ≤ u ∧ u < 2147483647 := by omega
    have m1 : grd (mulOk s 48271) = .ok () := grd_of (mulOk_of (n := 32) (m := 17) (by omega) (by decide))
    have m2 : grd (mulOk 7919 (p + 1)) = .ok () := grd_of (mulOk_of (n := 17) (m := 64) (by decide) (by omega))
    obtain ⟨s', hs'⟩ : ∃ s', (s * 48271 + u + 7919 * (p + 1)) % 2147483647 = s' := ⟨_, rfl⟩
    have s1 : 0 ≤ s' ∧ s' < 2147483647 := by omega
    obtain ⟨a1, e3⟩ : ∃ a1, st p_law_take rpD fuel (.ite (.cmp .ge (.var 2) (.bin .pow (.int 10) (.int 18))) [.set1 0 (.int 0) (.var 2)] []) [some (.lst [.int 0, .int s, .int (p + 1), .lst (Is cs)]), some (.int n), some (.int c), none, none, none, none] = .ok (.nx [some (.lst [.int a1, .int s, .int (p + 1), .lst (Is cs)]), some (.int n), some (.int c), none, none, none, none]) := by
      by_cases hc18 : (10:Int) ^ 18 ≤ c
      · refine ⟨c, st_ite_t (x := .bl true) (r1 := [some (.lst [.int 0, .int s, .int (p + 1), .lst (Is cs)]), some (.int n), some (.int c), none, none, none, none]) ?_ rfl ?_⟩
        · simp only [sts, st, ev, evs, evc, rd_zero, rd_succ, ok_bind, pure_ok, ofO_some, grd_true, List.set_cons_zero, List.set_cons_succ, getAll, putAll, setT, setTs, List.length_cons, List.length_nil, intOf, Bool.and_true, Bool.true_and, if_true, if_false, Bool.false_eq_true, Nat.zero_add, Nat.reduceAdd, Nat.reduceLT, decide_true, decide_false, true_and, and_true, Int.reduceAdd, Int.reduceLT, Int.reduceNeg, binop, index, slice, cmpop, truth, bi, intsD, List.head?_cons, List.head?_nil, setIx, isInt, mu, lstOf, gp, show Int.toNat 18 = 18 from rfl, hc18]
        · simp only [sts, st, ev, evs, evc, rd_zero, rd_succ, ok_bind, pure_ok, ofO_some, grd_true, List.set_cons_zero, List.set_cons_succ, getAll, putAll, setT, setTs, List.length_cons, List.length_nil, intOf, Bool.and_true, Bool.true_and, if_true, if_false, Bool.false_eq_true, Nat.zero_add, Nat.reduceAdd, Nat.reduceLT, decide_true, decide_false, true_and, and_true, Int.reduceAdd, Int.reduceLT, Int.reduceNeg, binop, index, slice, cmpop, truth, bi, intsD, List.head?_cons, List.head?_nil, setIx, isInt, mu, lstOf, n0]
      · refine ⟨0, st_ite_f (x := .bl false) (r1 := [some (.lst [.int 0, .int s, .int (p + 1), .lst (Is cs)]), some (.int n), some (.int c), none, none, none, none]) ?_ rfl rfl⟩
        simp only [sts, st, ev, evs, evc, rd_zero, rd_succ, ok_bind, pure_ok, ofO_some, grd_true, List.set_cons_zero, List.set_cons_succ, getAll, putAll, setT, setTs, List.length_cons, List.length_nil, intOf, Bool.and_true, Bool.true_and, if_true, if_false, Bool.false_eq_true, Nat.zero_add, Nat.reduceAdd, Nat.reduceLT, decide_true, decide_false, true_and, and_true, Int.reduceAdd, Int.reduceLT, Int.reduceNeg, binop, index, slice, cmpop, truth, bi, intsD, List.head?_cons, List.head?_nil, setIx, isInt, mu, lstOf, gp, show Int.toNat 18 = 18 from rfl, hc18]
    obtain ⟨v, r, a', e1, e2, h6, h7⟩ := take_end (a := a1) (s := s') (p := p + 1) (l := .lst (Is cs)) (x2 := some (.int c)) (x3 := some (.int (s * 48271 + u + 7919 * (p + 1)))) (x4 := none) (x5 := none) (x6 := none) hn hn2 s1.1 (by omega)
    refine ⟨v, _, run_ok f_law_take (r0 := [some (.lst [.int 0, .int s, .int p, .lst (Is cs)]), some (.int n), none, none, none, none, none]) rfl (sts_nx (st_ite_t (x := .bl true) (r1 := [some (.lst [.int 0, .int s, .int p, .lst (Is cs)]), some (.int n), none, none, none, none, none]) ?_ rfl ?_) e1) e2, h6, h7, ⟨a', s', p + 1, cs, rfl, s1.1, by omega, by omega, by omega, h5⟩⟩
    · simp only [sts, st, ev, evs, evc, rd_zero, rd_succ, ok_bind, pure_ok, ofO_some, grd_true, List.set_cons_zero, List.set_cons_succ, getAll, putAll, setT, setTs, List.length_cons, List.length_nil, intOf, Bool.and_true, Bool.true_and, if_true, if_false, Bool.false_eq_true, Nat.zero_add, Nat.reduceAdd, Nat.reduceLT, decide_true, decide_false, true_and, and_true, Int.reduceAdd, Int.reduceLT, Int.reduceNeg, binop, index, slice, cmpop, truth, bi, intsD, List.head?_cons, List.head?_nil, setIx, isInt, mu, lstOf, i0]
      rfl
    · refine sts_nx (r1 := [some (.lst [.int 0, .int s, .int p, .lst (Is cs)]), some (.int n), some (.int c), none, none, none, none]) ?_ (sts_nx (r1 := [some (.lst [.int 0, .int s, .int (p + 1), .lst (Is cs)]), some (.int n), some (.int c), none, none, none, none]) ?_ (sts_nx e3 (sts_nx (r1 := [some (.lst [.int a1, .int s, .int (p + 1), .lst (Is cs)]), some (.int n), some (.int c), some (.int (s * 48271 + u + 7919 * (p + 1))), none, none, none]) ?_ (sts_nx (r1 := [some (.lst [.int a1, .int s', .int (p + 1), .lst (Is cs)]), some (.int n), some (.int c), some (.int (s * 48271 + u + 7919 * (p + 1))), none, none, none]) ?_ rfl))))
      · simp only [sts, st, ev, evs, evc, rd_zero, rd_succ, ok_bind, pure_ok, ofO_some, grd_true, List.set_cons_zero, List.set_cons_succ, getAll, putAll, setT, setTs, List.length_cons, List.length_nil, intOf, Bool.and_true, Bool.true_and, if_true, if_false, Bool.false_eq_true, Nat.zero_add, Nat.reduceAdd, Nat.reduceLT, decide_true, decide_false, true_and, and_true, Int.reduceAdd, Int.reduceLT, Int.reduceNeg, binop, index, slice, cmpop, truth, bi, intsD, List.head?_cons, List.head?_nil, setIx, isInt, mu, lstOf, i2, i3, hcs, hl2, hc]
      · simp only [sts, st, ev, evs, evc, rd_zero, rd_succ, ok_bind, pure_ok, ofO_some, grd_true, List.set_cons_zero, List.set_cons_succ, getAll, putAll, setT, setTs, List.length_cons, List.length_nil, intOf, Bool.and_true, Bool.true_and, if_true, if_false, Bool.false_eq_true, Nat.zero_add, Nat.reduceAdd, Nat.reduceLT, decide_true, decide_false, true_and, and_true, Int.reduceAdd, Int.reduceLT, Int.reduceNeg, binop, index, slice, cmpop, truth, bi, intsD, List.head?_cons, List.head?_nil, setIx, isInt, mu, lstOf, i2, n2]
      · simp only [sts, st, ev, evs, evc, rd_zero, rd_succ, ok_bind, pure_ok, ofO_some, grd_true, List.set_cons_zero, List.set_cons_succ, getAll, putAll, setT, setTs, List.length_cons, List.length_nil, intOf, Bool.and_true, Bool.true_and, if_true, if_false, Bool.false_eq_true, Nat.zero_add, Nat.reduceAdd, Nat.reduceLT, decide_true, decide_false, true_and, and_true, Int.reduceAdd, Int.reduceLT, Int.reduceNeg, binop, index, slice, cmpop, truth, bi, intsD, List.head?_cons, List.head?_nil, setIx, isInt, mu, lstOf, i1, i2, hu, m1, m2]
      · simp only [sts, st, ev, evs, evc, rd_zero, rd_succ, ok_bind, pure_ok, ofO_some, grd_true, List.set_cons_zero, List.set_cons_succ, getAll, putAll, setT, setTs, List.length_cons, List.length_nil, intOf, Bool.and_true, Bool.true_and, if_true, if_false, Bool.false_eq_true, Nat.zero_add, Nat.reduceAdd, Nat.reduceLT, decide_true, decide_false, true_and, and_true, Int.reduceAdd, Int.reduceLT, Int.reduceNeg, binop, index, slice, cmpop, truth, bi, intsD, List.head?_cons, List.head?_nil, setIx, isInt, mu, lstOf, n1, hs']
  · obtain ⟨v, r, a', e1, e2, h6, h7⟩ := take_end (a := a) (p := p) (l := .lst (Is cs)) (x2 := none) (x3 := none) (x4 := none) (x5 := none) (x6 := none) hn hn2 h1 h2
    refine ⟨v, _, run_ok f_law_take (r0 := [some (.lst [.int a, .int s, .int p, .lst (Is cs)]), some (.int n), none, none, none, none, none]) rfl (sts_nx (st_ite_f (x := .bl false) ?_ rfl rfl) e1) e2, h6, h7, ⟨a', s, p, cs, rfl, h1, h2, h3, by omega, h5⟩⟩
    simp only [sts, st, ev, evs, evc, rd_zero, rd_succ, ok_bind, pure_ok, ofO_some, grd_true, List.set_cons_zero, List.set_cons_succ, getAll, putAll, setT, setTs, List.length_cons, List.length_nil, intOf, Bool.and_true, Bool.true_and, if_true, if_false, Bool.false_eq_true, Nat.zero_add, Nat.reduceAdd, Nat.reduceLT, decide_true, decide_false, true_and, and_true, Int.reduceAdd, Int.reduceLT, Int.reduceNeg, binop, index, slice, cmpop, truth, bi, intsD, List.head?_cons, List.head?_nil, setIx, isInt, mu, lstOf, i0]
    rw [show eqv (D.int a) (D.int 0) = false by simp [eqv, ha]]
    rfl
end C

set_option linter.all false
set_option maxHeartbeats 1000000
set_option maxRecDepth 100000
namespace C
open PySem (Str)
theorem one_ok {k : Nat} {xs : List D} {t b : D} (ht : t = .lst xs) (hb : Bag k b) (h0 : xs ≠ []) (h1 : xs.length < 1000000) (hk : k < 1000000000) : ∃ x b', m_law_one [t] [b] = .ok (x, [b']) ∧ x ∈ xs ∧ Bag (k + 1) b' := by
  subst ht
  have h2 : 0 < xs.length := List.length_pos_iff.mpr h0
  obtain ⟨v, b', e, v0, v1, hb'⟩ := take_ok hb (n := xs.length) (by omega) (by omega) hk
  obtain ⟨x, ex, hx⟩ := atI_at v0 v1
  refine ⟨x, b', run_ok f_law_one (r0 := [some b, some (.lst xs)]) (r := [some b', some (.lst xs)]) rfl (sts_ret ?_) rfl, List.mem_of_getElem? hx, hb'⟩
  have hP : p_law_one 5 = m_law_take := rfl
  simp only [sts, st, ev, evs, evc, rd_zero, rd_succ, ok_bind, pure_ok, ofO_some, grd_true, List.set_cons_zero, List.set_cons_succ, getAll, putAll, setT, setTs, List.length_cons, List.length_nil, intOf, Bool.and_true, Bool.true_and, if_true, if_false, Bool.false_eq_true, Nat.zero_add, Nat.reduceAdd, Nat.reduceLT, decide_true, decide_false, true_and, and_true, Int.reduceAdd, Int.reduceLT, Int.reduceNeg, binop, index, slice, cmpop, truth, bi, intsD, List.head?_cons, List.head?_nil, setIx, isInt, mu, lstOf, hP, e, ex]
theorem insAt_perm (xs : List D) (i : Int) (x : D) : (insAt xs i x).Perm (x :: xs) := by
  unfold insAt
  exact (List.perm_middle).trans (List.Perm.cons _ (by rw [List.take_append_drop]))
theorem mixed_ok {k : Nat} {xs : List D} {t b : D} (ht : t = .lst xs) (hb : Bag k b) (h1 : xs.length < 100000) (hk : k < 900000000) : ∃ ys b', m_law_mixed [t] [b] = .ok (.lst ys, [b']) ∧ ys.Perm xs ∧ Bag (k + xs.length) b' := by
  subst ht
  obtain ⟨r', e1, ys, b', w, e2, e3, hb'⟩ := st_forI (P := p_law_mixed) (rp := rpD) (n := fuel) (t := .nm 3) (it := .var 1) (b := [.mcall .insert 2 [] [(.call 5 [(.bin .add (.bi .len [(.var 2)]) (.int 1))] [0]), (.var 3)]]) (r := [some b, some (.lst xs), some (.lst []), none]) (r0 := [some b, some (.lst xs), some (.lst []), none]) (x := .lst xs) (ds := xs) rfl rfl
    (fun i r => ∃ ys b' w, r = [some b', some (.lst xs), some (.lst ys), w] ∧ ys.Perm (xs.take i) ∧ Bag (k + i) b') ⟨[], b, none, rfl, .refl _, hb⟩ fun i d r ed ⟨ys, b1, w, er, pm, hb1⟩ => by
      subst er
      have hi := (List.getElem?_eq_some_iff.mp ed).1
      have hl : ys.length = i := by rw [pm.length_eq, List.length_take]; omega
      obtain ⟨v, b2, e, v0, v1, hb2⟩ := take_ok hb1 (n := (ys.length : Int) + 1) (by omega) (by omega) (by omega)
      refine ⟨[some b1, some (.lst xs), some (.lst ys), some d], by simp only [sts, st, ev, evs, evc, rd_zero, rd_succ, ok_bind, pure_ok, ofO_some, grd_true, List.set_cons_zero, List.set_cons_succ, getAll, putAll, setT, setTs, List.length_cons, List.length_nil, intOf, Bool.and_true, Bool.true_and, if_true, if_false, Bool.false_eq_true, Nat.zero_add, Nat.reduceAdd, Nat.reduceLT, decide_true, decide_false, true_and, and_true, Int.reduceAdd, Int.reduceLT, Int.reduceNeg], [some b2, some (.lst xs), some (.lst (insAt ys v d)), some d], ?_, insAt ys v d, b2, some d, rfl, ?_, hb2⟩
      · have hP : p_law_mixed 5 = m_law_take := rfl
        have hg : grd (decide (ys.length < line ∧ 0 ≤ v ∧ v < 2 ^ 62)) = .ok () := grd_of (decide_eq_true ⟨by show _ < 16777216; omega, v0, by omega⟩)
        simp only [sts, st, ev, evs, evc, rd_zero, rd_succ, ok_bind, pure_ok, ofO_some, grd_true, List.set_cons_zero, List.set_cons_succ, getAll, putAll, setT, setTs, List.length_cons, List.length_nil, intOf, Bool.and_true, Bool.true_and, if_true, if_false, Bool.false_eq_true, Nat.zero_add, Nat.reduceAdd, Nat.reduceLT, decide_true, decide_false, true_and, and_true, Int.reduceAdd, Int.reduceLT, Int.reduceNeg, binop, index, slice, cmpop, truth, bi, intsD, List.head?_cons, List.head?_nil, setIx, isInt, mu, lstOf, hP, e, isLst, atPath, hg]
      · rw [List.take_add_one, ed]
        exact (insAt_perm ys v d).trans (((pm.cons d).trans (List.perm_append_singleton d _).symm))
  subst e2
  rw [List.take_length] at e3
  refine ⟨ys, b', run_ok f_law_mixed (r0 := [some b, some (.lst xs), none, none]) (r := [some b', some (.lst xs), none, w]) rfl (sts_nx (r1 := [some b, some (.lst xs), some (.lst []), none]) rfl (sts_nx e1 (sts_ret ?_))) rfl, e3, hb'⟩
  simp only [sts, st, ev, evs, evc, rd_zero, rd_succ, ok_bind, pure_ok, ofO_some, grd_true, List.set_cons_zero, List.set_cons_succ, getAll, putAll, setT, setTs, List.length_cons, List.length_nil, intOf, Bool.and_true, Bool.true_and, if_true, if_false, Bool.false_eq_true, Nat.zero_add, Nat.reduceAdd, Nat.reduceLT, decide_true, decide_false, true_and, and_true, Int.reduceAdd, Int.reduceLT, Int.reduceNeg]
theorem flat_ok {rows : List (List D)} {t : D} (ht : t = .lst (rows.map .lst)) (hl : rows.flatten.length ≤ 1000000) : m_law_flat [t] [] = .ok (.lst rows.flatten, []) := by
  subst ht
  obtain ⟨r', e1, w, e2⟩ := st_forI (P := p_law_flat) (rp := rpD) (n := fuel) (t := .nm 2) (it := .var 0) (b := [.mcall .extend 1 [] [(.var 2)]]) (r := [some (.lst (rows.map .lst)), some (.lst []), none]) (r0 := [some (.lst (rows.map .lst)), some (.lst []), none]) (x := .lst (rows.map .lst)) (ds := rows.map .lst) rfl rfl
    (fun i r => ∃ w, r = [some (.lst (rows.map .lst)), some (.lst (rows.take i).flatten), w]) ⟨none, rfl⟩ fun i d r ed ⟨w, er⟩ => by
      subst er
      rw [List.getElem?_map] at ed
      obtain ⟨row, er, rfl⟩ := Option.map_eq_some_iff.mp ed
      have tk : rows.take (i + 1) = rows.take i ++ [row] := by rw [List.take_add_one, er]; rfl
      have hle : ((rows.take i).flatten ++ row).length ≤ rows.flatten.length := by
        have : rows = rows.take (i + 1) ++ rows.drop (i + 1) := (List.take_append_drop _ _).symm
        have h2 : rows.flatten = (rows.take (i + 1)).flatten ++ (rows.drop (i + 1)).flatten := by rw [← List.flatten_append, ← this]
        rw [h2, tk, List.flatten_append, List.length_append]
        simp
      refine ⟨[some (.lst (rows.map .lst)), some (.lst (rows.take i).flatten), some (.lst row)], by simp only [sts, st, ev, evs, evc, rd_zero, rd_succ, ok_bind, pure_ok, ofO_some, grd_true, List.set_cons_zero, List.set_cons_succ, getAll, putAll, setT, setTs, List.length_cons, List.length_nil, intOf, Bool.and_true, Bool.true_and, if_true, if_false, Bool.false_eq_true, Nat.zero_add, Nat.reduceAdd, Nat.reduceLT, decide_true, decide_false, true_and, and_true, Int.reduceAdd, Int.reduceLT, Int.reduceNeg], [some (.lst (rows.map .lst)), some (.lst ((rows.take i).flatten ++ row)), some (.lst row)], ?_, some (.lst row), ?_⟩
      · rw [List.length_append] at hle
        have hg : grd (decide ((rows.take i).flatten.length + row.length ≤ line)) = .ok () := grd_of (decide_eq_true (by show _ ≤ 16777216; omega))
        simp only [sts, st, ev, evs, evc, rd_zero, rd_succ, ok_bind, pure_ok, ofO_some, grd_true, List.set_cons_zero, List.set_cons_succ, getAll, putAll, setT, setTs, List.length_cons, List.length_nil, intOf, Bool.and_true, Bool.true_and, if_true, if_false, Bool.false_eq_true, Nat.zero_add, Nat.reduceAdd, Nat.reduceLT, decide_true, decide_false, true_and, and_true, Int.reduceAdd, Int.reduceLT, Int.reduceNeg, binop, index, slice, cmpop, truth, bi, intsD, List.head?_cons, List.head?_nil, setIx, isInt, mu, lstOf, isLst, atPath, hg, seqOf]
      · rw [tk, List.flatten_append]; simp
  subst e2
  rw [List.length_map, List.take_length] at e1
  refine run_ok f_law_flat (r0 := [some (.lst (rows.map .lst)), none, none]) (r := [some (.lst (rows.map .lst)), none, w]) rfl (sts_nx (r1 := [some (.lst (rows.map .lst)), some (.lst []), none]) rfl (sts_nx e1 (sts_ret ?_))) rfl
  simp only [sts, st, ev, evs, evc, rd_zero, rd_succ, ok_bind, pure_ok, ofO_some, grd_true, List.set_cons_zero, List.set_cons_succ, getAll, putAll, setT, setTs, List.length_cons, List.length_nil, intOf, Bool.and_true, Bool.true_and, if_true, if_false, Bool.false_eq_true, Nat.zero_add, Nat.reduceAdd, Nat.reduceLT, decide_true, decide_false, true_and, and_true, Int.reduceAdd, Int.reduceLT, Int.reduceNeg]
theorem bag_ok {ns : List Int} {t : D} (ht : t = .lst (Is ns)) (hl : ns.length ≤ 63) : ∃ b, m_law_bag [t] [] = .ok (b, []) ∧ Bag 0 b := by
  subst ht
  have c1 : cut (Is ns) none (some 63) = Is ns := by
    unfold cut sIx Is
    simp only [List.drop_zero, List.length_map, if_neg (show ¬ (63:Int) < 0 by decide)]
    rw [List.take_of_length_le (by simp only [List.length_map]; show _ ≤ min 63 _ - 0; omega)]
  have gz : grd (decide (0 ≤ 63)) = .ok () := rfl
  obtain ⟨r', e1, hr⟩ := ev_lcF (P := p_law_bag) (rp := rpD) (t := .nm 1) (it := .slc (.var 0) [] [(.int 63)]) (cs := []) (e := .bi .abs [(.var 1)]) (r := [some (.lst (Is ns)), none]) (r0 := [some (.lst (Is ns)), none]) (x := .lst (Is ns)) (xs := Is ns)
    (by simp only [sts, st, ev, evs, evc, rd_zero, rd_succ, ok_bind, pure_ok, ofO_some, grd_true, List.set_cons_zero, List.set_cons_succ, getAll, putAll, setT, setTs, List.length_cons, List.length_nil, intOf, Bool.and_true, Bool.true_and, if_true, if_false, Bool.false_eq_true, Nat.zero_add, Nat.reduceAdd, Nat.reduceLT, decide_true, decide_false, true_and, and_true, Int.reduceAdd, Int.reduceLT, Int.reduceNeg, binop, index, slice, cmpop, truth, bi, intsD, List.head?_cons, List.head?_nil, setIx, isInt, mu, lstOf, c1]) rfl (fun d => match d with | .int i => some (.int i.natAbs) | _ => none) (fun r => ∃ w, r = [some (.lst (Is ns)), w]) ⟨none, rfl⟩ (by simp only [Is, List.length_map]; show _ ≤ 16777216; omega) fun d r hd ⟨w, er⟩ => by
      subst er
      obtain ⟨i, _, rfl⟩ := List.mem_map.mp hd
      refine ⟨[some (.lst (Is ns)), some (.int i)], by simp only [sts, st, ev, evs, evc, rd_zero, rd_succ, ok_bind, pure_ok, ofO_some, grd_true, List.set_cons_zero, List.set_cons_succ, getAll, putAll, setT, setTs, List.length_cons, List.length_nil, intOf, Bool.and_true, Bool.true_and, if_true, if_false, Bool.false_eq_true, Nat.zero_add, Nat.reduceAdd, Nat.reduceLT, decide_true, decide_false, true_and, and_true, Int.reduceAdd, Int.reduceLT, Int.reduceNeg, clr, Tg.slots], .inr ⟨[some (.lst (Is ns)), some (.int i)], .int i.natAbs, [some (.lst (Is ns)), some (.int i)], rfl, ?_, rfl, ⟨some (.int i), rfl⟩⟩⟩
      simp only [sts, st, ev, evs, evc, rd_zero, rd_succ, ok_bind, pure_ok, ofO_some, grd_true, List.set_cons_zero, List.set_cons_succ, getAll, putAll, setT, setTs, List.length_cons, List.length_nil, intOf, Bool.and_true, Bool.true_and, if_true, if_false, Bool.false_eq_true, Nat.zero_add, Nat.reduceAdd, Nat.reduceLT, decide_true, decide_false, true_and, and_true, Int.reduceAdd, Int.reduceLT, Int.reduceNeg, binop, index, slice, cmpop, truth, bi, intsD, List.head?_cons, List.head?_nil, setIx, isInt, mu, lstOf]
  obtain ⟨w, rfl⟩ := hr
  have e2 : (Is ns).filterMap (fun d => match d with | .int i => some (D.int i.natAbs) | _ => none) = Is (ns.map fun i => (i.natAbs : Int)) := by
    clear e1 c1 hl
    induction ns with
    | nil => rfl
    | cons x r ih =>
      show _ = D.int x.natAbs :: Is (r.map fun i => (i.natAbs : Int))
      rw [← ih]; rfl
  rw [e2] at e1
  refine ⟨.lst [.int 0, .int 1234567891, .int 0, .lst (Is (ns.map fun i => (i.natAbs : Int)))], run_ok f_law_bag (r0 := [some (.lst (Is ns)), none]) (r := [some (.lst (Is ns)), none]) rfl (sts_ret ?_) rfl, ⟨0, 1234567891, 0, _, rfl, by omega, by omega, by omega, by omega, by simpa using hl⟩⟩
  generalize E.lc _ _ _ _ = z at e1 ⊢
  simp only [sts, st, ev, evs, evc, rd_zero, rd_succ, ok_bind, pure_ok, ofO_some, grd_true, List.set_cons_zero, List.set_cons_succ, getAll, putAll, setT, setTs, List.length_cons, List.length_nil, intOf, Bool.and_true, Bool.true_and, if_true, if_false, Bool.false_eq_true, Nat.zero_add, Nat.reduceAdd, Nat.reduceLT, decide_true, decide_false, true_and, and_true, Int.reduceAdd, Int.reduceLT, Int.reduceNeg, e1]
  rfl
end C

set_option linter.all false
set_option maxHeartbeats 1000000
set_option maxRecDepth 100000
namespace C
open PySem (Str)
/-! ### pairs, triples -/
def Prs (ps : List (Int × Int)) : List D := ps.map fun p => .tup [.int p.1, .int p.2]
def Trs (ts : List (Int × Int × Int)) : List D := ts.map fun p => .tup [.int p.1, .int p.2.1, .int p.2.2]
def St (n : Nat) : List Int := (List.range n).map fun (i : Nat) => (i : Int)
def Ok1 (n : Nat) (x : Int) : Prop := 0 ≤ x ∧ x < n
def Ok2 (n : Nat) (p : Int × Int) : Prop := Ok1 n p.1 ∧ Ok1 n p.2
theorem range_St (n : Nat) : rangeI 0 (n : Int) = Is (St n) := by
  unfold rangeI Is St
  rw [List.map_map]
  simp only [Int.sub_zero, Int.toNat_natCast, Int.zero_add]
  rfl
theorem St_mem {n : Nat} {x : Int} (h : x ∈ St n) : Ok1 n x := by
  obtain ⟨i, hi, rfl⟩ := List.mem_map.mp h
  have := List.mem_range.mp hi
  exact ⟨by omega, by omega⟩
theorem St_of {n : Nat} {x : Int} (h : Ok1 n x) : x ∈ St n := List.mem_map.mpr ⟨x.toNat, List.mem_range.mpr (by obtain ⟨h1, h2⟩ := h; omega), by obtain ⟨h1, h2⟩ := h; show ((x.toNat : Nat) : Int) = x; omega⟩
theorem St_len (n : Nat) : (St n).length = n := by simp [St]
theorem St_nodup (n : Nat) : (St n).Nodup := by
  unfold St
  rw [List.nodup_iff_pairwise_ne, List.pairwise_map]
  exact (List.pairwise_lt_range).imp fun h => by omega
theorem Is_len (ns : List Int) : (Is ns).length = ns.length := by simp [Is]
theorem Is_get {ns : List Int} {i : Nat} {d : D} (h : (Is ns)[i]? = some d) : ∃ x, ns[i]? = some x ∧ d = .int x := by
  rw [Is, List.getElem?_map] at h
  obtain ⟨x, e, rfl⟩ := Option.map_eq_some_iff.mp h
  exact ⟨x, e, rfl⟩
theorem Is_mem {ns : List Int} {d : D} (h : d ∈ Is ns) : ∃ x, x ∈ ns ∧ d = .int x := by
  obtain ⟨x, e, rfl⟩ := List.mem_map.mp h
  exact ⟨x, e, rfl⟩
theorem Prs_get {ns : List (Int × Int)} {i : Nat} {d : D} (h : (Prs ns)[i]? = some d) : ∃ x y, ns[i]? = some (x, y) ∧ d = .tup [.int x, .int y] := by
  rw [Prs, List.getElem?_map] at h
  obtain ⟨x, e, rfl⟩ := Option.map_eq_some_iff.mp h
  exact ⟨x.1, x.2, e, rfl⟩
theorem Prs_mem {ns : List (Int × Int)} {d : D} (h : d ∈ Prs ns) : ∃ x y, (x, y) ∈ ns ∧ d = .tup [.int x, .int y] := by
  obtain ⟨x, e, rfl⟩ := List.mem_map.mp h
  exact ⟨x.1, x.2, e, rfl⟩
theorem Prs_len (ns : List (Int × Int)) : (Prs ns).length = ns.length := by simp [Prs]
theorem Trs_len (ns : List (Int × Int × Int)) : (Trs ns).length = ns.length := by simp [Trs]
theorem Is_perm {ds : List D} {ns : List Int} (h : ds.Perm (Is ns)) : ∃ ms, ds = Is ms ∧ ms.Perm ns := by
  have : ∀ d ∈ ds, ∃ x, d = D.int x := fun d hd => by
    obtain ⟨x, _, rfl⟩ := Is_mem (h.mem_iff.mp hd)
    exact ⟨x, rfl⟩
  have key : ∀ (ds : List D), (∀ d ∈ ds, ∃ x, d = D.int x) → ∃ ms, ds = Is ms := by
    intro ds
    induction ds with
    | nil => exact fun _ => ⟨[], rfl⟩
    | cons d r ih =>
      intro h
      obtain ⟨x, rfl⟩ := h d (by simp)
      obtain ⟨ms, rfl⟩ := ih fun e he => h e (by simp [he])
      exact ⟨x :: ms, rfl⟩
  obtain ⟨ms, rfl⟩ := key ds this
  refine ⟨ms, rfl, ?_⟩
  have := h.filterMap (fun d => match d with | .int i => some i | _ => none)
  have e : ∀ l : List Int, (Is l).filterMap (fun d => match d with | .int i => some i | _ => none) = l := fun l => by
    induction l with
    | nil => rfl
    | cons a r ih => unfold Is at *; rw [List.map_cons, List.filterMap_cons, ih]
  rwa [e, e] at this
theorem Prs_perm {ds : List D} {ns : List (Int × Int)} (h : ds.Perm (Prs ns)) : ∃ ms, ds = Prs ms ∧ ms.Perm ns := by
  have : ∀ d ∈ ds, ∃ x y, d = .tup [.int x, .int y] := fun d hd => by
    obtain ⟨x, y, _, rfl⟩ := Prs_mem (h.mem_iff.mp hd)
    exact ⟨x, y, rfl⟩
  have key : ∀ (ds : List D), (∀ d ∈ ds, ∃ x y, d = .tup [.int x, .int y]) → ∃ ms, ds = Prs ms := by
    intro ds
    induction ds with
    | nil => exact fun _ => ⟨[], rfl⟩
    | cons d r ih =>
      intro h
      obtain ⟨x, y, rfl⟩ := h d (by simp)
      obtain ⟨ms, rfl⟩ := ih fun e he => h e (by simp [he])
      exact ⟨(x, y) :: ms, rfl⟩
  obtain ⟨ms, rfl⟩ := key ds this
  refine ⟨ms, rfl, ?_⟩
  have := h.filterMap (fun d => match d with | .tup [.int i, .int j] => some (i, j) | _ => none)
  have e : ∀ l : List (Int × Int), (Prs l).filterMap (fun d => match d with | .tup [.int i, .int j] => some (i, j) | _ => none) = l := fun l => by
    induction l with
    | nil => rfl
    | cons a r ih => unfold Prs at *; rw [List.map_cons, List.filterMap_cons, ih]
  rwa [e, e] at this
theorem at0 (x : D) (l : List D) : atI (x :: l) 0 = some x := atI_nat (i := 0) rfl
theorem at1 (x y : D) (l : List D) : atI (x :: y :: l) 1 = some y := atI_nat (i := 1) rfl
theorem at2 (x y z : D) (l : List D) : atI (x :: y :: z :: l) 2 = some z := atI_nat (i := 2) rfl
/-- a Nodup list of numbers below n has at most n -/
theorem nodup_len : ∀ (n : Nat) (xs : List Int), xs.Nodup → (∀ x ∈ xs, Ok1 n x) → xs.length ≤ n
  | 0, xs, _, h => by
    cases xs with
    | nil => simp
    | cons x r => obtain ⟨h1, h2⟩ := h x (by simp); omega
  | n + 1, xs, nd, h => by
    have h1 := nodup_len n (xs.erase (n : Int)) (nd.erase _) fun x hx => by
      have m := List.mem_of_mem_erase hx
      have := h x m
      have ne : x ≠ (n : Int) := fun z => by
        subst z
        exact nd.not_mem_erase hx
      exact ⟨this.1, by have := this.2; omega⟩
    have h2 : xs.length ≤ (xs.erase (n : Int)).length + 1 := by
      rw [List.length_erase]; split <;> omega
    omega
theorem memD_Is {x : Int} {ns : List Int} : memD (.int x) (Is ns) = decide (x ∈ ns) := by
  induction ns with
  | nil => rfl
  | cons a r ih =>
    show (eqv (D.int a) (.int x) || memD (.int x) (Is r)) = _
    rw [ih]
    simp only [eqv, List.mem_cons]
    by_cases e : a = x
    · simp [e]
    · have : ¬ x = a := fun z => e z.symm
      simp [e, this]
theorem dedup_Is : ∀ (xs acc : List Int), acc.Nodup → ∃ ys, dedup (Is acc) (Is xs) = Is ys ∧ ys.Nodup ∧ ∀ x, x ∈ ys ↔ x ∈ acc ∨ x ∈ xs
  | [], acc, h => ⟨acc, rfl, h, by simp⟩
  | x :: r, acc, h => by
    show ∃ ys, dedup (if memD (.int x) (Is acc) then Is acc else Is acc ++ [D.int x]) (Is r) = Is ys ∧ _
    rw [memD_Is]
    by_cases m : x ∈ acc
    · obtain ⟨ys, e, nd, hm⟩ := dedup_Is r acc h
      refine ⟨ys, by rw [if_pos (by simpa using m)]; exact e, nd, fun y => ?_⟩
      rw [hm, List.mem_cons]
      constructor
      · rintro (z | z) <;> simp [z]
      · rintro (z | z | z)
        · exact .inl z
        · subst z; exact .inl m
        · exact .inr z
    · have nd' : (acc ++ [x]).Nodup := List.nodup_append.mpr ⟨h, by simp, fun a ha b hb => by simp at hb; subst hb; intro z; subst z; exact m ha⟩
      obtain ⟨ys, e, nd, hm⟩ := dedup_Is r (acc ++ [x]) nd'
      refine ⟨ys, by rw [if_neg (by simpa using m)]; simpa [Is] using e, nd, fun y => ?_⟩
      rw [hm, List.mem_cons, List.mem_append, List.mem_singleton]
      constructor
      · rintro ((z | z) | z) <;> simp [z]
      · rintro (z | z | z) <;> simp [z]
/-- sorted -/
def insI (x : Int) : List Int → List Int
  | [] => [x]
  | y :: r => if y < x then y :: insI x r else x :: y :: r
def sortI : List Int → List Int
  | [] => []
  | x :: r => insI x (sortI r)
theorem insD_Is (x : Int) : ∀ ns : List Int, insD (.int x) (Is ns) = Is (insI x ns)
  | [] => rfl
  | y :: r => by
    show (if ltb (.int y) (.int x) then D.int y :: insD (.int x) (Is r) else D.int x :: D.int y :: Is r) = Is (if y < x then _ else _)
    rw [insD_Is x r]
    simp only [ltb]
    by_cases h : y < x
    · simp only [h, decide_true, if_true]; rfl
    · simp only [h, decide_false, if_false, Bool.false_eq_true]; rfl
theorem sortD_Is : ∀ ns : List Int, sortD (Is ns) = Is (sortI ns)
  | [] => rfl
  | x :: r => by show insD (.int x) (sortD (Is r)) = _; rw [sortD_Is r, insD_Is]; rfl
theorem insI_perm (x : Int) : ∀ (xs : List Int), (insI x xs).Perm (x :: xs)
  | [] => .refl _
  | y :: r => by
    unfold insI
    split
    · exact ((insI_perm x r).cons y).trans (.swap x y r)
    · exact .refl _
theorem sortI_perm : ∀ (xs : List Int), (sortI xs).Perm xs
  | [] => .refl _
  | x :: r => (insI_perm x _).trans ((sortI_perm r).cons x)
theorem insI_sorted (x : Int) : ∀ (xs : List Int), xs.Pairwise (· ≤ ·) → (insI x xs).Pairwise (· ≤ ·)
  | [], _ => by simp [insI]
  | y :: r, h => by
    unfold insI
    obtain ⟨h1, h2⟩ := List.pairwise_cons.mp h
    split
    · refine List.pairwise_cons.mpr ⟨fun z hz => ?_, insI_sorted x r h2⟩
      rcases List.mem_cons.mp ((insI_perm x r).mem_iff.mp hz) with rfl | hz
      · omega
      · exact h1 z hz
    · refine List.pairwise_cons.mpr ⟨fun z hz => ?_, h⟩
      rcases List.mem_cons.mp hz with rfl | hz
      · omega
      · have := h1 z hz; omega
theorem sortI_sorted : ∀ (xs : List Int), (sortI xs).Pairwise (· ≤ ·)
  | [] => .nil
  | x :: r => insI_sorted x _ (sortI_sorted r)
theorem sortI_strict {xs : List Int} (h : xs.Nodup) : (sortI xs).Pairwise (· < ·) := by
  have h1 := sortI_sorted xs
  have h2 : (sortI xs).Nodup := (sortI_perm xs).nodup_iff.mpr h
  exact (List.pairwise_and_iff.mpr ⟨h1, h2⟩).imp fun ⟨a, b⟩ => by omega
theorem insI_of {x : Int} : ∀ {xs : List Int}, (∀ y ∈ xs, x ≤ y) → insI x xs = x :: xs
  | [], _ => rfl
  | y :: r, h => by
    have := h y (by simp)
    unfold insI
    rw [if_neg (by omega)]
theorem sortI_id : ∀ {xs : List Int}, xs.Pairwise (· ≤ ·) → sortI xs = xs
  | [], _ => rfl
  | x :: r, h => by
    obtain ⟨h1, h2⟩ := List.pairwise_cons.mp h
    show insI x (sortI r) = _
    rw [sortI_id h2, insI_of h1]
theorem all_isInt (ns : List Int) : (Is ns).all isInt = true := by simp [Is, isInt]
theorem sortOk_Is (ns : List Int) : grd (sortOk (Is ns)) = .ok () := by unfold sortOk; rw [all_isInt]; rfl
end C

set_option linter.all false
set_option maxHeartbeats 1000000
set_option maxRecDepth 100000
namespace C
open PySem (Str)
theorem tk1 {α : Type} {xs : List α} {i : Nat} {x : α} (h : xs[i]? = some x) : xs.take (i + 1) = xs.take i ++ [x] := by rw [List.take_add_one, h]; rfl
theorem plI {k : Nat} (x : Int) : pl k (.int x) = true := by cases k <;> rfl
theorem plP {k : Nat} (x y : Int) : pl (k + 1) (.tup [.int x, .int y]) = true := by simp only [pl, pls, plI, Bool.and_self]
theorem plTr {k : Nat} (x y z : Int) : pl (k + 1) (.tup [.int x, .int y, .int z]) = true := by simp only [pl, pls, plI, Bool.and_self]
theorem pls_Is {k : Nat} (ns : List Int) : pls k (Is ns) = true := pls_of fun d hd => by obtain ⟨x, _, rfl⟩ := Is_mem hd; exact plI x
theorem pls_Prs {k : Nat} (ns : List (Int × Int)) : pls (k + 1) (Prs ns) = true := pls_of fun d hd => by obtain ⟨x, y, _, rfl⟩ := Prs_mem hd; exact plP x y
theorem eq_int (x y : Int) : cmpop .eq (.int x) (.int y) = .ok (decide (x = y)) := by
  simp only [cmpop, plain, plI, Bool.and_self, grd_true, ok_bind, pure_ok, eqv]
  by_cases h : x = y <;> simp [h]
theorem lt_int (x y : Int) : cmpop .lt (.int x) (.int y) = .ok (decide (x < y)) := by
  simp only [cmpop, plain, plI, Bool.and_self, cmpb, grd_true, ok_bind, pure_ok, ltb]
theorem isin_Is (x : Int) (ns : List Int) : isin (.int x) (.lst (Is ns)) = .ok (decide (x ∈ ns)) := by
  simp only [isin, plain, plains, plI, pls_Is, Bool.and_self, grd_true, ok_bind, pure_ok, memD_Is]
theorem Prs_snoc (qs : List (Int × Int)) (x y : Int) : Prs qs ++ [.tup [.int x, .int y]] = Prs (qs ++ [(x, y)]) := by simp [Prs]
theorem Is_snoc (qs : List Int) (x : Int) : Is qs ++ [.int x] = Is (qs ++ [x]) := by simp [Is]
theorem Trs_snoc (qs : List (Int × Int × Int)) (x y z : Int) : Trs qs ++ [.tup [.int x, .int y, .int z]] = Trs (qs ++ [(x, y, z)]) := by simp [Trs]
theorem Is_app (xs ys : List Int) : Is xs ++ Is ys = Is (xs ++ ys) := by simp [Is]
theorem Prs_app (xs ys : List (Int × Int)) : Prs xs ++ Prs ys = Prs (xs ++ ys) := by simp [Prs]
theorem filt_len {α β : Type} (g : α → Option β) (xs : List α) : (xs.filterMap g).length ≤ xs.length := List.length_filterMap_le g xs
theorem narrow_ok {ps : List (Int × Int)} {wide : Int} {t : D} (ht : t = .lst (Prs ps)) (hl : ps.length ≤ 1000000) : ∃ qs, m_law_narrow [t, .int wide] [] = .ok (.lst (Prs qs), []) ∧ qs.Sublist ps := by
  subst ht
  obtain ⟨r', e1, qs, w3, w4, e2, sb⟩ := st_forI (P := p_law_narrow) (rp := rpD) (n := fuel) (t := .nm 3) (it := .var 0) (b := [.ite (.cmp .lt (.bi .len [(.lc (.nm 4) (.var 2) [(.cmp .eq (.idx (.var 4) (.int 0)) (.idx (.var 3) (.int 0)))] (.var 4))]) (.var 1)) [.mcall .append 2 [] [(.var 3)]] []])
    (r := [some (.lst (Prs ps)), some (.int wide), some (.lst []), none, none]) (r0 := [some (.lst (Prs ps)), some (.int wide), some (.lst []), none, none]) (x := .lst (Prs ps)) (ds := Prs ps) rfl rfl
    (fun i r => ∃ qs w3 w4, r = [some (.lst (Prs ps)), some (.int wide), some (.lst (Prs qs)), w3, w4] ∧ qs.Sublist (ps.take i)) ⟨[], none, none, rfl, List.nil_sublist _⟩ fun i d r ed ⟨qs, w3, w4, er, sb⟩ => by
      subst er
      obtain ⟨x, y, ep, rfl⟩ := Prs_get ed
      have hi := (List.getElem?_eq_some_iff.mp ep).1
      have hq : qs.length ≤ i := by have := sb.length_le; rw [List.length_take] at this; omega
      obtain ⟨r1, e1, w5, er1⟩ := ev_lcF (P := p_law_narrow) (rp := rpD) (t := .nm 4) (it := .var 2) (cs := [(.cmp .eq (.idx (.var 4) (.int 0)) (.idx (.var 3) (.int 0)))]) (e := .var 4)
        (r := [some (.lst (Prs ps)), some (.int wide), some (.lst (Prs qs)), some (.tup [.int x, .int y]), w4]) (r0 := [some (.lst (Prs ps)), some (.int wide), some (.lst (Prs qs)), some (.tup [.int x, .int y]), w4]) (x := .lst (Prs qs)) (xs := Prs qs) rfl rfl
        (fun d => match d with | .tup [.int a, .int _] => if a = x then some d else none | _ => none)
        (fun r => ∃ w, r = [some (.lst (Prs ps)), some (.int wide), some (.lst (Prs qs)), some (.tup [.int x, .int y]), w]) ⟨w4, rfl⟩ (by rw [Prs_len]; show _ ≤ 16777216; omega) fun d r hd ⟨w, er⟩ => by
          subst er
          obtain ⟨a, b, _, rfl⟩ := Prs_mem hd
          refine ⟨[some (.lst (Prs ps)), some (.int wide), some (.lst (Prs qs)), some (.tup [.int x, .int y]), some (.tup [.int a, .int b])], by simp only [sts, st, ev, evs, evc, rd_zero, rd_succ, ok_bind, pure_ok, ofO_some, grd_true, List.set_cons_zero, List.set_cons_succ, getAll, putAll, setT, setTs, List.length_cons, List.length_nil, intOf, Bool.and_true, Bool.true_and, if_true, if_false, Bool.false_eq_true, Nat.zero_add, Nat.reduceAdd, Nat.reduceLT, decide_true, decide_false, true_and, and_true, Int.reduceAdd, Int.reduceLT, Int.reduceNeg, clr, Tg.slots], ?_⟩
          by_cases h : a = x
          · refine .inr ⟨[some (.lst (Prs ps)), some (.int wide), some (.lst (Prs qs)), some (.tup [.int x, .int y]), some (.tup [.int a, .int b])], .tup [.int a, .int b], [some (.lst (Prs ps)), some (.int wide), some (.lst (Prs qs)), some (.tup [.int x, .int y]), some (.tup [.int a, .int b])], ?_, rfl, by simp only [h, if_true], ⟨_, rfl⟩⟩
            simp only [sts, st, ev, evs, evc, rd_zero, rd_succ, ok_bind, pure_ok, ofO_some, grd_true, List.set_cons_zero, List.set_cons_succ, getAll, putAll, setT, setTs, List.length_cons, List.length_nil, intOf, Bool.and_true, Bool.true_and, if_true, if_false, Bool.false_eq_true, Nat.zero_add, Nat.reduceAdd, Nat.reduceLT, decide_true, decide_false, true_and, and_true, Int.reduceAdd, Int.reduceLT, Int.reduceNeg, index, at0, eq_int, truth, h]
          · refine .inl ⟨[some (.lst (Prs ps)), some (.int wide), some (.lst (Prs qs)), some (.tup [.int x, .int y]), some (.tup [.int a, .int b])], ?_, by simp only [h, if_false], ⟨_, rfl⟩⟩
            simp only [sts, st, ev, evs, evc, rd_zero, rd_succ, ok_bind, pure_ok, ofO_some, grd_true, List.set_cons_zero, List.set_cons_succ, getAll, putAll, setT, setTs, List.length_cons, List.length_nil, intOf, Bool.and_true, Bool.true_and, if_true, if_false, Bool.false_eq_true, Nat.zero_add, Nat.reduceAdd, Nat.reduceLT, decide_true, decide_false, true_and, and_true, Int.reduceAdd, Int.reduceLT, Int.reduceNeg, index, at0, eq_int, truth, h]
      subst er1
      obtain ⟨fs, hf⟩ : ∃ fs, (Prs qs).filterMap (fun d => match d with | .tup [.int a, .int _] => if a = x then some d else none | _ => none) = fs := ⟨_, rfl⟩
      rw [hf] at e1
      refine ⟨[some (.lst (Prs ps)), some (.int wide), some (.lst (Prs qs)), some (.tup [.int x, .int y]), w4], by simp only [sts, st, ev, evs, evc, rd_zero, rd_succ, ok_bind, pure_ok, ofO_some, grd_true, List.set_cons_zero, List.set_cons_succ, getAll, putAll, setT, setTs, List.length_cons, List.length_nil, intOf, Bool.and_true, Bool.true_and, if_true, if_false, Bool.false_eq_true, Nat.zero_add, Nat.reduceAdd, Nat.reduceLT, decide_true, decide_false, true_and, and_true, Int.reduceAdd, Int.reduceLT, Int.reduceNeg], ?_⟩
      generalize E.lc _ _ _ _ = z at e1 ⊢
      by_cases hw : (fs.length : Int) < wide
      · have hg : grd (decide ((Prs qs).length < line)) = .ok () := grd_of (decide_eq_true (by rw [Prs_len]; show _ < 16777216; omega))
        refine ⟨[some (.lst (Prs ps)), some (.int wide), some (.lst (Prs (qs ++ [(x, y)]))), some (.tup [.int x, .int y]), w4], ?_, qs ++ [(x, y)], some (.tup [.int x, .int y]), w4, rfl, ?_⟩
        · simp only [sts, st, ev, evs, evc, rd_zero, rd_succ, ok_bind, pure_ok, ofO_some, grd_true, List.set_cons_zero, List.set_cons_succ, getAll, putAll, setT, setTs, List.length_cons, List.length_nil, intOf, Bool.and_true, Bool.true_and, if_true, if_false, Bool.false_eq_true, Nat.zero_add, Nat.reduceAdd, Nat.reduceLT, decide_true, decide_false, true_and, and_true, Int.reduceAdd, Int.reduceLT, Int.reduceNeg, e1, bi, lt_int, truth, hw, restE, Tg.slots, isLst, atPath, mu, hg, List.getElem?_cons_succ, List.getElem?_cons_zero, Option.getD_some, Prs_snoc]
        · rw [tk1 ep]
          exact sb.append (.refl _)
      · refine ⟨[some (.lst (Prs ps)), some (.int wide), some (.lst (Prs qs)), some (.tup [.int x, .int y]), w4], ?_, qs, some (.tup [.int x, .int y]), w4, rfl, ?_⟩
        · simp only [sts, st, ev, evs, evc, rd_zero, rd_succ, ok_bind, pure_ok, ofO_some, grd_true, List.set_cons_zero, List.set_cons_succ, getAll, putAll, setT, setTs, List.length_cons, List.length_nil, intOf, Bool.and_true, Bool.true_and, if_true, if_false, Bool.false_eq_true, Nat.zero_add, Nat.reduceAdd, Nat.reduceLT, decide_true, decide_false, true_and, and_true, Int.reduceAdd, Int.reduceLT, Int.reduceNeg, e1, bi, lt_int, truth, hw, restE, Tg.slots, List.getElem?_cons_succ, List.getElem?_cons_zero, Option.getD_some]
        · rw [tk1 ep]
          exact sb.trans (List.sublist_append_left _ _)
  subst e2
  rw [Prs_len, List.take_length] at sb
  refine ⟨qs, run_ok f_law_narrow (r0 := [some (.lst (Prs ps)), some (.int wide), none, none, none]) (r := [some (.lst (Prs ps)), some (.int wide), none, w3, w4]) rfl (sts_nx (r1 := [some (.lst (Prs ps)), some (.int wide), some (.lst []), none, none]) rfl (sts_nx e1 (sts_ret ?_))) rfl, sb⟩
  simp only [sts, st, ev, evs, evc, rd_zero, rd_succ, ok_bind, pure_ok, ofO_some, grd_true, List.set_cons_zero, List.set_cons_succ, getAll, putAll, setT, setTs, List.length_cons, List.length_nil, intOf, Bool.and_true, Bool.true_and, if_true, if_false, Bool.false_eq_true, Nat.zero_add, Nat.reduceAdd, Nat.reduceLT, decide_true, decide_false, true_and, and_true, Int.reduceAdd, Int.reduceLT, Int.reduceNeg]
end C

set_option linter.all false
set_option maxHeartbeats 1000000
set_option maxRecDepth 100000
namespace C
open PySem (Str)
theorem bi_sset {n : Nat} {xs : List Int} (hn : n ≤ 63) (h : ∀ x ∈ xs, Ok1 n x) (hl : xs.length ≤ 4000) : ∃ zs ys, bi rpD .set [.lst (Is xs)] = .ok (.set (Is zs)) ∧ bi rpD .sorted [.set (Is zs)] = .ok (.lst (Is ys)) ∧ ys.Nodup ∧ (∀ x, x ∈ ys ↔ x ∈ xs) ∧ ys.Pairwise (· < ·) := by
  obtain ⟨zs, e, nd, hm⟩ := dedup_Is xs [] List.nodup_nil
  have hm' : ∀ x, x ∈ zs ↔ x ∈ xs := fun x => by rw [hm]; simp
  have hz : zs.length < 64 := by
    have := nodup_len n zs nd fun x hx => h x ((hm' x).mp hx)
    omega
  have e : dedup [] (Is xs) = Is zs := e
  have g1 : grd ((Is xs).all isInt && decide ((Is xs).length ≤ 4000)) = .ok () := grd_of (by rw [all_isInt, Is_len, Bool.true_and]; exact decide_eq_true hl)
  have g2 : grd ((Is zs).all isInt && decide ((Is zs).length < 64)) = .ok () := grd_of (by rw [all_isInt, Is_len, Bool.true_and]; exact decide_eq_true hz)
  refine ⟨zs, sortI zs, ?_, ?_, (sortI_perm zs).nodup_iff.mpr nd, fun x => by rw [(sortI_perm zs).mem_iff]; exact hm' x, sortI_strict nd⟩
  · simp only [bi, seqOf, ok_bind, g1, e, pure_ok]
  · simp only [bi, ok_bind, g2, sortD_Is, pure_ok]
theorem notin_Is (x : Int) (ns : List Int) : cmpop .notin (.int x) (.lst (Is ns)) = .ok (!decide (x ∈ ns)) := by
  simp only [cmpop, isin_Is, ok_bind, pure_ok]
theorem in_Is (x : Int) (ns : List Int) : cmpop .isin (.int x) (.lst (Is ns)) = .ok (decide (x ∈ ns)) := by
  simp only [cmpop, isin_Is]
theorem eq_nil (ns : List Int) : cmpop .eq (.lst (Is ns)) (.lst []) = .ok ns.isEmpty := by
  simp only [cmpop, plain, pl, pls_Is, pls, Bool.and_self, grd_true, ok_bind, pure_ok]
  cases ns <;> rfl
theorem ne_nil (ns : List Int) : cmpop .ne (.lst (Is ns)) (.lst []) = .ok (!ns.isEmpty) := by
  simp only [cmpop, plain, pl, pls_Is, pls, Bool.and_self, grd_true, ok_bind, pure_ok]
  cases ns <;> rfl
theorem ev_bi1 {P : Fs} {rp : D → Str} {f : Bi} {a : E} {r r1 : Env} {x d : D} (h : ev P rp a r = .ok (x, r1)) (hb : bi rp f [x] = .ok d) : ev P rp (.bi f [a]) r = .ok (d, r1) := by
  simp only [ev, evs, h, ok_bind, pure_ok, hb]
theorem ev_bin {P : Fs} {rp : D → Str} {op : Op} {a b : E} {r r1 r2 : Env} {x y d : D} (h : ev P rp a r = .ok (x, r1)) (h2 : ev P rp b r1 = .ok (y, r2)) (hb : binop op x y = .ok d) : ev P rp (.bin op a b) r = .ok (d, r2) := by
  simp only [ev, h, h2, ok_bind, pure_ok, hb]
theorem ev_var {P : Fs} {rp : D → Str} {i : Nat} {r : Env} {x : D} (h : rd r i = .ok x) : ev P rp (.var i) r = .ok (x, r) := by
  simp only [ev, h, ok_bind, pure_ok]
theorem bi_range1 {k : Int} (h0 : -16777216 ≤ k) (h1 : k ≤ 16777216) : bi rpD .range1 [.int k] = .ok (.lst (rangeI 0 k)) := by
  have : grd (decide (-(line : Int) ≤ k ∧ k ≤ (line : Int))) = .ok () := grd_of (decide_eq_true (by show -(16777216 : Int) ≤ k ∧ k ≤ (16777216 : Int); omega))
  simp only [bi, this, ok_bind, pure_ok]
theorem fm_Is (g : Int → Bool) : ∀ ns : List Int, (Is ns).filterMap (fun d => match d with | .int x => if g x = true then some (D.int x) else none | _ => none) = Is (ns.filter g)
  | [] => rfl
  | x :: r => by
    have ih := fm_Is g r
    unfold Is at *
    simp only [List.map_cons, List.filterMap_cons, List.filter_cons]
    cases h : g x with
    | true => simp only [if_true, List.map_cons]; rw [ih]
    | false => simp only [Bool.false_eq_true, if_false]; rw [ih]
theorem fm_Prs (g : Int → Bool) : ∀ ps : List (Int × Int), (Prs ps).filterMap (fun d => match d with | .tup [.int x, .int y] => if g x = true then some (D.int y) else none | _ => none) = Is ((ps.filter fun p => g p.1).map (·.2))
  | [] => rfl
  | (x, y) :: r => by
    have ih := fm_Prs g r
    unfold Is Prs at *
    simp only [List.map_cons, List.filterMap_cons, List.filter_cons]
    cases h : g x with
    | true => simp only [if_true, List.map_cons]; rw [ih]
    | false => simp only [Bool.false_eq_true, if_false]; rw [ih]
abbrev SeenOk (n : Nat) (fs xs : List Int) : Prop := xs.Nodup ∧ (∀ x ∈ xs, Ok1 n x) ∧ ∀ f ∈ fs, f ∈ xs
theorem come_more {n : Nat} {fs xs : List Int} {ps : List (Int × Int)} {d : D} {w4 w5 w6 : Option D} (hn : n ≤ 63) (hp : ∀ p ∈ ps, Ok2 n p) (lp : ps.length ≤ 4000) : ∃ ms : List Int, st p_law_come_to rpD fuel (.asg (.nm 4) (.bi .sorted [(.bi .set [(.lc (.tup [(.nm 5), (.nm 6)]) (.var 1) [(.cmp .isin (.var 5) (.var 2))] (.var 6))])])) [some (.lst (Is fs)), some (.lst (Prs ps)), some (.lst (Is xs)), some d, w4, w5, w6] = .ok (.nx [some (.lst (Is fs)), some (.lst (Prs ps)), some (.lst (Is xs)), some d, some (.lst (Is ms)), w5, w6]) ∧ ms.Nodup ∧ ∀ x ∈ ms, Ok1 n x := by
  obtain ⟨r1, e1, v5, v6, er1⟩ := ev_lcF (P := p_law_come_to) (rp := rpD) (t := .tup [(.nm 5), (.nm 6)]) (it := .var 1) (cs := [(.cmp .isin (.var 5) (.var 2))]) (e := .var 6)
    (r := [some (.lst (Is fs)), some (.lst (Prs ps)), some (.lst (Is xs)), some d, w4, w5, w6]) (r0 := [some (.lst (Is fs)), some (.lst (Prs ps)), some (.lst (Is xs)), some d, w4, w5, w6]) (x := .lst (Prs ps)) (xs := Prs ps) rfl rfl
    (fun d => match d with | .tup [.int x, .int y] => if decide (x ∈ xs) = true then some (D.int y) else none | _ => none)
    (fun r => ∃ v5 v6, r = [some (.lst (Is fs)), some (.lst (Prs ps)), some (.lst (Is xs)), some d, w4, v5, v6]) ⟨w5, w6, rfl⟩ (by rw [Prs_len]; show _ ≤ 16777216; omega) fun d0 r hd ⟨v5, v6, er⟩ => by
      subst er
      obtain ⟨x, y, _, rfl⟩ := Prs_mem hd
      refine ⟨[some (.lst (Is fs)), some (.lst (Prs ps)), some (.lst (Is xs)), some d, w4, some (.int x), some (.int y)], by simp only [sts, st, ev, evs, evc, rd_zero, rd_succ, ok_bind, pure_ok, ofO_some, grd_true, List.set_cons_zero, List.set_cons_succ, getAll, putAll, setT, setTs, List.length_cons, List.length_nil, intOf, Bool.and_true, Bool.true_and, if_true, if_false, Bool.false_eq_true, Nat.zero_add, Nat.reduceAdd, Nat.reduceLT, decide_true, decide_false, true_and, and_true, Int.reduceAdd, Int.reduceLT, Int.reduceNeg, clr, Tg.slots, Tg.slotss, List.append_nil, List.cons_append, List.nil_append], ?_⟩
      by_cases h : x ∈ xs
      · refine .inr ⟨[some (.lst (Is fs)), some (.lst (Prs ps)), some (.lst (Is xs)), some d, w4, some (.int x), some (.int y)], .int y, [some (.lst (Is fs)), some (.lst (Prs ps)), some (.lst (Is xs)), some d, w4, some (.int x), some (.int y)], ?_, rfl, by simp only [h, decide_true, if_true], ⟨_, _, rfl⟩⟩
        simp only [sts, st, ev, evs, evc, rd_zero, rd_succ, ok_bind, pure_ok, ofO_some, grd_true, List.set_cons_zero, List.set_cons_succ, getAll, putAll, setT, setTs, List.length_cons, List.length_nil, intOf, Bool.and_true, Bool.true_and, if_true, if_false, Bool.false_eq_true, Nat.zero_add, Nat.reduceAdd, Nat.reduceLT, decide_true, decide_false, true_and, and_true, Int.reduceAdd, Int.reduceLT, Int.reduceNeg, in_Is, truth, h]
      · refine .inl ⟨[some (.lst (Is fs)), some (.lst (Prs ps)), some (.lst (Is xs)), some d, w4, some (.int x), some (.int y)], ?_, by simp only [h, decide_false, Bool.false_eq_true, if_false], ⟨_, _, rfl⟩⟩
        simp only [sts, st, ev, evs, evc, rd_zero, rd_succ, ok_bind, pure_ok, ofO_some, grd_true, List.set_cons_zero, List.set_cons_succ, getAll, putAll, setT, setTs, List.length_cons, List.length_nil, intOf, Bool.and_true, Bool.true_and, if_true, if_false, Bool.false_eq_true, Nat.zero_add, Nat.reduceAdd, Nat.reduceLT, decide_true, decide_false, true_and, and_true, Int.reduceAdd, Int.reduceLT, Int.reduceNeg, in_Is, truth, h]
  subst er1
  rw [fm_Prs (fun x => decide (x ∈ xs))] at e1
  obtain ⟨ys, hys⟩ : ∃ ys, (ps.filter fun p => decide (p.1 ∈ xs)).map (·.2) = ys := ⟨_, rfl⟩
  rw [hys] at e1
  have hy1 : ∀ y ∈ ys, Ok1 n y := fun y hy => by
    rw [← hys] at hy
    obtain ⟨p, hp1, rfl⟩ := List.mem_map.mp hy
    exact (hp p (List.mem_filter.mp hp1).1).2
  have hy2 : ys.length ≤ 4000 := by
    rw [← hys, List.length_map]
    exact Nat.le_trans (List.length_filter_le _ _) lp
  obtain ⟨zs, ms, b1, b2, nd1, mem1, _⟩ := bi_sset hn hy1 hy2
  refine ⟨ms, ?_, nd1, fun x hx => hy1 x ((mem1 x).mp hx)⟩
  generalize E.lc _ _ _ _ = z at e1 ⊢
  simp only [sts, st, ev, evs, evc, rd_zero, rd_succ, ok_bind, pure_ok, ofO_some, grd_true, List.set_cons_zero, List.set_cons_succ, getAll, putAll, setT, setTs, List.length_cons, List.length_nil, intOf, Bool.and_true, Bool.true_and, if_true, if_false, Bool.false_eq_true, Nat.zero_add, Nat.reduceAdd, Nat.reduceLT, decide_true, decide_false, true_and, and_true, Int.reduceAdd, Int.reduceLT, Int.reduceNeg, e1, b1, b2, restE, Tg.slots, Tg.slotss, List.append_nil, List.cons_append, List.nil_append, List.getElem?_cons_succ, List.getElem?_cons_zero, Option.getD_some]
theorem come_new {n : Nat} {fs xs ms : List Int} {ps : List (Int × Int)} {d : D} {w5 w6 : Option D} (hn : n ≤ 63) (nd1 : ms.Nodup) (hm : ∀ x ∈ ms, Ok1 n x) : ∃ us : List Int, st p_law_come_to rpD fuel (.asg (.nm 4) (.lc (.nm 6) (.var 4) [(.cmp .notin (.var 6) (.var 2))] (.var 6))) [some (.lst (Is fs)), some (.lst (Prs ps)), some (.lst (Is xs)), some d, some (.lst (Is ms)), w5, w6] = .ok (.nx [some (.lst (Is fs)), some (.lst (Prs ps)), some (.lst (Is xs)), some d, some (.lst (Is us)), w5, w6]) ∧ us = ms.filter (fun x => !decide (x ∈ xs)) := by
  obtain ⟨r2, e2, v6', er2⟩ := ev_lcF (P := p_law_come_to) (rp := rpD) (t := .nm 6) (it := .var 4) (cs := [(.cmp .notin (.var 6) (.var 2))]) (e := .var 6)
    (r := [some (.lst (Is fs)), some (.lst (Prs ps)), some (.lst (Is xs)), some d, some (.lst (Is ms)), w5, w6]) (r0 := [some (.lst (Is fs)), some (.lst (Prs ps)), some (.lst (Is xs)), some d, some (.lst (Is ms)), w5, w6]) (x := .lst (Is ms)) (xs := Is ms) rfl rfl
    (fun d => match d with | .int x => if (!decide (x ∈ xs)) = true then some (D.int x) else none | _ => none)
    (fun r => ∃ v6, r = [some (.lst (Is fs)), some (.lst (Prs ps)), some (.lst (Is xs)), some d, some (.lst (Is ms)), w5, v6]) ⟨w6, rfl⟩ (by
      rw [Is_len]; have := nodup_len n ms nd1 hm; show _ ≤ 16777216; omega) fun d0 r hd ⟨v6, er⟩ => by
      subst er
      obtain ⟨x, _, rfl⟩ := Is_mem hd
      refine ⟨[some (.lst (Is fs)), some (.lst (Prs ps)), some (.lst (Is xs)), some d, some (.lst (Is ms)), w5, some (.int x)], by simp only [sts, st, ev, evs, evc, rd_zero, rd_succ, ok_bind, pure_ok, ofO_some, grd_true, List.set_cons_zero, List.set_cons_succ, getAll, putAll, setT, setTs, List.length_cons, List.length_nil, intOf, Bool.and_true, Bool.true_and, if_true, if_false, Bool.false_eq_true, Nat.zero_add, Nat.reduceAdd, Nat.reduceLT, decide_true, decide_false, true_and, and_true, Int.reduceAdd, Int.reduceLT, Int.reduceNeg, clr, Tg.slots], ?_⟩
      by_cases h : x ∈ xs
      · refine .inl ⟨[some (.lst (Is fs)), some (.lst (Prs ps)), some (.lst (Is xs)), some d, some (.lst (Is ms)), w5, some (.int x)], ?_, by simp only [h, decide_true, Bool.not_true, Bool.false_eq_true, if_false], ⟨_, rfl⟩⟩
        simp only [sts, st, ev, evs, evc, rd_zero, rd_succ, ok_bind, pure_ok, ofO_some, grd_true, List.set_cons_zero, List.set_cons_succ, getAll, putAll, setT, setTs, List.length_cons, List.length_nil, intOf, Bool.and_true, Bool.true_and, if_true, if_false, Bool.false_eq_true, Nat.zero_add, Nat.reduceAdd, Nat.reduceLT, decide_true, decide_false, true_and, and_true, Int.reduceAdd, Int.reduceLT, Int.reduceNeg, notin_Is, truth, h, Bool.not_true]
      · refine .inr ⟨[some (.lst (Is fs)), some (.lst (Prs ps)), some (.lst (Is xs)), some d, some (.lst (Is ms)), w5, some (.int x)], .int x, [some (.lst (Is fs)), some (.lst (Prs ps)), some (.lst (Is xs)), some d, some (.lst (Is ms)), w5, some (.int x)], ?_, rfl, by simp only [h, decide_false, Bool.not_false, if_true], ⟨_, rfl⟩⟩
        simp only [sts, st, ev, evs, evc, rd_zero, rd_succ, ok_bind, pure_ok, ofO_some, grd_true, List.set_cons_zero, List.set_cons_succ, getAll, putAll, setT, setTs, List.length_cons, List.length_nil, intOf, Bool.and_true, Bool.true_and, if_true, if_false, Bool.false_eq_true, Nat.zero_add, Nat.reduceAdd, Nat.reduceLT, decide_true, decide_false, true_and, and_true, Int.reduceAdd, Int.reduceLT, Int.reduceNeg, notin_Is, truth, h, Bool.not_false]
  subst er2
  rw [fm_Is (fun x => !decide (x ∈ xs))] at e2
  obtain ⟨us, hus⟩ : ∃ us, ms.filter (fun x => !decide (x ∈ xs)) = us := ⟨_, rfl⟩
  rw [hus] at e2
  refine ⟨us, ?_, hus.symm⟩
  generalize E.lc _ _ _ _ = z at e2 ⊢
  simp only [sts, st, ev, evs, evc, rd_zero, rd_succ, ok_bind, pure_ok, ofO_some, grd_true, List.set_cons_zero, List.set_cons_succ, getAll, putAll, setT, setTs, List.length_cons, List.length_nil, intOf, Bool.and_true, Bool.true_and, if_true, if_false, Bool.false_eq_true, Nat.zero_add, Nat.reduceAdd, Nat.reduceLT, decide_true, decide_false, true_and, and_true, Int.reduceAdd, Int.reduceLT, Int.reduceNeg, e2, restE, Tg.slots, List.getElem?_cons_succ, List.getElem?_cons_zero, Option.getD_some]
theorem come_to_ok {n : Nat} {fs : List Int} {ps : List (Int × Int)} {t u : D} (ht : t = .lst (Is fs)) (hu : u = .lst (Prs ps)) (hn : n ≤ 63) (hf : ∀ f ∈ fs, Ok1 n f) (hp : ∀ p ∈ ps, Ok2 n p) (lf : fs.length ≤ 4000) (lp : ps.length ≤ 4000) :
    ∃ xs, m_law_come_to [t, u] [] = .ok (.lst (Is xs), []) ∧ SeenOk n fs xs := by
  subst ht; subst hu
  obtain ⟨z0, s0, a1, a2, nd0, mem0, _⟩ := bi_sset hn hf lf
  obtain ⟨fl, e1, h1⟩ := st_forZ (P := p_law_come_to) (rp := rpD) (n := fuel) (t := .nm 3) (it := .bi .range1 [(.bin .add (.bi .len [(.var 1)]) (.int 1))])
    (b := [.asg (.nm 4) (.bi .sorted [(.bi .set [(.lc (.tup [(.nm 5), (.nm 6)]) (.var 1) [(.cmp .isin (.var 5) (.var 2))] (.var 6))])]), .asg (.nm 4) (.lc (.nm 6) (.var 4) [(.cmp .notin (.var 6) (.var 2))] (.var 6)), .ite (.cmp .eq (.var 4) (.lst [])) [.ret (.bi .sorted [(.var 2)])] [], .asg (.nm 2) (.bin .add (.var 2) (.var 4))])
    (r := [some (.lst (Is fs)), some (.lst (Prs ps)), some (.lst (Is s0)), none, none, none, none]) (r0 := [some (.lst (Is fs)), some (.lst (Prs ps)), some (.lst (Is s0)), none, none, none, none]) (x := .lst (rangeI 0 ((ps.length : Int) + 1))) (ds := rangeI 0 ((ps.length : Int) + 1))
    (by
      have hr := bi_range1 (k := (ps.length : Int) + 1) (by omega) (by omega)
      have hlen : bi rpD .len [.lst (Prs ps)] = .ok (.int ps.length) := by simp only [bi, Prs_len]
      refine ev_bi1 (x := .int ((ps.length : Int) + 1)) ?_ hr
      exact ev_bin (ev_bi1 (x := .lst (Prs ps)) rfl hlen) rfl rfl) rfl
    (fun i r => ∃ xs w3 w4 w5 w6, r = [some (.lst (Is fs)), some (.lst (Prs ps)), some (.lst (Is xs)), w3, w4, w5, w6] ∧ SeenOk n fs xs)
    (fun fl => ∃ xs x1 x2 x3 x4 x5 x6 x7, fl = .ret (.lst (Is xs)) [x1, x2, x3, x4, x5, x6, x7] ∧ SeenOk n fs xs)
    ⟨s0, none, none, none, none, rfl, nd0, fun x hx => hf x ((mem0 x).mp hx), fun f hf => (mem0 f).mpr hf⟩ fun i d r ed ⟨xs, w3, w4, w5, w6, er, so⟩ => by
      subst er
      refine ⟨[some (.lst (Is fs)), some (.lst (Prs ps)), some (.lst (Is xs)), some d, w4, w5, w6], by simp only [sts, st, ev, evs, evc, rd_zero, rd_succ, ok_bind, pure_ok, ofO_some, grd_true, List.set_cons_zero, List.set_cons_succ, getAll, putAll, setT, setTs, List.length_cons, List.length_nil, intOf, Bool.and_true, Bool.true_and, if_true, if_false, Bool.false_eq_true, Nat.zero_add, Nat.reduceAdd, Nat.reduceLT, decide_true, decide_false, true_and, and_true, Int.reduceAdd, Int.reduceLT, Int.reduceNeg], ?_⟩
      obtain ⟨ms, st1, nd1, hm1⟩ := come_more (fs := fs) (xs := xs) (d := d) (w4 := w4) (w5 := w5) (w6 := w6) hn hp lp
      obtain ⟨us, st2, hus⟩ := come_new (fs := fs) (xs := xs) (ps := ps) (d := d) (w5 := w5) (w6 := w6) hn nd1 hm1
      have um : ∀ x ∈ us, x ∈ ms ∧ x ∉ xs := fun x hx => by
        rw [hus] at hx
        have := List.mem_filter.mp hx
        exact ⟨this.1, by simpa using this.2⟩
      have nd' : (xs ++ us).Nodup := List.nodup_append.mpr ⟨so.1, by rw [hus]; exact nd1.filter _, fun a ha b hb z => (um b hb).2 (z ▸ ha)⟩
      have ok' : ∀ x ∈ xs ++ us, Ok1 n x := fun x hx => by
        rcases List.mem_append.mp hx with hx | hx
        · exact so.2.1 x hx
        · exact hm1 x (um x hx).1
      have ln := nodup_len n _ nd' ok'
      rw [List.length_append] at ln
      cases hu : us with
      | nil =>
        rw [hu] at st2
        refine .inr ⟨.lst (Is (sortI xs)), _, sts_nx st1 (sts_nx st2 (sts_ret (st_ite_t (x := .bl true) (r1 := [some (.lst (Is fs)), some (.lst (Prs ps)), some (.lst (Is xs)), some d, some (.lst (Is [])), w5, w6]) ?_ rfl (sts_ret (r1 := [some (.lst (Is fs)), some (.lst (Prs ps)), some (.lst (Is xs)), some d, some (.lst (Is [])), w5, w6]) ?_)))), sortI xs, _, _, _, _, _, _, _, rfl, (sortI_perm xs).nodup_iff.mpr so.1, fun x hx => so.2.1 x ((sortI_perm xs).mem_iff.mp hx), fun f hf => (sortI_perm xs).mem_iff.mpr (so.2.2 f hf)⟩
        · simp only [sts, st, ev, evs, evc, rd_zero, rd_succ, ok_bind, pure_ok, ofO_some, grd_true, List.set_cons_zero, List.set_cons_succ, getAll, putAll, setT, setTs, List.length_cons, List.length_nil, intOf, Bool.and_true, Bool.true_and, if_true, if_false, Bool.false_eq_true, Nat.zero_add, Nat.reduceAdd, Nat.reduceLT, decide_true, decide_false, true_and, and_true, Int.reduceAdd, Int.reduceLT, Int.reduceNeg, eq_nil, List.isEmpty_nil]
        · simp only [sts, st, ev, evs, evc, rd_zero, rd_succ, ok_bind, pure_ok, ofO_some, grd_true, List.set_cons_zero, List.set_cons_succ, getAll, putAll, setT, setTs, List.length_cons, List.length_nil, intOf, Bool.and_true, Bool.true_and, if_true, if_false, Bool.false_eq_true, Nat.zero_add, Nat.reduceAdd, Nat.reduceLT, decide_true, decide_false, true_and, and_true, Int.reduceAdd, Int.reduceLT, Int.reduceNeg, bi, sortOk_Is, sortD_Is]
      | cons u us' =>
        refine .inl ⟨[some (.lst (Is fs)), some (.lst (Prs ps)), some (.lst (Is (xs ++ us))), some d, some (.lst (Is us)), w5, w6], sts_nx st1 (sts_nx st2 (sts_nx (st_ite_f (x := .bl false) (r1 := [some (.lst (Is fs)), some (.lst (Prs ps)), some (.lst (Is xs)), some d, some (.lst (Is us)), w5, w6]) ?_ rfl rfl) (sts_nx (r1 := [some (.lst (Is fs)), some (.lst (Prs ps)), some (.lst (Is (xs ++ us))), some d, some (.lst (Is us)), w5, w6]) ?_ rfl))), xs ++ us, some d, some (.lst (Is us)), w5, w6, rfl, nd', ok', fun f hf => List.mem_append_left _ (so.2.2 f hf)⟩
        · simp only [sts, st, ev, evs, evc, rd_zero, rd_succ, ok_bind, pure_ok, ofO_some, grd_true, List.set_cons_zero, List.set_cons_succ, getAll, putAll, setT, setTs, List.length_cons, List.length_nil, intOf, Bool.and_true, Bool.true_and, if_true, if_false, Bool.false_eq_true, Nat.zero_add, Nat.reduceAdd, Nat.reduceLT, decide_true, decide_false, true_and, and_true, Int.reduceAdd, Int.reduceLT, Int.reduceNeg, eq_nil]
          rw [hu]; rfl
        · have hg : grd (decide ((Is xs).length + (Is us).length ≤ line)) = .ok () := grd_of (decide_eq_true (by rw [Is_len, Is_len]; show _ ≤ 16777216; omega))
          simp only [sts, st, ev, evs, evc, rd_zero, rd_succ, ok_bind, pure_ok, ofO_some, grd_true, List.set_cons_zero, List.set_cons_succ, getAll, putAll, setT, setTs, List.length_cons, List.length_nil, intOf, Bool.and_true, Bool.true_and, if_true, if_false, Bool.false_eq_true, Nat.zero_add, Nat.reduceAdd, Nat.reduceLT, decide_true, decide_false, true_and, and_true, Int.reduceAdd, Int.reduceLT, Int.reduceNeg, binop, hg, Is_app]
  have first : st p_law_come_to rpD fuel (.asg (.nm 2) (.bi .sorted [(.bi .set [(.var 0)])])) [some (.lst (Is fs)), some (.lst (Prs ps)), none, none, none, none, none] = .ok (.nx [some (.lst (Is fs)), some (.lst (Prs ps)), some (.lst (Is s0)), none, none, none, none]) := by
    simp only [sts, st, ev, evs, evc, rd_zero, rd_succ, ok_bind, pure_ok, ofO_some, grd_true, List.set_cons_zero, List.set_cons_succ, getAll, putAll, setT, setTs, List.length_cons, List.length_nil, intOf, Bool.and_true, Bool.true_and, if_true, if_false, Bool.false_eq_true, Nat.zero_add, Nat.reduceAdd, Nat.reduceLT, decide_true, decide_false, true_and, and_true, Int.reduceAdd, Int.reduceLT, Int.reduceNeg, a1, a2]
  rcases h1 with ⟨r', efl, xs, w3, w4, w5, w6, er, so⟩ | ⟨xs, x1, x2, x3, x4, x5, x6, x7, efl, so⟩
  · subst efl; subst er
    refine ⟨sortI xs, run_ok f_law_come_to (r0 := [some (.lst (Is fs)), some (.lst (Prs ps)), none, none, none, none, none]) (r := [some (.lst (Is fs)), some (.lst (Prs ps)), some (.lst (Is xs)), w3, w4, w5, w6]) rfl (sts_nx first (sts_nx e1 (sts_ret ?_))) rfl, (sortI_perm xs).nodup_iff.mpr so.1, fun x hx => so.2.1 x ((sortI_perm xs).mem_iff.mp hx), fun f hf => (sortI_perm xs).mem_iff.mpr (so.2.2 f hf)⟩
    simp only [sts, st, ev, evs, evc, rd_zero, rd_succ, ok_bind, pure_ok, ofO_some, grd_true, List.set_cons_zero, List.set_cons_succ, getAll, putAll, setT, setTs, List.length_cons, List.length_nil, intOf, Bool.and_true, Bool.true_and, if_true, if_false, Bool.false_eq_true, Nat.zero_add, Nat.reduceAdd, Nat.reduceLT, decide_true, decide_false, true_and, and_true, Int.reduceAdd, Int.reduceLT, Int.reduceNeg, bi, sortOk_Is, sortD_Is]
  · subst efl
    exact ⟨xs, run_ok f_law_come_to (r0 := [some (.lst (Is fs)), some (.lst (Prs ps)), none, none, none, none, none]) rfl (sts_nx first (sts_ret e1)) rfl, so⟩
end C

set_option linter.all false
set_option maxHeartbeats 1000000
set_option maxRecDepth 100000
namespace C
open PySem (Str)
theorem Trs_get {ns : List (Int × Int × Int)} {i : Nat} {d : D} (h : (Trs ns)[i]? = some d) : ∃ x y z, ns[i]? = some (x, y, z) ∧ d = .tup [.int x, .int y, .int z] := by
  rw [Trs, List.getElem?_map] at h
  obtain ⟨x, e, rfl⟩ := Option.map_eq_some_iff.mp h
  exact ⟨x.1, x.2.1, x.2.2, e, rfl⟩
theorem Trs_mem {ns : List (Int × Int × Int)} {d : D} (h : d ∈ Trs ns) : ∃ x y z, (x, y, z) ∈ ns ∧ d = .tup [.int x, .int y, .int z] := by
  obtain ⟨x, e, rfl⟩ := List.mem_map.mp h
  exact ⟨x.1, x.2.1, x.2.2, e, rfl⟩
theorem Trs_perm {ds : List D} {ns : List (Int × Int × Int)} (h : ds.Perm (Trs ns)) : ∃ ms, ds = Trs ms ∧ ms.Perm ns := by
  have : ∀ d ∈ ds, ∃ x y z, d = .tup [.int x, .int y, .int z] := fun d hd => by
    obtain ⟨x, y, z, _, rfl⟩ := Trs_mem (h.mem_iff.mp hd)
    exact ⟨x, y, z, rfl⟩
  have key : ∀ (ds : List D), (∀ d ∈ ds, ∃ x y z, d = .tup [.int x, .int y, .int z]) → ∃ ms, ds = Trs ms := by
    intro ds
    induction ds with
    | nil => exact fun _ => ⟨[], rfl⟩
    | cons d r ih =>
      intro h
      obtain ⟨x, y, z, rfl⟩ := h d (by simp)
      obtain ⟨ms, rfl⟩ := ih fun e he => h e (by simp [he])
      exact ⟨(x, y, z) :: ms, rfl⟩
  obtain ⟨ms, rfl⟩ := key ds this
  refine ⟨ms, rfl, ?_⟩
  have := h.filterMap (fun d => match d with | .tup [.int i, .int j, .int k] => some (i, j, k) | _ => none)
  have e : ∀ l : List (Int × Int × Int), (Trs l).filterMap (fun d => match d with | .tup [.int i, .int j, .int k] => some (i, j, k) | _ => none) = l := fun l => by
    induction l with
    | nil => rfl
    | cons a r ih => unfold Trs at *; rw [List.map_cons, List.filterMap_cons, ih]
  rwa [e, e] at this
theorem sortOk_Trs (ts : List (Int × Int × Int)) : grd (sortOk (Trs ts)) = .ok () := by
  refine grd_of ?_
  unfold sortOk tupOk
  rw [Bool.or_eq_true]
  right
  rw [Bool.and_eq_true, List.all_eq_true, List.all_eq_true]
  refine ⟨fun d hd => ?_, fun d hd => ?_⟩
  · obtain ⟨x, y, z, _, rfl⟩ := Trs_mem hd
    exact plTr x y z
  · rw [List.all_eq_true]
    intro e he
    obtain ⟨x, y, z, _, rfl⟩ := Trs_mem hd
    obtain ⟨x', y', z', _, rfl⟩ := Trs_mem he
    simp only [cmpb, cmpbs, Bool.or_true, Bool.and_self]
def KV (m : List (Int × Int)) : List (D × D) := m.map fun p => (.int p.1, .int p.2)
theorem look_KV (k : Int) : ∀ m : List (Int × Int), lookKey (.int k) (KV m) = none ∨ ∃ v, (k, v) ∈ m ∧ lookKey (.int k) (KV m) = some (.int v)
  | [] => .inl rfl
  | (a, v) :: r => by
    show (if eqv (.int a) (.int k) then some (D.int v) else lookKey (.int k) (KV r)) = none ∨ _
    simp only [eqv]
    by_cases h : a = k
    · subst h
      exact .inr ⟨v, by simp, by show (if eqv (.int a) (.int a) then some (D.int v) else _) = _; simp [eqv]⟩
    · have e : lookKey (.int k) (KV ((a, v) :: r)) = lookKey (.int k) (KV r) := by
        show (if eqv (.int a) (.int k) then some (D.int v) else lookKey (.int k) (KV r)) = _
        simp [eqv, h]
      rcases look_KV k r with h1 | ⟨w, h1, h2⟩
      · left; simp [h, h1]
      · exact .inr ⟨w, by simp [h1], by rw [e]; exact h2⟩
theorem put_KV (k v : Int) (m : List (Int × Int)) : ∃ m', putKey (.int k) (.int v) (KV m) = KV m' ∧ m'.length ≤ m.length + 1 ∧ ∀ p ∈ m', p ∈ m ∨ p = (p.1, v) := by
  unfold putKey
  by_cases h : hasKey (.int k) (KV m) = true
  · rw [if_pos h]
    refine ⟨m.map fun p => if p.1 = k then (p.1, v) else p, ?_, by simp, fun p hp => ?_⟩
    · unfold KV
      rw [List.map_map, List.map_map]
      refine List.map_congr_left fun p hp => ?_
      simp only [Function.comp, eqv]
      by_cases e : p.1 = k <;> simp [e]
    · obtain ⟨q, hq, rfl⟩ := List.mem_map.mp hp
      by_cases e : q.1 = k
      · right; simp [e]
      · left; simpa [e] using hq
  · rw [if_neg h]
    refine ⟨m ++ [(k, v)], by simp [KV], by simp, fun p hp => ?_⟩
    rcases List.mem_append.mp hp with hp | hp
    · exact .inl hp
    · right; simp at hp; rw [hp]
theorem numbered_ok {ps : List (Int × Int)} {t : D} (ht : t = .lst (Prs ps)) (hl : ps.length ≤ 1000000) : ∃ ts : List (Int × Int × Int), m_law_numbered [t] [] = .ok (.tup (Trs ts), []) ∧ ts.length = ps.length ∧ ∀ q ∈ ts, (q.1, q.2.2) ∈ ps ∧ 0 ≤ q.2.1 ∧ q.2.1 ≤ ps.length := by
  subst ht
  obtain ⟨r', e1, m, ts, w3, w4, w5, e2, hm, hm2, ht, htl⟩ := st_forI (P := p_law_numbered) (rp := rpD) (n := fuel) (t := .tup [(.nm 3), (.nm 4)]) (it := .var 0) (b := [.asg (.nm 5) (.mt .get2 (.var 1) [(.var 3), (.int 0)]), .mcall .append 2 [] [(.tup [(.var 3), (.var 5), (.var 4)])], .set1 1 (.var 3) (.bin .add (.var 5) (.int 1))])
    (r := [some (.lst (Prs ps)), some (.dct false []), some (.lst []), none, none, none]) (r0 := [some (.lst (Prs ps)), some (.dct false []), some (.lst []), none, none, none]) (x := .lst (Prs ps)) (ds := Prs ps) rfl rfl
    (fun i r => ∃ m ts w3 w4 w5, r = [some (.lst (Prs ps)), some (.dct false (KV m)), some (.lst (Trs ts)), w3, w4, w5] ∧ m.length ≤ i ∧ (∀ p ∈ m, 0 ≤ p.2 ∧ p.2 ≤ i) ∧ (∀ q ∈ ts, (q.1, q.2.2) ∈ ps ∧ 0 ≤ q.2.1 ∧ q.2.1 ≤ ps.length) ∧ ts.length = i)
    ⟨[], [], none, none, none, rfl, by simp, by simp, by simp, by simp⟩ fun i d r ed ⟨m, ts, w3, w4, w5, er, hm, hm2, ht, htl⟩ => by
      subst er
      obtain ⟨x, y, ep, rfl⟩ := Prs_get ed
      have hi := (List.getElem?_eq_some_iff.mp ep).1
      obtain ⟨v, evv, v0, v1⟩ : ∃ v, (lookKey (.int x) (KV m)).getD (.int 0) = .int v ∧ 0 ≤ v ∧ v ≤ i := by
        rcases look_KV x m with h | ⟨v, h, h2⟩
        · exact ⟨0, by rw [h]; rfl, by omega, by omega⟩
        · exact ⟨v, by rw [h2]; rfl, hm2 _ h⟩
      obtain ⟨m', em, hl', hp'⟩ := put_KV x (v + 1) m
      have g1 : grd (isKey false (.int x)) = .ok () := rfl
      have g2 : grd (decide ((Trs ts).length < line)) = .ok () := grd_of (decide_eq_true (by rw [Trs_len]; show _ < 16777216; omega))
      have g3 : grd (isKey false (.int x) && decide ((KV m).length < line)) = .ok () := grd_of (by rw [Bool.and_eq_true]; exact ⟨rfl, decide_eq_true (by rw [KV, List.length_map]; show _ < 16777216; omega)⟩)
      refine ⟨[some (.lst (Prs ps)), some (.dct false (KV m)), some (.lst (Trs ts)), some (.int x), some (.int y), w5], by simp only [sts, st, ev, evs, evc, rd_zero, rd_succ, ok_bind, pure_ok, ofO_some, grd_true, List.set_cons_zero, List.set_cons_succ, getAll, putAll, setT, setTs, List.length_cons, List.length_nil, intOf, Bool.and_true, Bool.true_and, if_true, if_false, Bool.false_eq_true, Nat.zero_add, Nat.reduceAdd, Nat.reduceLT, decide_true, decide_false, true_and, and_true, Int.reduceAdd, Int.reduceLT, Int.reduceNeg], [some (.lst (Prs ps)), some (.dct false (KV m')), some (.lst (Trs (ts ++ [(x, v, y)]))), some (.int x), some (.int y), some (.int v)], ?_, m', ts ++ [(x, v, y)], some (.int x), some (.int y), some (.int v), rfl, by omega, fun p hp => ?_, fun q hq => ?_, by simp [htl]⟩
      · simp only [sts, st, ev, evs, evc, rd_zero, rd_succ, ok_bind, pure_ok, ofO_some, grd_true, List.set_cons_zero, List.set_cons_succ, getAll, putAll, setT, setTs, List.length_cons, List.length_nil, intOf, Bool.and_true, Bool.true_and, if_true, if_false, Bool.false_eq_true, Nat.zero_add, Nat.reduceAdd, Nat.reduceLT, decide_true, decide_false, true_and, and_true, Int.reduceAdd, Int.reduceLT, Int.reduceNeg, mt, g1, evv, isLst, atPath, mu, g2, Trs_snoc, binop, setIx, g3, em]
      · rcases hp' p hp with h | h
        · have := hm2 p h; omega
        · rw [h]; show 0 ≤ v + 1 ∧ v + 1 ≤ _; omega
      · rcases List.mem_append.mp hq with hq | hq
        · exact ht q hq
        · simp at hq; subst hq
          exact ⟨List.mem_of_getElem? ep, v0, by show v ≤ (ps.length : Int); omega⟩
  subst e2
  obtain ⟨us, eu, pu⟩ := Trs_perm (sortD_perm (Trs ts))
  refine ⟨us, run_ok f_law_numbered (r0 := [some (.lst (Prs ps)), none, none, none, none, none]) (r := [some (.lst (Prs ps)), some (.dct false (KV m)), some (.lst (Trs ts)), w3, w4, w5]) rfl (sts_nx (r1 := [some (.lst (Prs ps)), some (.dct false []), some (.lst []), none, none, none]) rfl (sts_nx e1 (sts_ret ?_))) rfl, by rw [pu.length_eq, htl, Prs_len], fun q hq => ht q (pu.mem_iff.mp hq)⟩
  simp only [sts, st, ev, evs, evc, rd_zero, rd_succ, ok_bind, pure_ok, ofO_some, grd_true, List.set_cons_zero, List.set_cons_succ, getAll, putAll, setT, setTs, List.length_cons, List.length_nil, intOf, Bool.and_true, Bool.true_and, if_true, if_false, Bool.false_eq_true, Nat.zero_add, Nat.reduceAdd, Nat.reduceLT, decide_true, decide_false, true_and, and_true, Int.reduceAdd, Int.reduceLT, Int.reduceNeg, bi, sortOk_Trs, seqOf, eu]
end C

set_option linter.all false
set_option maxHeartbeats 1000000
set_option maxRecDepth 100000
namespace C
open PySem (Str)
section
variable {n k : Nat} {wide : Int} {b : D} {x3 x5 x6 x7 x8 x9 x10 x11 x12 : Option D}
theorem pl_some (hn : 0 < n) (hn2 : n ≤ 63) (hw : 0 ≤ wide ∧ wide ≤ 9) (hb : Bag k b) (hk : k < 800000000) :
    ∃ qs b', ev p_law_planted rpD (.lc (.nm 6) (.var 4) [] (.tup [(.var 6), (.call 6 [(.lst [(.int 1), (.int 0), (.int 1), (.int 2), (.var 2)])] [0])])) [some b, some (.int n), some (.int wide), x3, some (.lst (Is (St n))), x5, x6, x7, x8, x9, x10, x11, x12] = .ok (.lst (Prs qs), [some b', some (.int n), some (.int wide), x3, some (.lst (Is (St n))), x5, x6, x7, x8, x9, x10, x11, x12])
      ∧ qs.length = n ∧ (∀ q ∈ qs, Ok1 n q.1 ∧ 0 ≤ q.2 ∧ q.2 ≤ 9) ∧ Bag (k + n) b' := by
  have hP : p_law_planted 6 = m_law_one := rfl
  obtain ⟨acc, r', e1, qs, b', w6, ea, er, hl, hq, hb'⟩ := ev_lcI (P := p_law_planted) (rp := rpD) (t := .nm 6) (it := .var 4) (cs := []) (e := .tup [(.var 6), (.call 6 [(.lst [(.int 1), (.int 0), (.int 1), (.int 2), (.var 2)])] [0])])
    (r := [some b, some (.int n), some (.int wide), x3, some (.lst (Is (St n))), x5, x6, x7, x8, x9, x10, x11, x12]) (r0 := [some b, some (.int n), some (.int wide), x3, some (.lst (Is (St n))), x5, x6, x7, x8, x9, x10, x11, x12]) (x := .lst (Is (St n))) (xs := Is (St n)) rfl rfl
    (fun i acc r => ∃ qs b' w6, acc = Prs qs ∧ r = [some b', some (.int n), some (.int wide), x3, some (.lst (Is (St n))), x5, w6, x7, x8, x9, x10, x11, x12] ∧ qs.length = i ∧ (∀ q ∈ qs, Ok1 n q.1 ∧ 0 ≤ q.2 ∧ q.2 ≤ 9) ∧ Bag (k + i) b')
    ⟨[], b, x6, rfl, rfl, rfl, by simp, hb⟩ fun i d acc r ed ⟨qs, b1, w6, ea, er, hl, hq, hb1⟩ => by
      subst ea; subst er
      obtain ⟨x, ex, rfl⟩ := Is_get ed
      have hi := (List.getElem?_eq_some_iff.mp ex).1
      rw [St_len] at hi
      obtain ⟨y, b2, e, hy, hb2⟩ := one_ok (t := .lst [.int 1, .int 0, .int 1, .int 2, .int wide]) rfl hb1 (by simp) (by simp) (by omega)
      obtain ⟨z, rfl, hz⟩ : ∃ z, y = .int z ∧ 0 ≤ z ∧ z ≤ 9 := by
        simp only [List.mem_cons, List.not_mem_nil, or_false] at hy
        rcases hy with rfl | rfl | rfl | rfl | rfl
        · exact ⟨_, rfl, by omega, by omega⟩
        · exact ⟨_, rfl, by omega, by omega⟩
        · exact ⟨_, rfl, by omega, by omega⟩
        · exact ⟨_, rfl, by omega, by omega⟩
        · exact ⟨_, rfl, hw⟩
      refine ⟨[some b1, some (.int n), some (.int wide), x3, some (.lst (Is (St n))), x5, some (.int x), x7, x8, x9, x10, x11, x12], by simp only [sts, st, ev, evs, evc, rd_zero, rd_succ, ok_bind, pure_ok, ofO_some, grd_true, List.set_cons_zero, List.set_cons_succ, getAll, putAll, setT, setTs, List.length_cons, List.length_nil, intOf, Bool.and_true, Bool.true_and, if_true, if_false, Bool.false_eq_true, Nat.zero_add, Nat.reduceAdd, Nat.reduceLT, decide_true, decide_false, true_and, and_true, Int.reduceAdd, Int.reduceLT, Int.reduceNeg, clr, Tg.slots], .inr ⟨[some b1, some (.int n), some (.int wide), x3, some (.lst (Is (St n))), x5, some (.int x), x7, x8, x9, x10, x11, x12], .tup [.int x, .int z], [some b2, some (.int n), some (.int wide), x3, some (.lst (Is (St n))), x5, some (.int x), x7, x8, x9, x10, x11, x12], rfl, ?_, ?_, qs ++ [(x, z)], b2, some (.int x), (Prs_snoc _ _ _), rfl, by simp [hl], fun q hq' => ?_, hb2⟩⟩
      · simp only [sts, st, ev, evs, evc, rd_zero, rd_succ, ok_bind, pure_ok, ofO_some, grd_true, List.set_cons_zero, List.set_cons_succ, getAll, putAll, setT, setTs, List.length_cons, List.length_nil, intOf, Bool.and_true, Bool.true_and, if_true, if_false, Bool.false_eq_true, Nat.zero_add, Nat.reduceAdd, Nat.reduceLT, decide_true, decide_false, true_and, and_true, Int.reduceAdd, Int.reduceLT, Int.reduceNeg, hP, e]
      · rw [Prs_len, hl]; show i < 16777216; omega
      · rcases List.mem_append.mp hq' with h | h
        · exact hq q h
        · simp at h; subst h; exact ⟨St_mem (List.mem_of_getElem? ex), hz⟩
  subst ea; subst er
  rw [Is_len, St_len] at hl hb'
  exact ⟨qs, b', by rw [e1]; rfl, hl, hq, hb'⟩
theorem one_St (hn : 0 < n) (hn2 : n ≤ 63) (hb : Bag k b) (hk : k < 900000000) : ∃ z b', m_law_one [.lst (Is (St n))] [b] = .ok (.int z, [b']) ∧ Ok1 n z ∧ Bag (k + 1) b' := by
  obtain ⟨y, b', e, hy, hb'⟩ := one_ok (t := .lst (Is (St n))) rfl hb (fun z => by have := congrArg List.length z; rw [Is_len, St_len] at this; simp at this; omega) (by rw [Is_len, St_len]; omega) (by omega)
  obtain ⟨z, hz, rfl⟩ := Is_mem hy
  exact ⟨z, b', e, St_mem hz, hb'⟩
theorem pl_row {s m : Int} (hn : 0 < n) (hn2 : n ≤ 63) (hs : Ok1 n s) (hm : 0 ≤ m ∧ m ≤ 9) (hb : Bag k b) (hk : k < 800000000) :
    ∃ qs b', ev p_law_planted rpD (.lc (.nm 8) (.bi .range1 [(.var 7)]) [] (.tup [(.var 6), (.call 6 [(.var 4)] [0])])) [some b, some (.int n), some (.int wide), x3, some (.lst (Is (St n))), x5, some (.int s), some (.int m), x8, x9, x10, x11, x12] = .ok (.lst (Prs qs), [some b', some (.int n), some (.int wide), x3, some (.lst (Is (St n))), x5, some (.int s), some (.int m), x8, x9, x10, x11, x12])
      ∧ qs.length ≤ 9 ∧ (∀ q ∈ qs, Ok2 n q) ∧ Bag (k + 9) b' := by
  have hP : p_law_planted 6 = m_law_one := rfl
  have hlr : (rangeI 0 m).length ≤ 9 := by simp [rangeI]; omega
  obtain ⟨acc, r', e1, qs, b', w8, ea, er, hl, hq, hb'⟩ := ev_lcI (P := p_law_planted) (rp := rpD) (t := .nm 8) (it := .bi .range1 [(.var 7)]) (cs := []) (e := .tup [(.var 6), (.call 6 [(.var 4)] [0])])
    (r := [some b, some (.int n), some (.int wide), x3, some (.lst (Is (St n))), x5, some (.int s), some (.int m), x8, x9, x10, x11, x12]) (r0 := [some b, some (.int n), some (.int wide), x3, some (.lst (Is (St n))), x5, some (.int s), some (.int m), x8, x9, x10, x11, x12]) (x := .lst (rangeI 0 m)) (xs := rangeI 0 m) (ev_bi1 (x := .int m) rfl (bi_range1 (by omega) (by omega))) rfl
    (fun i acc r => ∃ qs b' w8, acc = Prs qs ∧ r = [some b', some (.int n), some (.int wide), x3, some (.lst (Is (St n))), x5, some (.int s), some (.int m), w8, x9, x10, x11, x12] ∧ qs.length = i ∧ (∀ q ∈ qs, Ok2 n q) ∧ Bag (k + i) b')
    ⟨[], b, x8, rfl, rfl, rfl, by simp, hb⟩ fun i d acc r ed ⟨qs, b1, w8, ea, er, hl, hq, hb1⟩ => by
      subst ea; subst er
      have hi := (List.getElem?_eq_some_iff.mp ed).1
      obtain ⟨z, b2, e, hz, hb2⟩ := one_St hn hn2 hb1 (by omega)
      refine ⟨[some b1, some (.int n), some (.int wide), x3, some (.lst (Is (St n))), x5, some (.int s), some (.int m), some d, x9, x10, x11, x12], by simp only [sts, st, ev, evs, evc, rd_zero, rd_succ, ok_bind, pure_ok, ofO_some, grd_true, List.set_cons_zero, List.set_cons_succ, getAll, putAll, setT, setTs, List.length_cons, List.length_nil, intOf, Bool.and_true, Bool.true_and, if_true, if_false, Bool.false_eq_true, Nat.zero_add, Nat.reduceAdd, Nat.reduceLT, decide_true, decide_false, true_and, and_true, Int.reduceAdd, Int.reduceLT, Int.reduceNeg, clr, Tg.slots], .inr ⟨[some b1, some (.int n), some (.int wide), x3, some (.lst (Is (St n))), x5, some (.int s), some (.int m), some d, x9, x10, x11, x12], .tup [.int s, .int z], [some b2, some (.int n), some (.int wide), x3, some (.lst (Is (St n))), x5, some (.int s), some (.int m), some d, x9, x10, x11, x12], rfl, ?_, ?_, qs ++ [(s, z)], b2, some d, (Prs_snoc _ _ _), rfl, by simp [hl], fun q hq' => ?_, hb2⟩⟩
      · simp only [sts, st, ev, evs, evc, rd_zero, rd_succ, ok_bind, pure_ok, ofO_some, grd_true, List.set_cons_zero, List.set_cons_succ, getAll, putAll, setT, setTs, List.length_cons, List.length_nil, intOf, Bool.and_true, Bool.true_and, if_true, if_false, Bool.false_eq_true, Nat.zero_add, Nat.reduceAdd, Nat.reduceLT, decide_true, decide_false, true_and, and_true, Int.reduceAdd, Int.reduceLT, Int.reduceNeg, hP, e]
      · rw [Prs_len, hl]; show i < 16777216; omega
      · rcases List.mem_append.mp hq' with h | h
        · exact hq q h
        · simp at h; subst h; exact ⟨hs, hz⟩
  subst ea; subst er
  exact ⟨qs, b', by rw [e1]; rfl, by omega, hq, hb'.le (by omega)⟩
theorem flat_len {α : Type} {m : Nat} : ∀ {rs : List (List α)}, (∀ r ∈ rs, r.length ≤ m) → rs.flatten.length ≤ rs.length * m
  | [], _ => by simp
  | r :: rs, h => by
    have h1 := h r (by simp)
    have h2 := flat_len (rs := rs) fun x hx => h x (by simp [hx])
    simp only [List.flatten_cons, List.length_append, List.length_cons, Nat.add_mul]
    omega
def Rows (rs : List (List (Int × Int))) : List D := rs.map fun r => .lst (Prs r)
theorem Rows_snoc (rs : List (List (Int × Int))) (r : List (Int × Int)) : Rows rs ++ [.lst (Prs r)] = Rows (rs ++ [r]) := by simp [Rows]
theorem flat_Rows {rs : List (List (Int × Int))} {t : D} (ht : t = .lst (Rows rs)) (hl : rs.flatten.length ≤ 1000000) : m_law_flat [t] [] = .ok (.lst (Prs rs.flatten), []) := by
  have e : (rs.map Prs).flatten = Prs rs.flatten := by unfold Prs; rw [List.map_flatten]
  have := flat_ok (rows := rs.map Prs) (t := t) (by rw [ht, List.map_map]; rfl) (by rw [e, Prs_len]; exact hl)
  rw [e] at this
  exact this
theorem pl_rows {qs : List (Int × Int)} (hn : 0 < n) (hn2 : n ≤ 63) (hql : qs.length = n) (hqs : ∀ q ∈ qs, Ok1 n q.1 ∧ 0 ≤ q.2 ∧ q.2 ≤ 9) (hb : Bag k b) (hk : k < 700000000) :
    ∃ rs b', ev p_law_planted rpD (.lc (.tup [(.nm 6), (.nm 7)]) (.var 5) [] (.lc (.nm 8) (.bi .range1 [(.var 7)]) [] (.tup [(.var 6), (.call 6 [(.var 4)] [0])]))) [some b, some (.int n), some (.int wide), x3, some (.lst (Is (St n))), some (.lst (Prs qs)), x6, x7, x8, x9, x10, x11, x12] = .ok (.lst (Rows rs), [some b', some (.int n), some (.int wide), x3, some (.lst (Is (St n))), some (.lst (Prs qs)), x6, x7, x8, x9, x10, x11, x12])
      ∧ rs.length = n ∧ (∀ r ∈ rs, r.length ≤ 9 ∧ ∀ q ∈ r, Ok2 n q) ∧ Bag (k + 9 * n) b' := by
  obtain ⟨acc, r', e1, rs, b', w6, w7, ea, er, hl, hq, hb'⟩ := ev_lcI (P := p_law_planted) (rp := rpD) (t := .tup [(.nm 6), (.nm 7)]) (it := .var 5) (cs := []) (e := .lc (.nm 8) (.bi .range1 [(.var 7)]) [] (.tup [(.var 6), (.call 6 [(.var 4)] [0])]))
    (r := [some b, some (.int n), some (.int wide), x3, some (.lst (Is (St n))), some (.lst (Prs qs)), x6, x7, x8, x9, x10, x11, x12]) (r0 := [some b, some (.int n), some (.int wide), x3, some (.lst (Is (St n))), some (.lst (Prs qs)), x6, x7, x8, x9, x10, x11, x12]) (x := .lst (Prs qs)) (xs := Prs qs) rfl rfl
    (fun i acc r => ∃ rs b' w6 w7, acc = Rows rs ∧ r = [some b', some (.int n), some (.int wide), x3, some (.lst (Is (St n))), some (.lst (Prs qs)), w6, w7, x8, x9, x10, x11, x12] ∧ rs.length = i ∧ (∀ r ∈ rs, r.length ≤ 9 ∧ ∀ q ∈ r, Ok2 n q) ∧ Bag (k + 9 * i) b')
    ⟨[], b, x6, x7, rfl, rfl, rfl, by simp, hb⟩ fun i d acc r ed ⟨rs, b1, w6, w7, ea, er, hl, hq, hb1⟩ => by
      subst ea; subst er
      obtain ⟨x, y, ex, rfl⟩ := Prs_get ed
      have hi := (List.getElem?_eq_some_iff.mp ex).1
      obtain ⟨h1, h2⟩ := hqs _ (List.mem_of_getElem? ex)
      obtain ⟨q1, b2, e, hl1, hq1, hb2⟩ := pl_row (k := k + 9 * i) (wide := wide) (x3 := x3) (x5 := some (.lst (Prs qs))) (x8 := x8) (x9 := x9) (x10 := x10) (x11 := x11) (x12 := x12) hn hn2 h1 h2 hb1 (by omega)
      refine ⟨[some b1, some (.int n), some (.int wide), x3, some (.lst (Is (St n))), some (.lst (Prs qs)), some (.int x), some (.int y), x8, x9, x10, x11, x12], by simp only [sts, st, ev, evs, evc, rd_zero, rd_succ, ok_bind, pure_ok, ofO_some, grd_true, List.set_cons_zero, List.set_cons_succ, getAll, putAll, setT, setTs, List.length_cons, List.length_nil, intOf, Bool.and_true, Bool.true_and, if_true, if_false, Bool.false_eq_true, Nat.zero_add, Nat.reduceAdd, Nat.reduceLT, decide_true, decide_false, true_and, and_true, Int.reduceAdd, Int.reduceLT, Int.reduceNeg, clr, Tg.slots, Tg.slotss, List.append_nil, List.cons_append, List.nil_append], .inr ⟨[some b1, some (.int n), some (.int wide), x3, some (.lst (Is (St n))), some (.lst (Prs qs)), some (.int x), some (.int y), x8, x9, x10, x11, x12], .lst (Prs q1), [some b2, some (.int n), some (.int wide), x3, some (.lst (Is (St n))), some (.lst (Prs qs)), some (.int x), some (.int y), x8, x9, x10, x11, x12], rfl, e, ?_, rs ++ [q1], b2, some (.int x), some (.int y), (Rows_snoc _ _), rfl, by simp [hl], fun q hq' => ?_, hb2.le (by omega)⟩⟩
      · rw [Rows, List.length_map, hl]; show i < 16777216; omega
      · rcases List.mem_append.mp hq' with h | h
        · exact hq q h
        · simp at h; subst h; exact ⟨hl1, hq1⟩
  subst ea; subst er
  rw [Prs_len, hql] at hl hb'
  exact ⟨rs, b', by rw [e1]; rfl, hl, hq, hb'⟩
theorem St_cut1 (hn : 0 < n) {x : Int} (h : x ∈ cut (St n) (some 1) none) : 1 ≤ x ∧ x < n := by
  have h0 := St_mem (cut_mem h)
  refine ⟨?_, h0.2⟩
  have h1 := List.mem_of_mem_take h
  rw [St_len, show sIx n 0 (some 1) = 1 by simp only [sIx]; rw [if_neg (by decide)]; show min 1 n = 1; omega] at h1
  obtain ⟨j, hj⟩ := List.mem_iff_getElem?.mp h1
  rw [List.getElem?_drop, St, List.getElem?_map] at hj
  obtain ⟨y, ey, rfl⟩ := Option.map_eq_some_iff.mp hj
  have : (List.range n)[1 + j]? = some y := ey
  rw [List.getElem?_range (by have := (List.getElem?_eq_some_iff.mp this).1; simpa using this)] at this
  injection this with this
  omega
theorem pl_two (hn : 0 < n) (hn2 : n ≤ 63) (hb : Bag k b) (hk : k < 800000000) :
    ∃ qs b', ev p_law_planted rpD (.lc (.nm 6) (.slc (.var 4) [(.int 1)] []) [] (.tup [(.var 6), (.call 5 [(.var 6)] [0])])) [some b, some (.int n), some (.int wide), x3, some (.lst (Is (St n))), x5, x6, x7, x8, x9, x10, x11, x12] = .ok (.lst (Prs qs), [some b', some (.int n), some (.int wide), x3, some (.lst (Is (St n))), x5, x6, x7, x8, x9, x10, x11, x12])
      ∧ qs.length ≤ n ∧ (∀ q ∈ qs, Ok2 n q) ∧ Bag (k + n) b' := by
  have hP : p_law_planted 5 = m_law_take := rfl
  have hcl := cut_len (St n) (some 1) none
  rw [St_len] at hcl
  have hc : cut (Is (St n)) (some 1) none = Is (cut (St n) (some 1) none) := cut_map _ _ _ _
  obtain ⟨acc, r', e1, qs, b', w6, ea, er, hl, hq, hb'⟩ := ev_lcI (P := p_law_planted) (rp := rpD) (t := .nm 6) (it := .slc (.var 4) [(.int 1)] []) (cs := []) (e := .tup [(.var 6), (.call 5 [(.var 6)] [0])])
    (r := [some b, some (.int n), some (.int wide), x3, some (.lst (Is (St n))), x5, x6, x7, x8, x9, x10, x11, x12]) (r0 := [some b, some (.int n), some (.int wide), x3, some (.lst (Is (St n))), x5, x6, x7, x8, x9, x10, x11, x12]) (x := .lst (Is (cut (St n) (some 1) none))) (xs := Is (cut (St n) (some 1) none))
    (by simp only [sts, st, ev, evs, evc, rd_zero, rd_succ, ok_bind, pure_ok, ofO_some, grd_true, List.set_cons_zero, List.set_cons_succ, getAll, putAll, setT, setTs, List.length_cons, List.length_nil, intOf, Bool.and_true, Bool.true_and, if_true, if_false, Bool.false_eq_true, Nat.zero_add, Nat.reduceAdd, Nat.reduceLT, decide_true, decide_false, true_and, and_true, Int.reduceAdd, Int.reduceLT, Int.reduceNeg, binop, index, slice, cmpop, truth, bi, intsD, List.head?_cons, List.head?_nil, setIx, isInt, mu, lstOf, hc]) rfl
    (fun i acc r => ∃ qs b' w6, acc = Prs qs ∧ r = [some b', some (.int n), some (.int wide), x3, some (.lst (Is (St n))), x5, w6, x7, x8, x9, x10, x11, x12] ∧ qs.length = i ∧ (∀ q ∈ qs, Ok2 n q) ∧ Bag (k + i) b')
    ⟨[], b, x6, rfl, rfl, rfl, by simp, hb⟩ fun i d acc r ed ⟨qs, b1, w6, ea, er, hl, hq, hb1⟩ => by
      subst ea; subst er
      obtain ⟨x, ex, rfl⟩ := Is_get ed
      have hi := (List.getElem?_eq_some_iff.mp ex).1
      obtain ⟨hx1, hx2⟩ := St_cut1 hn (List.mem_of_getElem? ex)
      obtain ⟨z, b2, e, z0, z1, hb2⟩ := take_ok hb1 (n := x) (by omega) (by omega) (by omega)
      refine ⟨[some b1, some (.int n), some (.int wide), x3, some (.lst (Is (St n))), x5, some (.int x), x7, x8, x9, x10, x11, x12], by simp only [sts, st, ev, evs, evc, rd_zero, rd_succ, ok_bind, pure_ok, ofO_some, grd_true, List.set_cons_zero, List.set_cons_succ, getAll, putAll, setT, setTs, List.length_cons, List.length_nil, intOf, Bool.and_true, Bool.true_and, if_true, if_false, Bool.false_eq_true, Nat.zero_add, Nat.reduceAdd, Nat.reduceLT, decide_true, decide_false, true_and, and_true, Int.reduceAdd, Int.reduceLT, Int.reduceNeg, clr, Tg.slots], .inr ⟨[some b1, some (.int n), some (.int wide), x3, some (.lst (Is (St n))), x5, some (.int x), x7, x8, x9, x10, x11, x12], .tup [.int x, .int z], [some b2, some (.int n), some (.int wide), x3, some (.lst (Is (St n))), x5, some (.int x), x7, x8, x9, x10, x11, x12], rfl, ?_, ?_, qs ++ [(x, z)], b2, some (.int x), (Prs_snoc _ _ _), rfl, by simp [hl], fun q hq' => ?_, hb2⟩⟩
      · simp only [sts, st, ev, evs, evc, rd_zero, rd_succ, ok_bind, pure_ok, ofO_some, grd_true, List.set_cons_zero, List.set_cons_succ, getAll, putAll, setT, setTs, List.length_cons, List.length_nil, intOf, Bool.and_true, Bool.true_and, if_true, if_false, Bool.false_eq_true, Nat.zero_add, Nat.reduceAdd, Nat.reduceLT, decide_true, decide_false, true_and, and_true, Int.reduceAdd, Int.reduceLT, Int.reduceNeg, hP, e]
      · rw [Prs_len, hl]; show i < 16777216; omega
      · rcases List.mem_append.mp hq' with h | h
        · exact hq q h
        · simp at h; subst h; exact ⟨⟨by show 0 ≤ x; omega, hx2⟩, z0, by show z < n; omega⟩
  subst ea; subst er
  rw [Is_len] at hl hb'
  exact ⟨qs, b', by rw [e1]; rfl, by omega, hq, hb'.le (by omega)⟩
end
theorem zip_Is : ∀ (xs ys : List Int), zipD (Is xs) (Is ys) = Prs (xs.zip ys)
  | [], _ => by simp [Is, zipD, Prs]
  | _ :: _, [] => by simp [Is, zipD, Prs]
  | x :: xs, y :: ys => by
    show D.tup [.int x, .int y] :: zipD (Is xs) (Is ys) = _
    rw [zip_Is xs ys]; rfl
theorem rep_Prs (k : Int) (ps : List (Int × Int)) : rep k (Prs ps) = Prs (List.replicate k.toNat ps).flatten := by
  unfold rep Prs
  rw [List.map_flatten, List.map_replicate]
theorem zip_ok {n : Nat} {xs ys : List Int} (hx : ∀ x ∈ xs, Ok1 n x) (hy : ∀ y ∈ ys, Ok1 n y) : ∀ p ∈ xs.zip ys, Ok2 n p := fun p hp => ⟨hx _ (List.of_mem_zip hp).1, hy _ (List.of_mem_zip hp).2⟩
end C

set_option linter.all false
set_option maxHeartbeats 1000000
set_option maxRecDepth 100000
namespace C
open PySem (Str)
theorem cut_lo_len {α : Type} {xs : List α} {c : Int} (h : 0 ≤ c) : (cut xs none (some c)).length = min c.toNat xs.length := by
  simp only [cut, sIx, if_neg (show ¬ c < 0 by omega), List.drop_zero, List.length_take]
  omega
theorem cut_hi_len {α : Type} {xs : List α} {c : Int} (h : 0 ≤ c) : (cut xs (some c) none).length = xs.length - min c.toNat xs.length := by
  simp only [cut, sIx, if_neg (show ¬ c < 0 by omega), List.length_take, List.length_drop]
  omega
theorem gt_int (x y : Int) : cmpop .gt (.int x) (.int y) = .ok (decide (y < x)) := rfl
section
variable {n k : Nat} {wide : Int} {b : D} {x3 x5 x6 x7 x8 x9 x10 x11 x12 : Option D}
theorem pl_rings {way many : Int} {A B : List Int} (hA : ∀ x ∈ A, Ok1 n x) (hB : ∀ x ∈ B, Ok1 n x) (la : A.length ≤ 63) (lb : B.length ≤ 63) (hm : 1 ≤ many ∧ many ≤ 2) :
    ∃ rs, ev p_law_planted rpD (.lc (.nm 12) (.var 10) [] (.bin .mul (.bi .lzip [(.var 12), (.bin .add (.slc (.var 12) [(.int 1)] []) (.slc (.var 12) [] [(.int 1)]))]) (.ife (.cmp .eq (.var 3) (.int 4)) (.var 7) (.int 1)))) [some b, some (.int n), some (.int wide), some (.int way), some (.lst (Is (St n))), x5, x6, some (.int many), x8, x9, some (.lst [.lst (Is A), .lst (Is B)]), x11, x12] = .ok (.lst (Rows rs), [some b, some (.int n), some (.int wide), some (.int way), some (.lst (Is (St n))), x5, x6, some (.int many), x8, x9, some (.lst [.lst (Is A), .lst (Is B)]), x11, x12])
      ∧ rs.length = 2 ∧ ∀ r ∈ rs, r.length ≤ 126 ∧ ∀ q ∈ r, Ok2 n q := by
  obtain ⟨acc, r', e1, rs, w12, ea, er, hl, hq⟩ := ev_lcI (P := p_law_planted) (rp := rpD) (t := .nm 12) (it := .var 10) (cs := []) (e := .bin .mul (.bi .lzip [(.var 12), (.bin .add (.slc (.var 12) [(.int 1)] []) (.slc (.var 12) [] [(.int 1)]))]) (.ife (.cmp .eq (.var 3) (.int 4)) (.var 7) (.int 1)))
    (r := [some b, some (.int n), some (.int wide), some (.int way), some (.lst (Is (St n))), x5, x6, some (.int many), x8, x9, some (.lst [.lst (Is A), .lst (Is B)]), x11, x12]) (r0 := [some b, some (.int n), some (.int wide), some (.int way), some (.lst (Is (St n))), x5, x6, some (.int many), x8, x9, some (.lst [.lst (Is A), .lst (Is B)]), x11, x12]) (x := .lst [.lst (Is A), .lst (Is B)]) (xs := [.lst (Is A), .lst (Is B)]) rfl rfl
    (fun i acc r => ∃ rs w12, acc = Rows rs ∧ r = [some b, some (.int n), some (.int wide), some (.int way), some (.lst (Is (St n))), x5, x6, some (.int many), x8, x9, some (.lst [.lst (Is A), .lst (Is B)]), x11, w12] ∧ rs.length = i ∧ ∀ r ∈ rs, r.length ≤ 126 ∧ ∀ q ∈ r, Ok2 n q)
    ⟨[], x12, rfl, rfl, rfl, by simp⟩ fun i d acc r ed ⟨rs, w12, ea, er, hl, hq⟩ => by
      subst ea; subst er
      obtain ⟨X, rfl, hX, lX⟩ : ∃ X, d = .lst (Is X) ∧ (∀ x ∈ X, Ok1 n x) ∧ X.length ≤ 63 := by
        have := List.mem_of_getElem? ed
        simp only [List.mem_cons, List.not_mem_nil, or_false] at this
        rcases this with rfl | rfl
        · exact ⟨A, rfl, hA, la⟩
        · exact ⟨B, rfl, hB, lb⟩
      have hi := (List.getElem?_eq_some_iff.mp ed).1
      have hi : i < 2 := hi
      obtain ⟨Y, hY⟩ : ∃ Y, cut X (some 1) none ++ cut X none (some 1) = Y := ⟨_, rfl⟩
      have hY1 : ∀ y ∈ Y, Ok1 n y := fun y hy => by
        rw [← hY] at hy
        rcases List.mem_append.mp hy with h | h <;> exact hX y (cut_mem h)
      have c1 := cut_len X (some 1) none
      have c2 := cut_len X none (some 1)
      have c3 : cut (Is X) (some 1) none = Is (cut X (some 1) none) := cut_map _ _ _ _
      have c4 : cut (Is X) none (some 1) = Is (cut X none (some 1)) := cut_map _ _ _ _
      have g1 : grd (decide ((Is (cut X (some 1) none)).length + (Is (cut X none (some 1))).length ≤ line)) = .ok () := grd_of (decide_eq_true (by rw [Is_len, Is_len]; show _ ≤ 16777216; omega))
      obtain ⟨q, hq1, hq2, eq⟩ : ∃ q : Int, 1 ≤ q ∧ q ≤ 2 ∧ ev p_law_planted rpD (.ife (.cmp .eq (.var 3) (.int 4)) (.var 7) (.int 1)) [some b, some (.int n), some (.int wide), some (.int way), some (.lst (Is (St n))), x5, x6, some (.int many), x8, x9, some (.lst [.lst (Is A), .lst (Is B)]), x11, some (.lst (Is X))] = .ok (.int q, [some b, some (.int n), some (.int wide), some (.int way), some (.lst (Is (St n))), x5, x6, some (.int many), x8, x9, some (.lst [.lst (Is A), .lst (Is B)]), x11, some (.lst (Is X))]) := by
        by_cases h : way = 4
        · exact ⟨many, hm.1, hm.2, by simp only [sts, st, ev, evs, evc, rd_zero, rd_succ, ok_bind, pure_ok, ofO_some, grd_true, List.set_cons_zero, List.set_cons_succ, getAll, putAll, setT, setTs, List.length_cons, List.length_nil, intOf, Bool.and_true, Bool.true_and, if_true, if_false, Bool.false_eq_true, Nat.zero_add, Nat.reduceAdd, Nat.reduceLT, decide_true, decide_false, true_and, and_true, Int.reduceAdd, Int.reduceLT, Int.reduceNeg, eq_int, truth, h]⟩
        · exact ⟨1, by omega, by omega, by simp only [sts, st, ev, evs, evc, rd_zero, rd_succ, ok_bind, pure_ok, ofO_some, grd_true, List.set_cons_zero, List.set_cons_succ, getAll, putAll, setT, setTs, List.length_cons, List.length_nil, intOf, Bool.and_true, Bool.true_and, if_true, if_false, Bool.false_eq_true, Nat.zero_add, Nat.reduceAdd, Nat.reduceLT, decide_true, decide_false, true_and, and_true, Int.reduceAdd, Int.reduceLT, Int.reduceNeg, eq_int, truth, h]⟩
      have lz : (X.zip Y).length ≤ 63 := by rw [List.length_zip]; omega
      have lz2 : (X.zip Y).length * q.toNat ≤ 126 := Nat.le_trans (Nat.mul_le_mul lz (show q.toNat ≤ 2 by omega)) (by omega)
      have g2 : grd (decide (q < 2 ^ 63 ∧ -(2 ^ 63) ≤ q ∧ (Prs (X.zip Y)).length * q.toNat ≤ line)) = .ok () := grd_of (decide_eq_true ⟨by omega, by omega, by rw [Prs_len]; show _ ≤ 16777216; omega⟩)
      refine ⟨[some b, some (.int n), some (.int wide), some (.int way), some (.lst (Is (St n))), x5, x6, some (.int many), x8, x9, some (.lst [.lst (Is A), .lst (Is B)]), x11, some (.lst (Is X))], by simp only [sts, st, ev, evs, evc, rd_zero, rd_succ, ok_bind, pure_ok, ofO_some, grd_true, List.set_cons_zero, List.set_cons_succ, getAll, putAll, setT, setTs, List.length_cons, List.length_nil, intOf, Bool.and_true, Bool.true_and, if_true, if_false, Bool.false_eq_true, Nat.zero_add, Nat.reduceAdd, Nat.reduceLT, decide_true, decide_false, true_and, and_true, Int.reduceAdd, Int.reduceLT, Int.reduceNeg, clr, Tg.slots], .inr ⟨[some b, some (.int n), some (.int wide), some (.int way), some (.lst (Is (St n))), x5, x6, some (.int many), x8, x9, some (.lst [.lst (Is A), .lst (Is B)]), x11, some (.lst (Is X))], .lst (Prs (List.replicate q.toNat (X.zip Y)).flatten), [some b, some (.int n), some (.int wide), some (.int way), some (.lst (Is (St n))), x5, x6, some (.int many), x8, x9, some (.lst [.lst (Is A), .lst (Is B)]), x11, some (.lst (Is X))], rfl, ?_, ?_, rs ++ [(List.replicate q.toNat (X.zip Y)).flatten], some (.lst (Is X)), (Rows_snoc _ _), rfl, by simp [hl], fun r hr => ?_⟩⟩
      · generalize E.ife _ _ _ = z at eq ⊢
        simp only [sts, st, ev, evs, evc, rd_zero, rd_succ, ok_bind, pure_ok, ofO_some, grd_true, List.set_cons_zero, List.set_cons_succ, getAll, putAll, setT, setTs, List.length_cons, List.length_nil, intOf, Bool.and_true, Bool.true_and, if_true, if_false, Bool.false_eq_true, Nat.zero_add, Nat.reduceAdd, Nat.reduceLT, decide_true, decide_false, true_and, and_true, Int.reduceAdd, Int.reduceLT, Int.reduceNeg, binop, index, slice, cmpop, truth, bi, intsD, List.head?_cons, List.head?_nil, setIx, isInt, mu, lstOf, c3, c4, g1, Is_app, hY, zip_Is, eq, g2, rep_Prs]
      · rw [Rows, List.length_map, hl]; show i < 16777216; omega
      · rcases List.mem_append.mp hr with h | h
        · exact hq r h
        · simp only [List.mem_singleton] at h
          subst h
          refine ⟨?_, fun p hp => ?_⟩
          · rw [List.length_flatten, List.map_replicate, List.sum_replicate_nat, Nat.mul_comm]
            exact lz2
          · obtain ⟨l, hl1, hl2⟩ := List.mem_flatten.mp hp
            rw [(List.mem_replicate.mp hl1).2] at hl2
            exact zip_ok hX hY1 p hl2
  subst ea; subst er
  exact ⟨rs, by rw [e1]; rfl, hl, hq⟩
theorem ev_stands (hn2 : n ≤ 63) {P : Fs} {i : Nat} {r : Env} (h : rd r i = .ok (.int n)) : ev P rpD (.bi .list [(.bi .range1 [(.var i)])]) r = .ok (.lst (Is (St n)), r) :=
  ev_bi1 (ev_bi1 (ev_var h) (bi_range1 (by omega) (by omega))) (by rw [range_St]; rfl)
theorem planted_ok (hn : 0 < n) (hn2 : n ≤ 63) (hw : 1 ≤ wide ∧ wide ≤ 9) (hb : Bag k b) (hk : k < 600000000) : ∃ ps b', m_law_planted [.int n, .int wide] [b] = .ok (.lst (Prs ps), [b']) ∧ (∀ p ∈ ps, Ok2 n p) ∧ ps.length ≤ 9 * n + 253 ∧ Bag (k + 1000) b' := by
  have hP5 : p_law_planted 5 = m_law_take := rfl
  have hP6 : p_law_planted 6 = m_law_one := rfl
  have hP7 : p_law_planted 7 = m_law_mixed := rfl
  have hP9 : p_law_planted 9 = m_law_flat := rfl
  obtain ⟨way, b1, e, w0, w1, hb1⟩ := take_ok hb (n := 6) (by omega) (by omega) (by omega)
  have hs := fun (i : Nat) (r : Env) (h : rd r i = .ok (.int n)) => ev_stands (P := p_law_planted) hn2 h
  have st1 : st p_law_planted rpD fuel (.par [3, 4] [(.call 5 [(.int 6)] [0]), (.bi .list [(.bi .range1 [(.var 1)])])]) [some b, some (.int n), some (.int wide), none, none, none, none, none, none, none, none, none, none] = .ok (.nx [some b1, some (.int n), some (.int wide), some (.int way), some (.lst (Is (St n))), none, none, none, none, none, none, none, none]) := by
    have h1 := hs 1 [some b1, some (.int n), some (.int wide), none, none, none, none, none, none, none, none, none, none] rfl
    generalize E.bi Bi.list _ = z at h1 ⊢
    simp only [sts, st, ev, evs, evc, rd_zero, rd_succ, ok_bind, pure_ok, ofO_some, grd_true, List.set_cons_zero, List.set_cons_succ, getAll, putAll, setT, setTs, List.length_cons, List.length_nil, intOf, Bool.and_true, Bool.true_and, if_true, if_false, Bool.false_eq_true, Nat.zero_add, Nat.reduceAdd, Nat.reduceLT, decide_true, decide_false, true_and, and_true, Int.reduceAdd, Int.reduceLT, Int.reduceNeg, hP5, e, h1]
  by_cases c2 : way < 2
  · obtain ⟨qs, b2, e2, ql, hq, hb2⟩ := pl_some (x3 := some (.int way)) (x5 := none) (x6 := none) (x7 := none) (x8 := none) (x9 := none) (x10 := none) (x11 := none) (x12 := none) hn hn2 (wide := wide) ⟨by omega, hw.2⟩ hb1 (by omega)
    obtain ⟨rs, b3, e3, rl, hr, hb3⟩ := pl_rows (x3 := some (.int way)) (x6 := none) (x7 := none) (x8 := none) (x9 := none) (x10 := none) (x11 := none) (x12 := none) (wide := wide) hn hn2 ql hq hb2 (by omega)
    have fl := flat_len (rs := rs) (m := 9) fun r h => (hr r h).1
    have e4 := flat_Rows (rs := rs) rfl (by omega)
    refine ⟨rs.flatten, b3, run_ok f_law_planted (r0 := [some b, some (.int n), some (.int wide), none, none, none, none, none, none, none, none, none, none]) (r := [some b3, some (.int n), some (.int wide), some (.int way), some (.lst (Is (St n))), some (.lst (Prs qs)), none, none, none, none, none, none, none]) rfl (sts_nx st1 (sts_ret (st_ite_t (x := .bl true) (r1 := [some b1, some (.int n), some (.int wide), some (.int way), some (.lst (Is (St n))), none, none, none, none, none, none, none, none]) ?_ rfl (sts_nx (r1 := [some b2, some (.int n), some (.int wide), some (.int way), some (.lst (Is (St n))), some (.lst (Prs qs)), none, none, none, none, none, none, none]) ?_ (sts_ret ?_))))) rfl, fun p hp => ?_, by omega, hb3.le (by omega)⟩
    · simp only [sts, st, ev, evs, evc, rd_zero, rd_succ, ok_bind, pure_ok, ofO_some, grd_true, List.set_cons_zero, List.set_cons_succ, getAll, putAll, setT, setTs, List.length_cons, List.length_nil, intOf, Bool.and_true, Bool.true_and, if_true, if_false, Bool.false_eq_true, Nat.zero_add, Nat.reduceAdd, Nat.reduceLT, decide_true, decide_false, true_and, and_true, Int.reduceAdd, Int.reduceLT, Int.reduceNeg, lt_int, c2]
    · generalize E.lc _ _ _ _ = z at e2 ⊢
      simp only [sts, st, ev, evs, evc, rd_zero, rd_succ, ok_bind, pure_ok, ofO_some, grd_true, List.set_cons_zero, List.set_cons_succ, getAll, putAll, setT, setTs, List.length_cons, List.length_nil, intOf, Bool.and_true, Bool.true_and, if_true, if_false, Bool.false_eq_true, Nat.zero_add, Nat.reduceAdd, Nat.reduceLT, decide_true, decide_false, true_and, and_true, Int.reduceAdd, Int.reduceLT, Int.reduceNeg, e2]
    · generalize E.lc _ _ _ _ = z at e3 ⊢
      simp only [sts, st, ev, evs, evc, rd_zero, rd_succ, ok_bind, pure_ok, ofO_some, grd_true, List.set_cons_zero, List.set_cons_succ, getAll, putAll, setT, setTs, List.length_cons, List.length_nil, intOf, Bool.and_true, Bool.true_and, if_true, if_false, Bool.false_eq_true, Nat.zero_add, Nat.reduceAdd, Nat.reduceLT, decide_true, decide_false, true_and, and_true, Int.reduceAdd, Int.reduceLT, Int.reduceNeg, e3, hP9, e4]
    · obtain ⟨r, h1, h2⟩ := List.mem_flatten.mp hp
      exact (hr r h1).2 p h2
  have cond2 : ev p_law_planted rpD (.cmp .lt (.var 3) (.int 2)) [some b1, some (.int n), some (.int wide), some (.int way), some (.lst (Is (St n))), none, none, none, none, none, none, none, none] = .ok (.bl false, [some b1, some (.int n), some (.int wide), some (.int way), some (.lst (Is (St n))), none, none, none, none, none, none, none, none]) := by
    simp only [sts, st, ev, evs, evc, rd_zero, rd_succ, ok_bind, pure_ok, ofO_some, grd_true, List.set_cons_zero, List.set_cons_succ, getAll, putAll, setT, setTs, List.length_cons, List.length_nil, intOf, Bool.and_true, Bool.true_and, if_true, if_false, Bool.false_eq_true, Nat.zero_add, Nat.reduceAdd, Nat.reduceLT, decide_true, decide_false, true_and, and_true, Int.reduceAdd, Int.reduceLT, Int.reduceNeg, lt_int, c2]
  by_cases c3 : way = 2
  · obtain ⟨qs, b2, e2, ql, hq, hb2⟩ := pl_two (x3 := some (.int way)) (x5 := none) (x6 := none) (x7 := none) (x8 := none) (x9 := none) (x10 := none) (x11 := none) (x12 := none) (wide := wide) hn hn2 hb1 (by omega)
    obtain ⟨z, b3, e3, hz, hb3⟩ := one_St hn hn2 hb2 (by omega)
    refine ⟨qs ++ [(0, z)], b3, run_ok f_law_planted (r0 := [some b, some (.int n), some (.int wide), none, none, none, none, none, none, none, none, none, none]) (r := [some b3, some (.int n), some (.int wide), some (.int way), some (.lst (Is (St n))), none, none, none, none, none, none, none, none]) rfl (sts_nx st1 (sts_nx (st_ite_f cond2 rfl rfl) (sts_ret (st_ite_t (x := .bl true) (r1 := [some b1, some (.int n), some (.int wide), some (.int way), some (.lst (Is (St n))), none, none, none, none, none, none, none, none]) ?_ rfl (sts_ret ?_))))) rfl, fun p hp => ?_, by rw [List.length_append]; simp; omega, hb3.le (by omega)⟩
    · simp only [sts, st, ev, evs, evc, rd_zero, rd_succ, ok_bind, pure_ok, ofO_some, grd_true, List.set_cons_zero, List.set_cons_succ, getAll, putAll, setT, setTs, List.length_cons, List.length_nil, intOf, Bool.and_true, Bool.true_and, if_true, if_false, Bool.false_eq_true, Nat.zero_add, Nat.reduceAdd, Nat.reduceLT, decide_true, decide_false, true_and, and_true, Int.reduceAdd, Int.reduceLT, Int.reduceNeg, eq_int, c3]
    · have g1 : grd (decide ((Prs qs).length + 1 ≤ line)) = .ok () := grd_of (decide_eq_true (by rw [Prs_len]; show _ ≤ 16777216; omega))
      generalize E.lc _ _ _ _ = z at e2 ⊢
      simp only [sts, st, ev, evs, evc, rd_zero, rd_succ, ok_bind, pure_ok, ofO_some, grd_true, List.set_cons_zero, List.set_cons_succ, getAll, putAll, setT, setTs, List.length_cons, List.length_nil, intOf, Bool.and_true, Bool.true_and, if_true, if_false, Bool.false_eq_true, Nat.zero_add, Nat.reduceAdd, Nat.reduceLT, decide_true, decide_false, true_and, and_true, Int.reduceAdd, Int.reduceLT, Int.reduceNeg, e2, hP6, e3, binop, g1, Prs_snoc]
    · rcases List.mem_append.mp hp with h | h
      · exact hq p h
      · simp at h; subst h; exact ⟨⟨by show (0:Int) ≤ 0; omega, by show (0:Int) < n; omega⟩, hz⟩
  have cond3 : ev p_law_planted rpD (.cmp .eq (.var 3) (.int 2)) [some b1, some (.int n), some (.int wide), some (.int way), some (.lst (Is (St n))), none, none, none, none, none, none, none, none] = .ok (.bl false, [some b1, some (.int n), some (.int wide), some (.int way), some (.lst (Is (St n))), none, none, none, none, none, none, none, none]) := by
    simp only [sts, st, ev, evs, evc, rd_zero, rd_succ, ok_bind, pure_ok, ofO_some, grd_true, List.set_cons_zero, List.set_cons_succ, getAll, putAll, setT, setTs, List.length_cons, List.length_nil, intOf, Bool.and_true, Bool.true_and, if_true, if_false, Bool.false_eq_true, Nat.zero_add, Nat.reduceAdd, Nat.reduceLT, decide_true, decide_false, true_and, and_true, Int.reduceAdd, Int.reduceLT, Int.reduceNeg, eq_int, c3]
  by_cases c4 : way = 3
  · obtain ⟨ys, b2, e2, pm, hb2⟩ := mixed_ok (t := .lst (Is (St n))) rfl hb1 (by rw [Is_len, St_len]; omega) (by omega)
    obtain ⟨ms, rfl, pm2⟩ := Is_perm pm
    rw [Is_len, St_len] at hb2
    have lm := pm2.length_eq
    rw [St_len] at lm
    refine ⟨(St n).zip ms, b2, run_ok f_law_planted (r0 := [some b, some (.int n), some (.int wide), none, none, none, none, none, none, none, none, none, none]) (r := [some b2, some (.int n), some (.int wide), some (.int way), some (.lst (Is (St n))), none, none, none, none, none, none, none, none]) rfl (sts_nx st1 (sts_nx (st_ite_f cond2 rfl rfl) (sts_nx (st_ite_f cond3 rfl rfl) (sts_ret (st_ite_t (x := .bl true) (r1 := [some b1, some (.int n), some (.int wide), some (.int way), some (.lst (Is (St n))), none, none, none, none, none, none, none, none]) ?_ rfl (sts_ret ?_)))))) rfl, zip_ok (fun x hx => St_mem hx) (fun y hy => St_mem (pm2.mem_iff.mp hy)), by rw [List.length_zip, St_len]; omega, hb2.le (by omega)⟩
    · simp only [sts, st, ev, evs, evc, rd_zero, rd_succ, ok_bind, pure_ok, ofO_some, grd_true, List.set_cons_zero, List.set_cons_succ, getAll, putAll, setT, setTs, List.length_cons, List.length_nil, intOf, Bool.and_true, Bool.true_and, if_true, if_false, Bool.false_eq_true, Nat.zero_add, Nat.reduceAdd, Nat.reduceLT, decide_true, decide_false, true_and, and_true, Int.reduceAdd, Int.reduceLT, Int.reduceNeg, eq_int, c4]
    · simp only [sts, st, ev, evs, evc, rd_zero, rd_succ, ok_bind, pure_ok, ofO_some, grd_true, List.set_cons_zero, List.set_cons_succ, getAll, putAll, setT, setTs, List.length_cons, List.length_nil, intOf, Bool.and_true, Bool.true_and, if_true, if_false, Bool.false_eq_true, Nat.zero_add, Nat.reduceAdd, Nat.reduceLT, decide_true, decide_false, true_and, and_true, Int.reduceAdd, Int.reduceLT, Int.reduceNeg, hP7, e2, bi, zip_Is]
  have cond4 : ev p_law_planted rpD (.cmp .eq (.var 3) (.int 3)) [some b1, some (.int n), some (.int wide), some (.int way), some (.lst (Is (St n))), none, none, none, none, none, none, none, none] = .ok (.bl false, [some b1, some (.int n), some (.int wide), some (.int way), some (.lst (Is (St n))), none, none, none, none, none, none, none, none]) := by
    simp only [sts, st, ev, evs, evc, rd_zero, rd_succ, ok_bind, pure_ok, ofO_some, grd_true, List.set_cons_zero, List.set_cons_succ, getAll, putAll, setT, setTs, List.length_cons, List.length_nil, intOf, Bool.and_true, Bool.true_and, if_true, if_false, Bool.false_eq_true, Nat.zero_add, Nat.reduceAdd, Nat.reduceLT, decide_true, decide_false, true_and, and_true, Int.reduceAdd, Int.reduceLT, Int.reduceNeg, eq_int, c4]
  obtain ⟨u, b2, e2, u0, u1, hb2⟩ := take_ok hb1 (n := (n : Int)) (by omega) (by omega) (by omega)
  obtain ⟨wm, hwm, wm0, wm1⟩ : ∃ wm, bi rpD .min2 [.int wide, .int 2] = .ok (.int wm) ∧ 1 ≤ wm ∧ wm ≤ 2 := by
    refine ⟨if 2 < wide then 2 else wide, rfl, ?_, ?_⟩ <;> split <;> omega
  obtain ⟨m, b3, e3, m0, m1, hb3⟩ := take_ok hb2 (n := wm) (by omega) (by omega) (by omega)
  obtain ⟨A, hA⟩ : ∃ A, cut (St n) none (some (1 + u)) = A := ⟨_, rfl⟩
  obtain ⟨B, hB⟩ : ∃ B, cut (St n) (some (1 + u)) none = B := ⟨_, rfl⟩
  have hA1 : ∀ x ∈ A, Ok1 n x := fun x hx => St_mem (cut_mem (by rw [hA]; exact hx))
  have hB1 : ∀ x ∈ B, Ok1 n x := fun x hx => St_mem (cut_mem (by rw [hB]; exact hx))
  have lA : A.length = min (1 + u).toNat n := by rw [← hA, cut_lo_len (by omega), St_len]
  have lB : B.length = n - min (1 + u).toNat n := by rw [← hB, cut_hi_len (by omega), St_len]
  obtain ⟨rs, e4, rl, hr⟩ := pl_rings (n := n) (b := b3) (wide := wide) (way := way) (many := 1 + m) (A := A) (B := B) (x5 := none) (x6 := none) (x8 := none) (x9 := some (.int (1 + u))) (x11 := none) (x12 := none) hA1 hB1 (by omega) (by omega) (by omega)
  have fl := flat_len (rs := rs) (m := 126) fun r h => (hr r h).1
  have e5 := flat_Rows (rs := rs) rfl (by omega)
  have hF : ∀ p ∈ rs.flatten, Ok2 n p := fun p hp => by
    obtain ⟨r, h1, h2⟩ := List.mem_flatten.mp hp
    exact (hr r h1).2 p h2
  have st5 : st p_law_planted rpD fuel (.par [9, 7] [(.bin .add (.int 1) (.call 5 [(.var 1)] [0])), (.bin .add (.int 1) (.call 5 [(.bi .min2 [(.var 2), (.int 2)])] [0]))]) [some b1, some (.int n), some (.int wide), some (.int way), some (.lst (Is (St n))), none, none, none, none, none, none, none, none] = .ok (.nx [some b3, some (.int n), some (.int wide), some (.int way), some (.lst (Is (St n))), none, none, some (.int (1 + m)), none, some (.int (1 + u)), none, none, none]) := by
    simp only [sts, st, ev, evs, evc, rd_zero, rd_succ, ok_bind, pure_ok, ofO_some, grd_true, List.set_cons_zero, List.set_cons_succ, getAll, putAll, setT, setTs, List.length_cons, List.length_nil, intOf, Bool.and_true, Bool.true_and, if_true, if_false, Bool.false_eq_true, Nat.zero_add, Nat.reduceAdd, Nat.reduceLT, decide_true, decide_false, true_and, and_true, Int.reduceAdd, Int.reduceLT, Int.reduceNeg, hP5, e2, hwm, e3, binop]
  have st6 : st p_law_planted rpD fuel (.asg (.nm 10) (.lst [(.slc (.var 4) [] [(.var 9)]), (.slc (.var 4) [(.var 9)] [])])) [some b3, some (.int n), some (.int wide), some (.int way), some (.lst (Is (St n))), none, none, some (.int (1 + m)), none, some (.int (1 + u)), none, none, none] = .ok (.nx [some b3, some (.int n), some (.int wide), some (.int way), some (.lst (Is (St n))), none, none, some (.int (1 + m)), none, some (.int (1 + u)), some (.lst [.lst (Is A), .lst (Is B)]), none, none]) := by
    have h1 : cut (Is (St n)) none (some (1 + u)) = Is A := by rw [← hA]; exact cut_map _ _ _ _
    have h2 : cut (Is (St n)) (some (1 + u)) none = Is B := by rw [← hB]; exact cut_map _ _ _ _
    simp only [sts, st, ev, evs, evc, rd_zero, rd_succ, ok_bind, pure_ok, ofO_some, grd_true, List.set_cons_zero, List.set_cons_succ, getAll, putAll, setT, setTs, List.length_cons, List.length_nil, intOf, Bool.and_true, Bool.true_and, if_true, if_false, Bool.false_eq_true, Nat.zero_add, Nat.reduceAdd, Nat.reduceLT, decide_true, decide_false, true_and, and_true, Int.reduceAdd, Int.reduceLT, Int.reduceNeg, binop, index, slice, cmpop, truth, bi, intsD, List.head?_cons, List.head?_nil, setIx, isInt, mu, lstOf, h1, h2]
  have st7 : st p_law_planted rpD fuel (.asg (.nm 11) (.call 9 [(.lc (.nm 12) (.var 10) [] (.bin .mul (.bi .lzip [(.var 12), (.bin .add (.slc (.var 12) [(.int 1)] []) (.slc (.var 12) [] [(.int 1)]))]) (.ife (.cmp .eq (.var 3) (.int 4)) (.var 7) (.int 1))))] [])) [some b3, some (.int n), some (.int wide), some (.int way), some (.lst (Is (St n))), none, none, some (.int (1 + m)), none, some (.int (1 + u)), some (.lst [.lst (Is A), .lst (Is B)]), none, none] = .ok (.nx [some b3, some (.int n), some (.int wide), some (.int way), some (.lst (Is (St n))), none, none, some (.int (1 + m)), none, some (.int (1 + u)), some (.lst [.lst (Is A), .lst (Is B)]), some (.lst (Prs rs.flatten)), none]) := by
    generalize E.lc _ _ _ _ = z at e4 ⊢
    simp only [sts, st, ev, evs, evc, rd_zero, rd_succ, ok_bind, pure_ok, ofO_some, grd_true, List.set_cons_zero, List.set_cons_succ, getAll, putAll, setT, setTs, List.length_cons, List.length_nil, intOf, Bool.and_true, Bool.true_and, if_true, if_false, Bool.false_eq_true, Nat.zero_add, Nat.reduceAdd, Nat.reduceLT, decide_true, decide_false, true_and, and_true, Int.reduceAdd, Int.reduceLT, Int.reduceNeg, e4, hP9, e5]
  -- the last if
  obtain ⟨ps, b4, e8, hps, lps, hb4⟩ : ∃ ps b4, st p_law_planted rpD fuel (.ite (.and (.cmp .lt (.var 9) (.var 1)) (.cmp .gt (.call 5 [(.int 4)] [0]) (.int 0))) [.asg (.nm 11) (.bin .add (.lst [(.tup [(.call 6 [(.idx (.var 10) (.int 0))] [0]), (.call 6 [(.idx (.var 10) (.int 1))] [0])])]) (.var 11))] []) [some b3, some (.int n), some (.int wide), some (.int way), some (.lst (Is (St n))), none, none, some (.int (1 + m)), none, some (.int (1 + u)), some (.lst [.lst (Is A), .lst (Is B)]), some (.lst (Prs rs.flatten)), none] = .ok (.nx [some b4, some (.int n), some (.int wide), some (.int way), some (.lst (Is (St n))), none, none, some (.int (1 + m)), none, some (.int (1 + u)), some (.lst [.lst (Is A), .lst (Is B)]), some (.lst (Prs ps)), none]) ∧ (∀ p ∈ ps, Ok2 n p) ∧ ps.length ≤ rs.flatten.length + 1 ∧ Bag (k + 6) b4 := by
    by_cases cu : 1 + u < n
    · obtain ⟨v, b4, e6, v0, v1, hb4⟩ := take_ok hb3 (n := 4) (by omega) (by omega) (by omega)
      by_cases cv : 0 < v
      · obtain ⟨y1, b5, e7, hy1, hb5⟩ := one_ok (t := .lst (Is A)) rfl hb4 (fun z => by have := congrArg List.length z; rw [Is_len] at this; simp at this; subst this; simp at lA; omega) (by rw [Is_len]; omega) (by omega)
        obtain ⟨z1, hz1, rfl⟩ := Is_mem hy1
        obtain ⟨y2, b6, e8, hy2, hb6⟩ := one_ok (t := .lst (Is B)) rfl hb5 (fun z => by have := congrArg List.length z; rw [Is_len] at this; simp at this; subst this; simp at lB; omega) (by rw [Is_len]; omega) (by omega)
        obtain ⟨z2, hz2, rfl⟩ := Is_mem hy2
        refine ⟨(z1, z2) :: rs.flatten, b6, st_ite_t (x := .bl true) (r1 := [some b4, some (.int n), some (.int wide), some (.int way), some (.lst (Is (St n))), none, none, some (.int (1 + m)), none, some (.int (1 + u)), some (.lst [.lst (Is A), .lst (Is B)]), some (.lst (Prs rs.flatten)), none]) ?_ rfl (sts_nx ?_ rfl), fun p hp => ?_, by simp, hb6.le (by omega)⟩
        · simp only [sts, st, ev, evs, evc, rd_zero, rd_succ, ok_bind, pure_ok, ofO_some, grd_true, List.set_cons_zero, List.set_cons_succ, getAll, putAll, setT, setTs, List.length_cons, List.length_nil, intOf, Bool.and_true, Bool.true_and, if_true, if_false, Bool.false_eq_true, Nat.zero_add, Nat.reduceAdd, Nat.reduceLT, decide_true, decide_false, true_and, and_true, Int.reduceAdd, Int.reduceLT, Int.reduceNeg, lt_int, truth, cu, hP5, e6, gt_int, cv]
        · have g1 : grd (decide (1 + (Prs rs.flatten).length ≤ line)) = .ok () := grd_of (decide_eq_true (by rw [Prs_len]; show _ ≤ 16777216; omega))
          simp only [sts, st, ev, evs, evc, rd_zero, rd_succ, ok_bind, pure_ok, ofO_some, grd_true, List.set_cons_zero, List.set_cons_succ, getAll, putAll, setT, setTs, List.length_cons, List.length_nil, intOf, Bool.and_true, Bool.true_and, if_true, if_false, Bool.false_eq_true, Nat.zero_add, Nat.reduceAdd, Nat.reduceLT, decide_true, decide_false, true_and, and_true, Int.reduceAdd, Int.reduceLT, Int.reduceNeg, hP6, index, at0, at1, e7, e8, binop, g1]
          rfl
        · rcases List.mem_cons.mp hp with h | h
          · subst h; exact ⟨hA1 _ hz1, hB1 _ hz2⟩
          · exact hF p h
      · refine ⟨rs.flatten, b4, st_ite_f (x := .bl false) (r1 := [some b4, some (.int n), some (.int wide), some (.int way), some (.lst (Is (St n))), none, none, some (.int (1 + m)), none, some (.int (1 + u)), some (.lst [.lst (Is A), .lst (Is B)]), some (.lst (Prs rs.flatten)), none]) ?_ rfl rfl, hF, by omega, hb4.le (by omega)⟩
        simp only [sts, st, ev, evs, evc, rd_zero, rd_succ, ok_bind, pure_ok, ofO_some, grd_true, List.set_cons_zero, List.set_cons_succ, getAll, putAll, setT, setTs, List.length_cons, List.length_nil, intOf, Bool.and_true, Bool.true_and, if_true, if_false, Bool.false_eq_true, Nat.zero_add, Nat.reduceAdd, Nat.reduceLT, decide_true, decide_false, true_and, and_true, Int.reduceAdd, Int.reduceLT, Int.reduceNeg, lt_int, truth, cu, hP5, e6, gt_int, cv]
    · refine ⟨rs.flatten, b3, st_ite_f (x := .bl false) (r1 := [some b3, some (.int n), some (.int wide), some (.int way), some (.lst (Is (St n))), none, none, some (.int (1 + m)), none, some (.int (1 + u)), some (.lst [.lst (Is A), .lst (Is B)]), some (.lst (Prs rs.flatten)), none]) ?_ rfl rfl, hF, by omega, hb3.le (by omega)⟩
      simp only [sts, st, ev, evs, evc, rd_zero, rd_succ, ok_bind, pure_ok, ofO_some, grd_true, List.set_cons_zero, List.set_cons_succ, getAll, putAll, setT, setTs, List.length_cons, List.length_nil, intOf, Bool.and_true, Bool.true_and, if_true, if_false, Bool.false_eq_true, Nat.zero_add, Nat.reduceAdd, Nat.reduceLT, decide_true, decide_false, true_and, and_true, Int.reduceAdd, Int.reduceLT, Int.reduceNeg, lt_int, truth, cu]
  refine ⟨ps, b4, run_ok f_law_planted (r0 := [some b, some (.int n), some (.int wide), none, none, none, none, none, none, none, none, none, none]) (r := [some b4, some (.int n), some (.int wide), some (.int way), some (.lst (Is (St n))), none, none, some (.int (1 + m)), none, some (.int (1 + u)), some (.lst [.lst (Is A), .lst (Is B)]), some (.lst (Prs ps)), none]) rfl (sts_nx st1 (sts_nx (st_ite_f cond2 rfl rfl) (sts_nx (st_ite_f cond3 rfl rfl) (sts_nx (st_ite_f cond4 rfl rfl) (sts_nx st5 (sts_nx st6 (sts_nx st7 (sts_nx e8 (sts_ret ?_))))))))) rfl, hps, by omega, hb4.le (by omega)⟩
  simp only [sts, st, ev, evs, evc, rd_zero, rd_succ, ok_bind, pure_ok, ofO_some, grd_true, List.set_cons_zero, List.set_cons_succ, getAll, putAll, setT, setTs, List.length_cons, List.length_nil, intOf, Bool.and_true, Bool.true_and, if_true, if_false, Bool.false_eq_true, Nat.zero_add, Nat.reduceAdd, Nat.reduceLT, decide_true, decide_false, true_and, and_true, Int.reduceAdd, Int.reduceLT, Int.reduceNeg]
end
end C

set_option linter.all false
set_option maxHeartbeats 1000000
set_option maxRecDepth 100000
namespace C
open PySem (Str)
def gI (g : Int → Bool) : D → Option D
  | .int x => if g x = true then some (.int x) else none
  | _ => none
theorem gI_t {g : Int → Bool} {x : Int} (h : g x = true) : gI g (.int x) = some (.int x) := by simp only [gI, h, if_true]
theorem gI_f {g : Int → Bool} {x : Int} (h : g x = false) : gI g (.int x) = none := by simp only [gI, h, Bool.false_eq_true, if_false]
theorem fm_gI (g : Int → Bool) : ∀ ns : List Int, (Is ns).filterMap (gI g) = Is (ns.filter g)
  | [] => rfl
  | x :: r => by
    have ih := fm_gI g r
    unfold Is at *
    simp only [List.map_cons, List.filterMap_cons, List.filter_cons]
    cases h : g x with
    | true => simp only [gI_t h, if_true, List.map_cons]; rw [ih]
    | false => simp only [gI_f h, Bool.false_eq_true, if_false]; rw [ih]
section
variable {n k : Nat} {most wide : Int} {b : D} {x1 x2 x3 x4 x5 x6 x7 x8 x9 x10 x11 x12 x13 x14 x15 x16 x17 : Option D}
theorem ch_more (hn : 0 < n) (hn2 : n ≤ 63) (hb : Bag k b) (hk : k < 800000000) :
    ∃ qs b', ev p_law_chart rpD (.lc (.nm 8) (.bi .range1 [(.call 6 [(.lst [(.int 0), (.int 1), (.int 0), (.int 2)])] [0])]) [] (.tup [(.call 6 [(.var 4)] [0]), (.call 6 [(.var 4)] [0])])) [some b, x1, x2, some (.int n), some (.lst (Is (St n))), x5, x6, x7, x8, x9, x10, x11, x12, x13, x14, x15, x16, x17] = .ok (.lst (Prs qs), [some b', x1, x2, some (.int n), some (.lst (Is (St n))), x5, x6, x7, x8, x9, x10, x11, x12, x13, x14, x15, x16, x17])
      ∧ qs.length ≤ 2 ∧ (∀ q ∈ qs, Ok2 n q) ∧ Bag (k + 5) b' := by
  have hP : p_law_chart 6 = m_law_one := rfl
  obtain ⟨y, b0, e, hy, hb0⟩ := one_ok (t := .lst [.int 0, .int 1, .int 0, .int 2]) rfl hb (by simp) (by simp) (by omega)
  obtain ⟨m, rfl, m0, m1⟩ : ∃ m, y = .int m ∧ 0 ≤ m ∧ m ≤ 2 := by
    simp only [List.mem_cons, List.not_mem_nil, or_false] at hy
    rcases hy with rfl | rfl | rfl | rfl <;> exact ⟨_, rfl, by omega, by omega⟩
  have hlr : (rangeI 0 m).length ≤ 2 := by simp [rangeI]; omega
  have hi : ev p_law_chart rpD (.bi .range1 [(.call 6 [(.lst [(.int 0), (.int 1), (.int 0), (.int 2)])] [0])]) [some b, x1, x2, some (.int n), some (.lst (Is (St n))), x5, x6, x7, x8, x9, x10, x11, x12, x13, x14, x15, x16, x17] = .ok (.lst (rangeI 0 m), [some b0, x1, x2, some (.int n), some (.lst (Is (St n))), x5, x6, x7, x8, x9, x10, x11, x12, x13, x14, x15, x16, x17]) := by
    refine ev_bi1 (x := .int m) ?_ (bi_range1 (by omega) (by omega))
    simp only [sts, st, ev, evs, evc, rd_zero, rd_succ, ok_bind, pure_ok, ofO_some, grd_true, List.set_cons_zero, List.set_cons_succ, getAll, putAll, setT, setTs, List.length_cons, List.length_nil, intOf, Bool.and_true, Bool.true_and, if_true, if_false, Bool.false_eq_true, Nat.zero_add, Nat.reduceAdd, Nat.reduceLT, decide_true, decide_false, true_and, and_true, Int.reduceAdd, Int.reduceLT, Int.reduceNeg, hP, e]
  obtain ⟨acc, r', e1, qs, b', w8, ea, er, hl, hq, hb'⟩ := ev_lcI (P := p_law_chart) (rp := rpD) (t := .nm 8) (cs := []) (e := .tup [(.call 6 [(.var 4)] [0]), (.call 6 [(.var 4)] [0])]) hi rfl
    (fun i acc r => ∃ qs b' w8, acc = Prs qs ∧ r = [some b', x1, x2, some (.int n), some (.lst (Is (St n))), x5, x6, x7, w8, x9, x10, x11, x12, x13, x14, x15, x16, x17] ∧ qs.length = i ∧ (∀ q ∈ qs, Ok2 n q) ∧ Bag (k + 1 + 2 * i) b')
    ⟨[], b0, x8, rfl, rfl, rfl, by simp, hb0⟩ fun i d acc r ed ⟨qs, b1, w8, ea, er, hl, hq, hb1⟩ => by
      subst ea; subst er
      have hi := (List.getElem?_eq_some_iff.mp ed).1
      obtain ⟨z1, b2, e1, hz1, hb2⟩ := one_St hn hn2 hb1 (by omega)
      obtain ⟨z2, b3, e2, hz2, hb3⟩ := one_St hn hn2 hb2 (by omega)
      refine ⟨[some b1, x1, x2, some (.int n), some (.lst (Is (St n))), x5, x6, x7, some d, x9, x10, x11, x12, x13, x14, x15, x16, x17], by simp only [sts, st, ev, evs, evc, rd_zero, rd_succ, ok_bind, pure_ok, ofO_some, grd_true, List.set_cons_zero, List.set_cons_succ, getAll, putAll, setT, setTs, List.length_cons, List.length_nil, intOf, Bool.and_true, Bool.true_and, if_true, if_false, Bool.false_eq_true, Nat.zero_add, Nat.reduceAdd, Nat.reduceLT, decide_true, decide_false, true_and, and_true, Int.reduceAdd, Int.reduceLT, Int.reduceNeg, clr, Tg.slots], .inr ⟨[some b1, x1, x2, some (.int n), some (.lst (Is (St n))), x5, x6, x7, some d, x9, x10, x11, x12, x13, x14, x15, x16, x17], .tup [.int z1, .int z2], [some b3, x1, x2, some (.int n), some (.lst (Is (St n))), x5, x6, x7, some d, x9, x10, x11, x12, x13, x14, x15, x16, x17], rfl, ?_, ?_, qs ++ [(z1, z2)], b3, some d, (Prs_snoc _ _ _), rfl, by simp [hl], fun q hq' => ?_, hb3.le (by omega)⟩⟩
      · simp only [sts, st, ev, evs, evc, rd_zero, rd_succ, ok_bind, pure_ok, ofO_some, grd_true, List.set_cons_zero, List.set_cons_succ, getAll, putAll, setT, setTs, List.length_cons, List.length_nil, intOf, Bool.and_true, Bool.true_and, if_true, if_false, Bool.false_eq_true, Nat.zero_add, Nat.reduceAdd, Nat.reduceLT, decide_true, decide_false, true_and, and_true, Int.reduceAdd, Int.reduceLT, Int.reduceNeg, hP, e1, e2]
      · rw [Prs_len, hl]; show i < 16777216; omega
      · rcases List.mem_append.mp hq' with h | h
        · exact hq q h
        · simp at h; subst h; exact ⟨hz1, hz2⟩
  subst ea; subst er
  exact ⟨qs, b', by rw [e1]; rfl, by omega, hq, hb'.le (by omega)⟩
theorem ch_lost {xs : List Int} (hn2 : n ≤ 63) : ∃ us, ev p_law_chart rpD (.lc (.nm 12) (.var 4) [(.cmp .notin (.var 12) (.var 10))] (.var 12)) [some b, x1, x2, some (.int n), some (.lst (Is (St n))), x5, x6, x7, x8, x9, some (.lst (Is xs)), x11, x12, x13, x14, x15, x16, x17] = .ok (.lst (Is us), [some b, x1, x2, some (.int n), some (.lst (Is (St n))), x5, x6, x7, x8, x9, some (.lst (Is xs)), x11, x12, x13, x14, x15, x16, x17]) ∧ ∀ u ∈ us, Ok1 n u ∧ u ∉ xs := by
  obtain ⟨r', e1, w12, er⟩ := ev_lcF (P := p_law_chart) (rp := rpD) (t := .nm 12) (it := .var 4) (cs := [(.cmp .notin (.var 12) (.var 10))]) (e := .var 12)
    (r := [some b, x1, x2, some (.int n), some (.lst (Is (St n))), x5, x6, x7, x8, x9, some (.lst (Is xs)), x11, x12, x13, x14, x15, x16, x17]) (r0 := [some b, x1, x2, some (.int n), some (.lst (Is (St n))), x5, x6, x7, x8, x9, some (.lst (Is xs)), x11, x12, x13, x14, x15, x16, x17]) (x := .lst (Is (St n))) (xs := Is (St n)) rfl rfl
    (gI fun x => !decide (x ∈ xs))
    (fun r => ∃ w12, r = [some b, x1, x2, some (.int n), some (.lst (Is (St n))), x5, x6, x7, x8, x9, some (.lst (Is xs)), x11, w12, x13, x14, x15, x16, x17]) ⟨x12, rfl⟩ (by rw [Is_len, St_len]; show _ ≤ 16777216; omega) fun d0 r hd ⟨w, er⟩ => by
      subst er
      obtain ⟨x, _, rfl⟩ := Is_mem hd
      refine ⟨[some b, x1, x2, some (.int n), some (.lst (Is (St n))), x5, x6, x7, x8, x9, some (.lst (Is xs)), x11, some (.int x), x13, x14, x15, x16, x17], by simp only [sts, st, ev, evs, evc, rd_zero, rd_succ, ok_bind, pure_ok, ofO_some, grd_true, List.set_cons_zero, List.set_cons_succ, getAll, putAll, setT, setTs, List.length_cons, List.length_nil, intOf, Bool.and_true, Bool.true_and, if_true, if_false, Bool.false_eq_true, Nat.zero_add, Nat.reduceAdd, Nat.reduceLT, decide_true, decide_false, true_and, and_true, Int.reduceAdd, Int.reduceLT, Int.reduceNeg, clr, Tg.slots], ?_⟩
      by_cases h : x ∈ xs
      · refine .inl ⟨[some b, x1, x2, some (.int n), some (.lst (Is (St n))), x5, x6, x7, x8, x9, some (.lst (Is xs)), x11, some (.int x), x13, x14, x15, x16, x17], ?_, gI_f (by simp [h]), ⟨_, rfl⟩⟩
        simp only [sts, st, ev, evs, evc, rd_zero, rd_succ, ok_bind, pure_ok, ofO_some, grd_true, List.set_cons_zero, List.set_cons_succ, getAll, putAll, setT, setTs, List.length_cons, List.length_nil, intOf, Bool.and_true, Bool.true_and, if_true, if_false, Bool.false_eq_true, Nat.zero_add, Nat.reduceAdd, Nat.reduceLT, decide_true, decide_false, true_and, and_true, Int.reduceAdd, Int.reduceLT, Int.reduceNeg, notin_Is, truth, h, Bool.not_true]
      · refine .inr ⟨[some b, x1, x2, some (.int n), some (.lst (Is (St n))), x5, x6, x7, x8, x9, some (.lst (Is xs)), x11, some (.int x), x13, x14, x15, x16, x17], .int x, [some b, x1, x2, some (.int n), some (.lst (Is (St n))), x5, x6, x7, x8, x9, some (.lst (Is xs)), x11, some (.int x), x13, x14, x15, x16, x17], ?_, rfl, gI_t (by simp [h]), ⟨_, rfl⟩⟩
        simp only [sts, st, ev, evs, evc, rd_zero, rd_succ, ok_bind, pure_ok, ofO_some, grd_true, List.set_cons_zero, List.set_cons_succ, getAll, putAll, setT, setTs, List.length_cons, List.length_nil, intOf, Bool.and_true, Bool.true_and, if_true, if_false, Bool.false_eq_true, Nat.zero_add, Nat.reduceAdd, Nat.reduceLT, decide_true, decide_false, true_and, and_true, Int.reduceAdd, Int.reduceLT, Int.reduceNeg, notin_Is, truth, h, Bool.not_false]
  subst er
  rw [fm_gI (fun x => !decide (x ∈ xs))] at e1
  refine ⟨_, by rw [e1]; rfl, fun u hu => ?_⟩
  have := List.mem_filter.mp hu
  exact ⟨St_mem this.1, by simpa using this.2⟩
theorem ch_free {xs : List Int} {ps : List (Int × Int)} (lx : xs.length ≤ 63) (lp : ps.length ≤ 1000000) : ∃ us, ev p_law_chart rpD (.lc (.nm 12) (.var 10) [(.cmp .lt (.bi .len [(.lc (.nm 14) (.var 6) [(.cmp .eq (.idx (.var 14) (.int 0)) (.var 12))] (.var 14))]) (.var 2))] (.var 12)) [some b, x1, some (.int wide), x3, x4, x5, some (.lst (Prs ps)), x7, x8, x9, some (.lst (Is xs)), x11, x12, x13, x14, x15, x16, x17] = .ok (.lst (Is us), [some b, x1, some (.int wide), x3, x4, x5, some (.lst (Prs ps)), x7, x8, x9, some (.lst (Is xs)), x11, x12, x13, x14, x15, x16, x17]) ∧ us.length ≤ xs.length ∧ ∀ u ∈ us, u ∈ xs := by
  let c : Int → Nat := fun x => ((Prs ps).filterMap (fun d => match d with | .tup [.int a, .int _] => if a = x then some d else none | _ => none)).length
  obtain ⟨r', e1, w12, er⟩ := ev_lcF (P := p_law_chart) (rp := rpD) (t := .nm 12) (it := .var 10) (cs := [(.cmp .lt (.bi .len [(.lc (.nm 14) (.var 6) [(.cmp .eq (.idx (.var 14) (.int 0)) (.var 12))] (.var 14))]) (.var 2))]) (e := .var 12)
    (r := [some b, x1, some (.int wide), x3, x4, x5, some (.lst (Prs ps)), x7, x8, x9, some (.lst (Is xs)), x11, x12, x13, x14, x15, x16, x17]) (r0 := [some b, x1, some (.int wide), x3, x4, x5, some (.lst (Prs ps)), x7, x8, x9, some (.lst (Is xs)), x11, x12, x13, x14, x15, x16, x17]) (x := .lst (Is xs)) (xs := Is xs) rfl rfl
    (gI fun x => decide ((c x : Int) < wide))
    (fun r => ∃ w12, r = [some b, x1, some (.int wide), x3, x4, x5, some (.lst (Prs ps)), x7, x8, x9, some (.lst (Is xs)), x11, w12, x13, x14, x15, x16, x17]) ⟨x12, rfl⟩ (by rw [Is_len]; show _ ≤ 16777216; omega) fun d0 r hd ⟨w, er⟩ => by
      subst er
      obtain ⟨x, _, rfl⟩ := Is_mem hd
      refine ⟨[some b, x1, some (.int wide), x3, x4, x5, some (.lst (Prs ps)), x7, x8, x9, some (.lst (Is xs)), x11, some (.int x), x13, x14, x15, x16, x17], by simp only [sts, st, ev, evs, evc, rd_zero, rd_succ, ok_bind, pure_ok, ofO_some, grd_true, List.set_cons_zero, List.set_cons_succ, getAll, putAll, setT, setTs, List.length_cons, List.length_nil, intOf, Bool.and_true, Bool.true_and, if_true, if_false, Bool.false_eq_true, Nat.zero_add, Nat.reduceAdd, Nat.reduceLT, decide_true, decide_false, true_and, and_true, Int.reduceAdd, Int.reduceLT, Int.reduceNeg, clr, Tg.slots], ?_⟩
      obtain ⟨r2, e2, w14, er2⟩ := ev_lcF (P := p_law_chart) (rp := rpD) (t := .nm 14) (it := .var 6) (cs := [(.cmp .eq (.idx (.var 14) (.int 0)) (.var 12))]) (e := .var 14)
        (r := [some b, x1, some (.int wide), x3, x4, x5, some (.lst (Prs ps)), x7, x8, x9, some (.lst (Is xs)), x11, some (.int x), x13, x14, x15, x16, x17]) (r0 := [some b, x1, some (.int wide), x3, x4, x5, some (.lst (Prs ps)), x7, x8, x9, some (.lst (Is xs)), x11, some (.int x), x13, x14, x15, x16, x17]) (x := .lst (Prs ps)) (xs := Prs ps) rfl rfl
        (fun d => match d with | .tup [.int a, .int _] => if a = x then some d else none | _ => none)
        (fun r => ∃ w14, r = [some b, x1, some (.int wide), x3, x4, x5, some (.lst (Prs ps)), x7, x8, x9, some (.lst (Is xs)), x11, some (.int x), x13, w14, x15, x16, x17]) ⟨x14, rfl⟩ (by rw [Prs_len]; show _ ≤ 16777216; omega) fun d1 r hd ⟨w, er⟩ => by
          subst er
          obtain ⟨p, q, _, rfl⟩ := Prs_mem hd
          refine ⟨[some b, x1, some (.int wide), x3, x4, x5, some (.lst (Prs ps)), x7, x8, x9, some (.lst (Is xs)), x11, some (.int x), x13, some (.tup [.int p, .int q]), x15, x16, x17], by simp only [sts, st, ev, evs, evc, rd_zero, rd_succ, ok_bind, pure_ok, ofO_some, grd_true, List.set_cons_zero, List.set_cons_succ, getAll, putAll, setT, setTs, List.length_cons, List.length_nil, intOf, Bool.and_true, Bool.true_and, if_true, if_false, Bool.false_eq_true, Nat.zero_add, Nat.reduceAdd, Nat.reduceLT, decide_true, decide_false, true_and, and_true, Int.reduceAdd, Int.reduceLT, Int.reduceNeg, clr, Tg.slots], ?_⟩
          by_cases h : p = x
          · refine .inr ⟨[some b, x1, some (.int wide), x3, x4, x5, some (.lst (Prs ps)), x7, x8, x9, some (.lst (Is xs)), x11, some (.int x), x13, some (.tup [.int p, .int q]), x15, x16, x17], .tup [.int p, .int q], [some b, x1, some (.int wide), x3, x4, x5, some (.lst (Prs ps)), x7, x8, x9, some (.lst (Is xs)), x11, some (.int x), x13, some (.tup [.int p, .int q]), x15, x16, x17], ?_, rfl, by simp only [h, if_true], ⟨_, rfl⟩⟩
            simp only [sts, st, ev, evs, evc, rd_zero, rd_succ, ok_bind, pure_ok, ofO_some, grd_true, List.set_cons_zero, List.set_cons_succ, getAll, putAll, setT, setTs, List.length_cons, List.length_nil, intOf, Bool.and_true, Bool.true_and, if_true, if_false, Bool.false_eq_true, Nat.zero_add, Nat.reduceAdd, Nat.reduceLT, decide_true, decide_false, true_and, and_true, Int.reduceAdd, Int.reduceLT, Int.reduceNeg, index, at0, eq_int, truth, h]
          · refine .inl ⟨[some b, x1, some (.int wide), x3, x4, x5, some (.lst (Prs ps)), x7, x8, x9, some (.lst (Is xs)), x11, some (.int x), x13, some (.tup [.int p, .int q]), x15, x16, x17], ?_, by simp only [h, if_false], ⟨_, rfl⟩⟩
            simp only [sts, st, ev, evs, evc, rd_zero, rd_succ, ok_bind, pure_ok, ofO_some, grd_true, List.set_cons_zero, List.set_cons_succ, getAll, putAll, setT, setTs, List.length_cons, List.length_nil, intOf, Bool.and_true, Bool.true_and, if_true, if_false, Bool.false_eq_true, Nat.zero_add, Nat.reduceAdd, Nat.reduceLT, decide_true, decide_false, true_and, and_true, Int.reduceAdd, Int.reduceLT, Int.reduceNeg, index, at0, eq_int, truth, h]
      subst er2
      have hc : ((Prs ps).filterMap (fun d => match d with | .tup [.int a, .int _] => if a = x then some d else none | _ => none)).length = c x := rfl
      generalize (Prs ps).filterMap _ = fl at e2 hc
      have e3 : bi rpD .len [.lst fl] = .ok (.int (c x)) := by rw [← hc]; rfl
      by_cases h : (c x : Int) < wide
      · refine .inr ⟨[some b, x1, some (.int wide), x3, x4, x5, some (.lst (Prs ps)), x7, x8, x9, some (.lst (Is xs)), x11, some (.int x), x13, x14, x15, x16, x17], .int x, [some b, x1, some (.int wide), x3, x4, x5, some (.lst (Prs ps)), x7, x8, x9, some (.lst (Is xs)), x11, some (.int x), x13, x14, x15, x16, x17], ?_, rfl, gI_t (by simp [h]), ⟨_, rfl⟩⟩
        generalize E.lc _ _ _ _ = z at e2 ⊢
        simp only [sts, st, ev, evs, evc, rd_zero, rd_succ, ok_bind, pure_ok, ofO_some, grd_true, List.set_cons_zero, List.set_cons_succ, getAll, putAll, setT, setTs, List.length_cons, List.length_nil, intOf, Bool.and_true, Bool.true_and, if_true, if_false, Bool.false_eq_true, Nat.zero_add, Nat.reduceAdd, Nat.reduceLT, decide_true, decide_false, true_and, and_true, Int.reduceAdd, Int.reduceLT, Int.reduceNeg, e2, e3, lt_int, truth, h, restE, Tg.slots, List.getElem?_cons_succ, List.getElem?_cons_zero, Option.getD_some]
      · refine .inl ⟨[some b, x1, some (.int wide), x3, x4, x5, some (.lst (Prs ps)), x7, x8, x9, some (.lst (Is xs)), x11, some (.int x), x13, x14, x15, x16, x17], ?_, gI_f (by simp [h]), ⟨_, rfl⟩⟩
        generalize E.lc _ _ _ _ = z at e2 ⊢
        simp only [sts, st, ev, evs, evc, rd_zero, rd_succ, ok_bind, pure_ok, ofO_some, grd_true, List.set_cons_zero, List.set_cons_succ, getAll, putAll, setT, setTs, List.length_cons, List.length_nil, intOf, Bool.and_true, Bool.true_and, if_true, if_false, Bool.false_eq_true, Nat.zero_add, Nat.reduceAdd, Nat.reduceLT, decide_true, decide_false, true_and, and_true, Int.reduceAdd, Int.reduceLT, Int.reduceNeg, e2, e3, lt_int, truth, h, restE, Tg.slots, List.getElem?_cons_succ, List.getElem?_cons_zero, Option.getD_some]
  subst er
  rw [fm_gI (fun x => decide ((c x : Int) < wide))] at e1
  exact ⟨_, by rw [e1]; rfl, List.length_filter_le _ _, fun u hu => (List.mem_filter.mp hu).1⟩
end
end C

set_option linter.all false
set_option maxHeartbeats 1000000
set_option maxRecDepth 100000
namespace C
open PySem (Str)
/-- a chart: fs first stands, ts steps -/
def ChartOk (most n : Nat) (c : D) (fs : List Int) (ts : List (Int × Int × Int)) : Prop :=
  c = .tup [.int n, .tup (Is fs), .tup (Trs ts)] ∧ 0 < n ∧ n ≤ most ∧ fs.Pairwise (· < ·) ∧ (∀ f ∈ fs, Ok1 n f) ∧ (∀ q ∈ ts, Ok1 n q.1 ∧ Ok1 n q.2.2 ∧ 0 ≤ q.2.1 ∧ q.2.1 ≤ 10 * n + 255) ∧ ts.length ≤ 10 * n + 255
section
variable {n k : Nat} {most wide : Int} {b : D} {x1 x2 x3 x4 x5 x6 x7 x8 x9 x10 x11 x12 x13 x14 x15 x16 x17 : Option D}
/-- one turn -/
theorem ch_turn {fs : List Int} {ps : List (Int × Int)} {d : D} (hn : 0 < n) (hn2 : n ≤ 63) (hb : Bag k b) (hk : k < 800000000) (nd : fs.Nodup) (hf : ∀ f ∈ fs, Ok1 n f) (hp : ∀ p ∈ ps, Ok2 n p) (lp : ps.length ≤ 3000) :
    ∃ fs' ps' b' y10 y11 y13, sts p_law_chart rpD fuel [.asg (.nm 10) (.call 13 [(.var 5), (.var 6)] []), .asg (.nm 11) (.lc (.nm 12) (.var 4) [(.cmp .notin (.var 12) (.var 10))] (.var 12)), .asg (.nm 13) (.lc (.nm 12) (.var 10) [(.cmp .lt (.bi .len [(.lc (.nm 14) (.var 6) [(.cmp .eq (.idx (.var 14) (.int 0)) (.var 12))] (.var 14))]) (.var 2))] (.var 12)), .ite (.and (.cmp .ne (.var 11) (.lst [])) (.or (.cmp .eq (.var 13) (.lst [])) (.cmp .eq (.call 5 [(.int 4)] [0]) (.int 0)))) [.asg (.nm 5) (.bin .add (.var 5) (.lst [(.idx (.var 11) (.int 0))]))] [.ite (.cmp .ne (.var 11) (.lst [])) [.asg (.nm 6) (.bin .add (.var 6) (.lst [(.tup [(.call 6 [(.var 13)] [0]), (.idx (.var 11) (.int 0))])]))] []]]
      [some b, x1, some (.int wide), some (.int n), some (.lst (Is (St n))), some (.lst (Is fs)), some (.lst (Prs ps)), x7, x8, some d, x10, x11, x12, x13, x14, x15, x16, x17] = .ok (.nx [some b', x1, some (.int wide), some (.int n), some (.lst (Is (St n))), some (.lst (Is fs')), some (.lst (Prs ps')), x7, x8, some d, y10, y11, x12, y13, x14, x15, x16, x17])
      ∧ fs'.Nodup ∧ (∀ f ∈ fs', Ok1 n f) ∧ (∀ p ∈ ps', Ok2 n p) ∧ ps'.length ≤ ps.length + 1 ∧ Bag (k + 2) b' := by
  have hP5 : p_law_chart 5 = m_law_take := rfl
  have hP6 : p_law_chart 6 = m_law_one := rfl
  have hP13 : p_law_chart 13 = m_law_come_to := rfl
  have lf := nodup_len n fs nd hf
  obtain ⟨xs, e1, so⟩ := come_to_ok (n := n) (fs := fs) (ps := ps) rfl rfl hn2 hf hp (by omega) (by omega)
  have lx := nodup_len n xs so.1 so.2.1
  obtain ⟨us, e2, hu⟩ := ch_lost (n := n) (b := b) (x1 := x1) (x2 := some (.int wide)) (x5 := some (.lst (Is fs))) (x6 := some (.lst (Prs ps))) (x7 := x7) (x8 := x8) (x9 := some d) (x11 := x11) (x12 := x12) (x13 := x13) (x14 := x14) (x15 := x15) (x16 := x16) (x17 := x17) (xs := xs) hn2
  obtain ⟨vs, e3, lv, hv⟩ := ch_free (b := b) (x1 := x1) (wide := wide) (x3 := some (.int n)) (x4 := some (.lst (Is (St n)))) (x5 := some (.lst (Is fs))) (ps := ps) (x7 := x7) (x8 := x8) (x9 := some d) (x11 := some (.lst (Is us))) (x12 := x12) (x13 := x13) (x14 := x14) (x15 := x15) (x16 := x16) (x17 := x17) (xs := xs) (by omega) (by omega)
  have st1 : st p_law_chart rpD fuel (.asg (.nm 10) (.call 13 [(.var 5), (.var 6)] [])) [some b, x1, some (.int wide), some (.int n), some (.lst (Is (St n))), some (.lst (Is fs)), some (.lst (Prs ps)), x7, x8, some d, x10, x11, x12, x13, x14, x15, x16, x17] = .ok (.nx [some b, x1, some (.int wide), some (.int n), some (.lst (Is (St n))), some (.lst (Is fs)), some (.lst (Prs ps)), x7, x8, some d, some (.lst (Is xs)), x11, x12, x13, x14, x15, x16, x17]) := by
    simp only [sts, st, ev, evs, evc, rd_zero, rd_succ, ok_bind, pure_ok, ofO_some, grd_true, List.set_cons_zero, List.set_cons_succ, getAll, putAll, setT, setTs, List.length_cons, List.length_nil, intOf, Bool.and_true, Bool.true_and, if_true, if_false, Bool.false_eq_true, Nat.zero_add, Nat.reduceAdd, Nat.reduceLT, decide_true, decide_false, true_and, and_true, Int.reduceAdd, Int.reduceLT, Int.reduceNeg, hP13, e1]
  have st2 : st p_law_chart rpD fuel (.asg (.nm 11) (.lc (.nm 12) (.var 4) [(.cmp .notin (.var 12) (.var 10))] (.var 12))) [some b, x1, some (.int wide), some (.int n), some (.lst (Is (St n))), some (.lst (Is fs)), some (.lst (Prs ps)), x7, x8, some d, some (.lst (Is xs)), x11, x12, x13, x14, x15, x16, x17] = .ok (.nx [some b, x1, some (.int wide), some (.int n), some (.lst (Is (St n))), some (.lst (Is fs)), some (.lst (Prs ps)), x7, x8, some d, some (.lst (Is xs)), some (.lst (Is us)), x12, x13, x14, x15, x16, x17]) := by
    generalize E.lc _ _ _ _ = z at e2 ⊢
    simp only [sts, st, ev, evs, evc, rd_zero, rd_succ, ok_bind, pure_ok, ofO_some, grd_true, List.set_cons_zero, List.set_cons_succ, getAll, putAll, setT, setTs, List.length_cons, List.length_nil, intOf, Bool.and_true, Bool.true_and, if_true, if_false, Bool.false_eq_true, Nat.zero_add, Nat.reduceAdd, Nat.reduceLT, decide_true, decide_false, true_and, and_true, Int.reduceAdd, Int.reduceLT, Int.reduceNeg, e2]
  have st3 : st p_law_chart rpD fuel (.asg (.nm 13) (.lc (.nm 12) (.var 10) [(.cmp .lt (.bi .len [(.lc (.nm 14) (.var 6) [(.cmp .eq (.idx (.var 14) (.int 0)) (.var 12))] (.var 14))]) (.var 2))] (.var 12))) [some b, x1, some (.int wide), some (.int n), some (.lst (Is (St n))), some (.lst (Is fs)), some (.lst (Prs ps)), x7, x8, some d, some (.lst (Is xs)), some (.lst (Is us)), x12, x13, x14, x15, x16, x17] = .ok (.nx [some b, x1, some (.int wide), some (.int n), some (.lst (Is (St n))), some (.lst (Is fs)), some (.lst (Prs ps)), x7, x8, some d, some (.lst (Is xs)), some (.lst (Is us)), x12, some (.lst (Is vs)), x14, x15, x16, x17]) := by
    generalize E.lc _ _ _ _ = z at e3 ⊢
    simp only [sts, st, ev, evs, evc, rd_zero, rd_succ, ok_bind, pure_ok, ofO_some, grd_true, List.set_cons_zero, List.set_cons_succ, getAll, putAll, setT, setTs, List.length_cons, List.length_nil, intOf, Bool.and_true, Bool.true_and, if_true, if_false, Bool.false_eq_true, Nat.zero_add, Nat.reduceAdd, Nat.reduceLT, decide_true, decide_false, true_and, and_true, Int.reduceAdd, Int.reduceLT, Int.reduceNeg, e3]
  cases us with
  | nil =>
    refine ⟨fs, ps, b, some (.lst (Is xs)), some (.lst (Is [])), some (.lst (Is vs)), sts_nx st1 (sts_nx st2 (sts_nx st3 (sts_nx (st_ite_f (x := .bl false) (r1 := [some b, x1, some (.int wide), some (.int n), some (.lst (Is (St n))), some (.lst (Is fs)), some (.lst (Prs ps)), x7, x8, some d, some (.lst (Is xs)), some (.lst (Is [])), x12, some (.lst (Is vs)), x14, x15, x16, x17]) ?_ rfl (sts_nx (st_ite_f (x := .bl false) (r1 := [some b, x1, some (.int wide), some (.int n), some (.lst (Is (St n))), some (.lst (Is fs)), some (.lst (Prs ps)), x7, x8, some d, some (.lst (Is xs)), some (.lst (Is [])), x12, some (.lst (Is vs)), x14, x15, x16, x17]) ?_ rfl rfl) rfl)) rfl))), nd, hf, hp, by omega, hb.le (by omega)⟩
    · simp only [sts, st, ev, evs, evc, rd_zero, rd_succ, ok_bind, pure_ok, ofO_some, grd_true, List.set_cons_zero, List.set_cons_succ, getAll, putAll, setT, setTs, List.length_cons, List.length_nil, intOf, Bool.and_true, Bool.true_and, if_true, if_false, Bool.false_eq_true, Nat.zero_add, Nat.reduceAdd, Nat.reduceLT, decide_true, decide_false, true_and, and_true, Int.reduceAdd, Int.reduceLT, Int.reduceNeg, ne_nil, truth, List.isEmpty_nil, Bool.not_true]
    · simp only [sts, st, ev, evs, evc, rd_zero, rd_succ, ok_bind, pure_ok, ofO_some, grd_true, List.set_cons_zero, List.set_cons_succ, getAll, putAll, setT, setTs, List.length_cons, List.length_nil, intOf, Bool.and_true, Bool.true_and, if_true, if_false, Bool.false_eq_true, Nat.zero_add, Nat.reduceAdd, Nat.reduceLT, decide_true, decide_false, true_and, and_true, Int.reduceAdd, Int.reduceLT, Int.reduceNeg, ne_nil, truth, List.isEmpty_nil, Bool.not_true]
  | cons u us =>
    obtain ⟨hu1, hu2⟩ := hu u (by simp)
    have nd' : (fs ++ [u]).Nodup := List.nodup_append.mpr ⟨nd, by simp, fun a ha c hc => by simp at hc; subst hc; intro z; subst z; exact hu2 (so.2.2 _ ha)⟩
    have hf' : ∀ f ∈ fs ++ [u], Ok1 n f := fun f h => by
      rcases List.mem_append.mp h with h | h
      · exact hf f h
      · simp at h; subst h; exact hu1
    have i0 : atI (Is (u :: us)) 0 = some (.int u) := atI_nat (i := 0) rfl
    have nE : (u :: us).isEmpty = false := rfl
    have g1 : grd (decide ((Is fs).length + 1 ≤ line)) = .ok () := grd_of (decide_eq_true (by rw [Is_len]; show _ ≤ 16777216; omega))
    have g2 : grd (decide ((Prs ps).length + 1 ≤ line)) = .ok () := grd_of (decide_eq_true (by rw [Prs_len]; show _ ≤ 16777216; omega))
    cases hvs : vs with
    | nil =>
      rw [hvs] at st3
      refine ⟨fs ++ [u], ps, b, some (.lst (Is xs)), some (.lst (Is (u :: us))), some (.lst (Is [])), sts_nx st1 (sts_nx st2 (sts_nx st3 (sts_nx (st_ite_t (x := .bl true) (r1 := [some b, x1, some (.int wide), some (.int n), some (.lst (Is (St n))), some (.lst (Is fs)), some (.lst (Prs ps)), x7, x8, some d, some (.lst (Is xs)), some (.lst (Is (u :: us))), x12, some (.lst (Is [])), x14, x15, x16, x17]) ?_ rfl (sts_nx ?_ rfl)) rfl))), nd', hf', hp, by omega, hb.le (by omega)⟩
      · simp only [sts, st, ev, evs, evc, rd_zero, rd_succ, ok_bind, pure_ok, ofO_some, grd_true, List.set_cons_zero, List.set_cons_succ, getAll, putAll, setT, setTs, List.length_cons, List.length_nil, intOf, Bool.and_true, Bool.true_and, if_true, if_false, Bool.false_eq_true, Nat.zero_add, Nat.reduceAdd, Nat.reduceLT, decide_true, decide_false, true_and, and_true, Int.reduceAdd, Int.reduceLT, Int.reduceNeg, ne_nil, eq_nil, truth, nE, List.isEmpty_nil, Bool.not_false]
      · simp only [sts, st, ev, evs, evc, rd_zero, rd_succ, ok_bind, pure_ok, ofO_some, grd_true, List.set_cons_zero, List.set_cons_succ, getAll, putAll, setT, setTs, List.length_cons, List.length_nil, intOf, Bool.and_true, Bool.true_and, if_true, if_false, Bool.false_eq_true, Nat.zero_add, Nat.reduceAdd, Nat.reduceLT, decide_true, decide_false, true_and, and_true, Int.reduceAdd, Int.reduceLT, Int.reduceNeg, index, i0, binop, g1, Is_snoc]
    | cons v vs' =>
      rw [hvs] at st3 hv
      have nV : (v :: vs').isEmpty = false := rfl
      obtain ⟨w, b1, e4, w0, w1, hb1⟩ := take_ok hb (n := 4) (by omega) (by omega) (by omega)
      by_cases hw : w = 0
      · refine ⟨fs ++ [u], ps, b1, some (.lst (Is xs)), some (.lst (Is (u :: us))), some (.lst (Is (v :: vs'))), sts_nx st1 (sts_nx st2 (sts_nx st3 (sts_nx (st_ite_t (x := .bl true) (r1 := [some b1, x1, some (.int wide), some (.int n), some (.lst (Is (St n))), some (.lst (Is fs)), some (.lst (Prs ps)), x7, x8, some d, some (.lst (Is xs)), some (.lst (Is (u :: us))), x12, some (.lst (Is (v :: vs'))), x14, x15, x16, x17]) ?_ rfl (sts_nx ?_ rfl)) rfl))), nd', hf', hp, by omega, hb1.le (by omega)⟩
        · simp only [sts, st, ev, evs, evc, rd_zero, rd_succ, ok_bind, pure_ok, ofO_some, grd_true, List.set_cons_zero, List.set_cons_succ, getAll, putAll, setT, setTs, List.length_cons, List.length_nil, intOf, Bool.and_true, Bool.true_and, if_true, if_false, Bool.false_eq_true, Nat.zero_add, Nat.reduceAdd, Nat.reduceLT, decide_true, decide_false, true_and, and_true, Int.reduceAdd, Int.reduceLT, Int.reduceNeg, ne_nil, eq_nil, truth, nE, nV, Bool.not_false, hP5, e4, eq_int, hw]
        · simp only [sts, st, ev, evs, evc, rd_zero, rd_succ, ok_bind, pure_ok, ofO_some, grd_true, List.set_cons_zero, List.set_cons_succ, getAll, putAll, setT, setTs, List.length_cons, List.length_nil, intOf, Bool.and_true, Bool.true_and, if_true, if_false, Bool.false_eq_true, Nat.zero_add, Nat.reduceAdd, Nat.reduceLT, decide_true, decide_false, true_and, and_true, Int.reduceAdd, Int.reduceLT, Int.reduceNeg, index, i0, binop, g1, Is_snoc]
      · obtain ⟨y, b2, e5, hy, hb2⟩ := one_ok (t := .lst (Is (v :: vs'))) rfl hb1 (by simp [Is]) (by
          rw [Is_len, ← hvs]
          omega) (by omega)
        obtain ⟨s, hs, rfl⟩ := Is_mem hy
        refine ⟨fs, ps ++ [(s, u)], b2, some (.lst (Is xs)), some (.lst (Is (u :: us))), some (.lst (Is (v :: vs'))), sts_nx st1 (sts_nx st2 (sts_nx st3 (sts_nx (st_ite_f (x := .bl false) (r1 := [some b1, x1, some (.int wide), some (.int n), some (.lst (Is (St n))), some (.lst (Is fs)), some (.lst (Prs ps)), x7, x8, some d, some (.lst (Is xs)), some (.lst (Is (u :: us))), x12, some (.lst (Is (v :: vs'))), x14, x15, x16, x17]) ?_ rfl (sts_nx (st_ite_t (x := .bl true) (r1 := [some b1, x1, some (.int wide), some (.int n), some (.lst (Is (St n))), some (.lst (Is fs)), some (.lst (Prs ps)), x7, x8, some d, some (.lst (Is xs)), some (.lst (Is (u :: us))), x12, some (.lst (Is (v :: vs'))), x14, x15, x16, x17]) ?_ rfl (sts_nx ?_ rfl)) rfl)) rfl))), nd, hf, fun p hp' => ?_, by simp, hb2.le (by omega)⟩
        · simp only [sts, st, ev, evs, evc, rd_zero, rd_succ, ok_bind, pure_ok, ofO_some, grd_true, List.set_cons_zero, List.set_cons_succ, getAll, putAll, setT, setTs, List.length_cons, List.length_nil, intOf, Bool.and_true, Bool.true_and, if_true, if_false, Bool.false_eq_true, Nat.zero_add, Nat.reduceAdd, Nat.reduceLT, decide_true, decide_false, true_and, and_true, Int.reduceAdd, Int.reduceLT, Int.reduceNeg, ne_nil, eq_nil, truth, nE, nV, Bool.not_false, hP5, e4, eq_int, hw]
        · simp only [sts, st, ev, evs, evc, rd_zero, rd_succ, ok_bind, pure_ok, ofO_some, grd_true, List.set_cons_zero, List.set_cons_succ, getAll, putAll, setT, setTs, List.length_cons, List.length_nil, intOf, Bool.and_true, Bool.true_and, if_true, if_false, Bool.false_eq_true, Nat.zero_add, Nat.reduceAdd, Nat.reduceLT, decide_true, decide_false, true_and, and_true, Int.reduceAdd, Int.reduceLT, Int.reduceNeg, ne_nil, truth, nE, Bool.not_false]
        · simp only [sts, st, ev, evs, evc, rd_zero, rd_succ, ok_bind, pure_ok, ofO_some, grd_true, List.set_cons_zero, List.set_cons_succ, getAll, putAll, setT, setTs, List.length_cons, List.length_nil, intOf, Bool.and_true, Bool.true_and, if_true, if_false, Bool.false_eq_true, Nat.zero_add, Nat.reduceAdd, Nat.reduceLT, decide_true, decide_false, true_and, and_true, Int.reduceAdd, Int.reduceLT, Int.reduceNeg, hP6, e5, index, i0, binop, g2, Prs_snoc]
        · rcases List.mem_append.mp hp' with h | h
          · exact hp p h
          · simp at h; subst h; exact ⟨so.2.1 _ (hv s hs), hu1⟩
/-- names of stands -/
def nmI (ns : List Int) (x : Int) : Int := (ns[x.toNat]?).getD 0
theorem nm_at {ns : List Int} {x : Int} (pm : ns.Perm (St n)) (hx : Ok1 n x) : atI (Is ns) x = some (.int (nmI ns x)) ∧ Ok1 n (nmI ns x) := by
  have l := pm.length_eq
  rw [St_len] at l
  obtain ⟨h1, h2⟩ := hx
  have hl : x.toNat < ns.length := by omega
  have e : ns[x.toNat]? = some ns[x.toNat] := List.getElem?_eq_getElem hl
  have e2 : nmI ns x = ns[x.toNat] := by unfold nmI; rw [e]; rfl
  refine ⟨?_, ?_⟩
  · have := atI_nat (xs := Is ns) (i := x.toNat) (x := .int (nmI ns x)) (by rw [Is, List.getElem?_map, e, e2]; rfl)
    rwa [show ((x.toNat : Nat) : Int) = x by omega] at this
  · rw [e2]
    exact St_mem (pm.mem_iff.mp (List.getElem_mem hl))
theorem nm_inj {ns : List Int} {x y : Int} (pm : ns.Perm (St n)) (hx : Ok1 n x) (hy : Ok1 n y) (e : nmI ns x = nmI ns y) : x = y := by
  have nd : ns.Nodup := pm.nodup_iff.mpr (St_nodup n)
  have l := pm.length_eq
  rw [St_len] at l
  obtain ⟨h1, h2⟩ := hx
  obtain ⟨h3, h4⟩ := hy
  have a1 : x.toNat < ns.length := by omega
  have a2 : y.toNat < ns.length := by omega
  have e1 : nmI ns x = ns[x.toNat] := by unfold nmI; rw [List.getElem?_eq_getElem a1]; rfl
  have e2 : nmI ns y = ns[y.toNat] := by unfold nmI; rw [List.getElem?_eq_getElem a2]; rfl
  rw [e1, e2] at e
  have := (List.getElem_inj nd).mp e
  omega
theorem ch_firsts {ns fs : List Int} (hn2 : n ≤ 63) (pm : ns.Perm (St n)) (hf : ∀ f ∈ fs, Ok1 n f) (nd : fs.Nodup) : ev p_law_chart rpD (.lc (.nm 12) (.var 5) [] (.idx (.var 15) (.var 12))) [some b, x1, x2, x3, x4, some (.lst (Is fs)), x6, x7, x8, x9, x10, x11, x12, x13, x14, some (.lst (Is ns)), x16, x17] = .ok (.lst (Is (fs.map (nmI ns))), [some b, x1, x2, x3, x4, some (.lst (Is fs)), x6, x7, x8, x9, x10, x11, x12, x13, x14, some (.lst (Is ns)), x16, x17]) := by
  have lf := nodup_len n fs nd hf
  obtain ⟨r', e1, w12, er⟩ := ev_lcF (P := p_law_chart) (rp := rpD) (t := .nm 12) (it := .var 5) (cs := []) (e := .idx (.var 15) (.var 12))
    (r := [some b, x1, x2, x3, x4, some (.lst (Is fs)), x6, x7, x8, x9, x10, x11, x12, x13, x14, some (.lst (Is ns)), x16, x17]) (r0 := [some b, x1, x2, x3, x4, some (.lst (Is fs)), x6, x7, x8, x9, x10, x11, x12, x13, x14, some (.lst (Is ns)), x16, x17]) (x := .lst (Is fs)) (xs := Is fs) rfl rfl
    (fun d => some (match d with | .int x => .int (nmI ns x) | _ => .non))
    (fun r => ∃ w12, r = [some b, x1, x2, x3, x4, some (.lst (Is fs)), x6, x7, x8, x9, x10, x11, w12, x13, x14, some (.lst (Is ns)), x16, x17]) ⟨x12, rfl⟩ (by rw [Is_len]; show _ ≤ 16777216; omega) fun d r hd ⟨w, er⟩ => by
      subst er
      obtain ⟨x, hx, rfl⟩ := Is_mem hd
      refine ⟨[some b, x1, x2, x3, x4, some (.lst (Is fs)), x6, x7, x8, x9, x10, x11, some (.int x), x13, x14, some (.lst (Is ns)), x16, x17], by simp only [sts, st, ev, evs, evc, rd_zero, rd_succ, ok_bind, pure_ok, ofO_some, grd_true, List.set_cons_zero, List.set_cons_succ, getAll, putAll, setT, setTs, List.length_cons, List.length_nil, intOf, Bool.and_true, Bool.true_and, if_true, if_false, Bool.false_eq_true, Nat.zero_add, Nat.reduceAdd, Nat.reduceLT, decide_true, decide_false, true_and, and_true, Int.reduceAdd, Int.reduceLT, Int.reduceNeg, clr, Tg.slots], .inr ⟨[some b, x1, x2, x3, x4, some (.lst (Is fs)), x6, x7, x8, x9, x10, x11, some (.int x), x13, x14, some (.lst (Is ns)), x16, x17], .int (nmI ns x), [some b, x1, x2, x3, x4, some (.lst (Is fs)), x6, x7, x8, x9, x10, x11, some (.int x), x13, x14, some (.lst (Is ns)), x16, x17], rfl, ?_, rfl, ⟨_, rfl⟩⟩⟩
      simp only [sts, st, ev, evs, evc, rd_zero, rd_succ, ok_bind, pure_ok, ofO_some, grd_true, List.set_cons_zero, List.set_cons_succ, getAll, putAll, setT, setTs, List.length_cons, List.length_nil, intOf, Bool.and_true, Bool.true_and, if_true, if_false, Bool.false_eq_true, Nat.zero_add, Nat.reduceAdd, Nat.reduceLT, decide_true, decide_false, true_and, and_true, Int.reduceAdd, Int.reduceLT, Int.reduceNeg, index, (nm_at pm (hf x hx)).1]
  subst er
  rw [e1, List.filterMap_eq_map']
  have : (Is fs).map (fun d => match d with | .int x => D.int (nmI ns x) | _ => .non) = Is (fs.map (nmI ns)) := by
    unfold Is
    rw [List.map_map, List.map_map]
    rfl
  rw [this]
  rfl
theorem ch_pairs {ns : List Int} {qs : List (Int × Int)} {it : E} {r : Env} (hn2 : n ≤ 63) (pm : ns.Perm (St n)) (hq : ∀ q ∈ qs, Ok2 n q) (lq : qs.length ≤ 1000000) (hi : ev p_law_chart rpD it r = .ok (.lst (Prs qs), [some b, x1, x2, x3, x4, x5, x6, x7, x8, x9, x10, x11, x12, x13, x14, some (.lst (Is ns)), x16, x17])) :
    ∃ ps, ev p_law_chart rpD (.lc (.tup [(.nm 16), (.nm 17)]) it [] (.tup [(.idx (.var 15) (.var 16)), (.idx (.var 15) (.var 17))])) r = .ok (.lst (Prs ps), [some b, x1, x2, x3, x4, x5, x6, x7, x8, x9, x10, x11, x12, x13, x14, some (.lst (Is ns)), x16, x17]) ∧ ps.length = qs.length ∧ ∀ p ∈ ps, Ok2 n p := by
  obtain ⟨r', e1, w16, w17, er⟩ := ev_lcF (P := p_law_chart) (rp := rpD) (t := .tup [(.nm 16), (.nm 17)]) (cs := []) (e := .tup [(.idx (.var 15) (.var 16)), (.idx (.var 15) (.var 17))]) hi rfl
    (fun d => some (match d with | .tup [.int x, .int y] => .tup [.int (nmI ns x), .int (nmI ns y)] | _ => .non))
    (fun r => ∃ w16 w17, r = [some b, x1, x2, x3, x4, x5, x6, x7, x8, x9, x10, x11, x12, x13, x14, some (.lst (Is ns)), w16, w17]) ⟨x16, x17, rfl⟩ (by rw [Prs_len]; show _ ≤ 16777216; omega) fun d r hd ⟨w16, w17, er⟩ => by
      subst er
      obtain ⟨x, y, hx, rfl⟩ := Prs_mem hd
      obtain ⟨h1, h2⟩ := hq _ hx
      refine ⟨[some b, x1, x2, x3, x4, x5, x6, x7, x8, x9, x10, x11, x12, x13, x14, some (.lst (Is ns)), some (.int x), some (.int y)], by simp only [sts, st, ev, evs, evc, rd_zero, rd_succ, ok_bind, pure_ok, ofO_some, grd_true, List.set_cons_zero, List.set_cons_succ, getAll, putAll, setT, setTs, List.length_cons, List.length_nil, intOf, Bool.and_true, Bool.true_and, if_true, if_false, Bool.false_eq_true, Nat.zero_add, Nat.reduceAdd, Nat.reduceLT, decide_true, decide_false, true_and, and_true, Int.reduceAdd, Int.reduceLT, Int.reduceNeg, clr, Tg.slots, Tg.slotss, List.append_nil, List.cons_append, List.nil_append], .inr ⟨[some b, x1, x2, x3, x4, x5, x6, x7, x8, x9, x10, x11, x12, x13, x14, some (.lst (Is ns)), some (.int x), some (.int y)], .tup [.int (nmI ns x), .int (nmI ns y)], [some b, x1, x2, x3, x4, x5, x6, x7, x8, x9, x10, x11, x12, x13, x14, some (.lst (Is ns)), some (.int x), some (.int y)], rfl, ?_, rfl, ⟨_, _, rfl⟩⟩⟩
      simp only [sts, st, ev, evs, evc, rd_zero, rd_succ, ok_bind, pure_ok, ofO_some, grd_true, List.set_cons_zero, List.set_cons_succ, getAll, putAll, setT, setTs, List.length_cons, List.length_nil, intOf, Bool.and_true, Bool.true_and, if_true, if_false, Bool.false_eq_true, Nat.zero_add, Nat.reduceAdd, Nat.reduceLT, decide_true, decide_false, true_and, and_true, Int.reduceAdd, Int.reduceLT, Int.reduceNeg, index, (nm_at pm h1).1, (nm_at pm h2).1]
  subst er
  rw [List.filterMap_eq_map'] at e1
  have : (Prs qs).map (fun d => match d with | .tup [.int x, .int y] => D.tup [.int (nmI ns x), .int (nmI ns y)] | _ => .non) = Prs (qs.map fun q => (nmI ns q.1, nmI ns q.2)) := by
    unfold Prs
    rw [List.map_map, List.map_map]
    rfl
  rw [this] at e1
  refine ⟨_, by rw [e1]; rfl, by simp, fun p hp => ?_⟩
  obtain ⟨q, h, rfl⟩ := List.mem_map.mp hp
  exact ⟨(nm_at pm (hq q h).1).2, (nm_at pm (hq q h).2).2⟩
end
end C

set_option linter.all false
set_option maxHeartbeats 2000000
set_option maxRecDepth 100000
namespace C
open PySem (Str)
theorem chart_ok {k : Nat} {most wide : Int} {b : D} (hb : Bag k b) (hm : 1 ≤ most ∧ most ≤ 63) (hw : 1 ≤ wide ∧ wide ≤ 9) (hk : k < 500000000) :
    ∃ c n fs ts b', m_law_chart [.int most, .int wide] [b] = .ok (c, [b']) ∧ ChartOk most.toNat n c fs ts ∧ Bag (k + 6000) b' := by
  have hP5 : p_law_chart 5 = m_law_take := rfl
  have hP6 : p_law_chart 6 = m_law_one := rfl
  have hP7 : p_law_chart 7 = m_law_mixed := rfl
  have hP11 : p_law_chart 11 = m_law_planted := rfl
  have hP12 : p_law_chart 12 = m_law_narrow := rfl
  have hP14 : p_law_chart 14 = m_law_numbered := rfl
  obtain ⟨u, b1, e1, u0, u1, hb1⟩ := take_ok hb (n := most) (by omega) (by omega) (by omega)
  obtain ⟨n, hnn⟩ : ∃ n : Nat, 1 + u = (n : Int) := ⟨(1 + u).toNat, by omega⟩
  have hn : 0 < n := by omega
  have hn2 : n ≤ 63 := by omega
  -- count, stands
  have st1 : st p_law_chart rpD fuel (.asg (.nm 3) (.bin .add (.int 1) (.call 5 [(.var 1)] [0]))) [some b, some (.int most), some (.int wide), none, none, none, none, none, none, none, none, none, none, none, none, none, none, none] = .ok (.nx [some b1, some (.int most), some (.int wide), some (.int n), none, none, none, none, none, none, none, none, none, none, none, none, none, none]) := by
    simp only [sts, st, ev, evs, evc, rd_zero, rd_succ, ok_bind, pure_ok, ofO_some, grd_true, List.set_cons_zero, List.set_cons_succ, getAll, putAll, setT, setTs, List.length_cons, List.length_nil, intOf, Bool.and_true, Bool.true_and, if_true, if_false, Bool.false_eq_true, Nat.zero_add, Nat.reduceAdd, Nat.reduceLT, decide_true, decide_false, true_and, and_true, Int.reduceAdd, Int.reduceLT, Int.reduceNeg, hP5, e1, binop, hnn]
  have st2 : st p_law_chart rpD fuel (.asg (.nm 4) (.bi .list [(.bi .range1 [(.var 3)])])) [some b1, some (.int most), some (.int wide), some (.int n), none, none, none, none, none, none, none, none, none, none, none, none, none, none] = .ok (.nx [some b1, some (.int most), some (.int wide), some (.int n), some (.lst (Is (St n))), none, none, none, none, none, none, none, none, none, none, none, none, none]) := by
    have h1 := ev_stands (P := p_law_chart) hn2 (i := 3) (r := [some b1, some (.int most), some (.int wide), some (.int n), none, none, none, none, none, none, none, none, none, none, none, none, none, none]) rfl
    generalize E.bi Bi.list _ = z at h1 ⊢
    simp only [sts, st, ev, evs, evc, rd_zero, rd_succ, ok_bind, pure_ok, ofO_some, grd_true, List.set_cons_zero, List.set_cons_succ, getAll, putAll, setT, setTs, List.length_cons, List.length_nil, intOf, Bool.and_true, Bool.true_and, if_true, if_false, Bool.false_eq_true, Nat.zero_add, Nat.reduceAdd, Nat.reduceLT, decide_true, decide_false, true_and, and_true, Int.reduceAdd, Int.reduceLT, Int.reduceNeg, h1]
  -- firsts, pairs
  obtain ⟨ys, b2, e2, pm2, hb2⟩ := mixed_ok (t := .lst (Is (St n))) rfl hb1 (by rw [Is_len, St_len]; omega) (by omega)
  obtain ⟨ms, rfl, pi2⟩ := Is_perm pm2
  rw [Is_len, St_len] at hb2
  obtain ⟨y, b3, e3, hy, hb3⟩ := one_ok (t := .lst [.int 1, .int 1, .int 2, .int 3]) rfl hb2 (by simp) (by simp) (by omega)
  obtain ⟨w, rfl⟩ : ∃ w, y = .int w := by
    simp only [List.mem_cons, List.not_mem_nil, or_false] at hy
    rcases hy with rfl | rfl | rfl | rfl <;> exact ⟨_, rfl⟩
  obtain ⟨ps0, b4, e4, hp0, lp0, hb4⟩ := planted_ok (n := n) (wide := wide) hn hn2 hw hb3 (by omega)
  obtain ⟨fs0, hf0⟩ : ∃ fs0, cut ms none (some w) = fs0 := ⟨_, rfl⟩
  have cf : cut (Is ms) none (some w) = Is fs0 := by rw [← hf0]; exact cut_map _ _ _ _
  have nm2 : ms.Nodup := pi2.nodup_iff.mpr (St_nodup n)
  have nf0 : fs0.Nodup := by
    rw [← hf0]
    exact (nm2.sublist (List.drop_sublist _ _)).sublist (List.take_sublist _ _)
  have of0 : ∀ f ∈ fs0, Ok1 n f := fun f h => by
    rw [← hf0] at h
    exact St_mem (pi2.mem_iff.mp (cut_mem h))
  have st3 : st p_law_chart rpD fuel (.par [5, 6] [(.slc (.call 7 [(.var 4)] [0]) [] [(.call 6 [(.lst [(.int 1), (.int 1), (.int 2), (.int 3)])] [0])]), (.call 11 [(.var 3), (.var 2)] [0])]) [some b1, some (.int most), some (.int wide), some (.int n), some (.lst (Is (St n))), none, none, none, none, none, none, none, none, none, none, none, none, none] = .ok (.nx [some b4, some (.int most), some (.int wide), some (.int n), some (.lst (Is (St n))), some (.lst (Is fs0)), some (.lst (Prs ps0)), none, none, none, none, none, none, none, none, none, none, none]) := by
    simp only [sts, st, ev, evs, evc, rd_zero, rd_succ, ok_bind, pure_ok, ofO_some, grd_true, List.set_cons_zero, List.set_cons_succ, getAll, putAll, setT, setTs, List.length_cons, List.length_nil, intOf, Bool.and_true, Bool.true_and, if_true, if_false, Bool.false_eq_true, Nat.zero_add, Nat.reduceAdd, Nat.reduceLT, decide_true, decide_false, true_and, and_true, Int.reduceAdd, Int.reduceLT, Int.reduceNeg, hP7, e2, hP6, e3, hP11, e4, binop, index, slice, cmpop, truth, bi, intsD, List.head?_cons, List.head?_nil, setIx, isInt, mu, lstOf, cf]
  -- more
  obtain ⟨qs, b5, e5, lq, hq, hb5⟩ := ch_more (n := n) (b := b4) (x1 := some (.int most)) (x2 := some (.int wide)) (x5 := some (.lst (Is fs0))) (x6 := some (.lst (Prs ps0))) (x7 := none) (x8 := none) (x9 := none) (x10 := none) (x11 := none) (x12 := none) (x13 := none) (x14 := none) (x15 := none) (x16 := none) (x17 := none) hn hn2 hb4 (by omega)
  have st4 : st p_law_chart rpD fuel (.asg (.nm 7) (.lc (.nm 8) (.bi .range1 [(.call 6 [(.lst [(.int 0), (.int 1), (.int 0), (.int 2)])] [0])]) [] (.tup [(.call 6 [(.var 4)] [0]), (.call 6 [(.var 4)] [0])]))) [some b4, some (.int most), some (.int wide), some (.int n), some (.lst (Is (St n))), some (.lst (Is fs0)), some (.lst (Prs ps0)), none, none, none, none, none, none, none, none, none, none, none] = .ok (.nx [some b5, some (.int most), some (.int wide), some (.int n), some (.lst (Is (St n))), some (.lst (Is fs0)), some (.lst (Prs ps0)), some (.lst (Prs qs)), none, none, none, none, none, none, none, none, none, none]) := by
    generalize E.lc _ _ _ _ = z at e5 ⊢
    simp only [sts, st, ev, evs, evc, rd_zero, rd_succ, ok_bind, pure_ok, ofO_some, grd_true, List.set_cons_zero, List.set_cons_succ, getAll, putAll, setT, setTs, List.length_cons, List.length_nil, intOf, Bool.and_true, Bool.true_and, if_true, if_false, Bool.false_eq_true, Nat.zero_add, Nat.reduceAdd, Nat.reduceLT, decide_true, decide_false, true_and, and_true, Int.reduceAdd, Int.reduceLT, Int.reduceNeg, e5]
  obtain ⟨ps1, e6, sb⟩ := narrow_ok (ps := ps0 ++ qs) (wide := wide) (t := .lst (Prs (ps0 ++ qs))) rfl (by rw [List.length_append]; omega)
  have hp1 : ∀ p ∈ ps1, Ok2 n p := fun p h => by
    rcases List.mem_append.mp (sb.subset h) with h | h
    · exact hp0 p h
    · exact hq p h
  have lp1 : ps1.length ≤ 9 * n + 255 := by
    have := sb.length_le
    rw [List.length_append] at this
    omega
  have st5 : st p_law_chart rpD fuel (.asg (.nm 6) (.call 12 [(.bin .add (.var 6) (.var 7)), (.var 2)] [])) [some b5, some (.int most), some (.int wide), some (.int n), some (.lst (Is (St n))), some (.lst (Is fs0)), some (.lst (Prs ps0)), some (.lst (Prs qs)), none, none, none, none, none, none, none, none, none, none] = .ok (.nx [some b5, some (.int most), some (.int wide), some (.int n), some (.lst (Is (St n))), some (.lst (Is fs0)), some (.lst (Prs ps1)), some (.lst (Prs qs)), none, none, none, none, none, none, none, none, none, none]) := by
    have g1 : grd (decide ((Prs ps0).length + (Prs qs).length ≤ line)) = .ok () := grd_of (decide_eq_true (by rw [Prs_len, Prs_len]; show _ ≤ 16777216; omega))
    simp only [sts, st, ev, evs, evc, rd_zero, rd_succ, ok_bind, pure_ok, ofO_some, grd_true, List.set_cons_zero, List.set_cons_succ, getAll, putAll, setT, setTs, List.length_cons, List.length_nil, intOf, Bool.and_true, Bool.true_and, if_true, if_false, Bool.false_eq_true, Nat.zero_add, Nat.reduceAdd, Nat.reduceLT, decide_true, decide_false, true_and, and_true, Int.reduceAdd, Int.reduceLT, Int.reduceNeg, binop, g1, Prs_app, hP12, e6]
  -- the turns
  obtain ⟨r6, e7, fs, ps, b6, y9, y10, y11, y12, y13, er, nf, hf, hp, lp, hb6⟩ := st_forI (P := p_law_chart) (rp := rpD) (n := fuel) (t := .nm 9) (it := .bi .range1 [(.var 3)]) (b := [.asg (.nm 10) (.call 13 [(.var 5), (.var 6)] []), .asg (.nm 11) (.lc (.nm 12) (.var 4) [(.cmp .notin (.var 12) (.var 10))] (.var 12)), .asg (.nm 13) (.lc (.nm 12) (.var 10) [(.cmp .lt (.bi .len [(.lc (.nm 14) (.var 6) [(.cmp .eq (.idx (.var 14) (.int 0)) (.var 12))] (.var 14))]) (.var 2))] (.var 12)), .ite (.and (.cmp .ne (.var 11) (.lst [])) (.or (.cmp .eq (.var 13) (.lst [])) (.cmp .eq (.call 5 [(.int 4)] [0]) (.int 0)))) [.asg (.nm 5) (.bin .add (.var 5) (.lst [(.idx (.var 11) (.int 0))]))] [.ite (.cmp .ne (.var 11) (.lst [])) [.asg (.nm 6) (.bin .add (.var 6) (.lst [(.tup [(.call 6 [(.var 13)] [0]), (.idx (.var 11) (.int 0))])]))] []]])
    (r := [some b5, some (.int most), some (.int wide), some (.int n), some (.lst (Is (St n))), some (.lst (Is fs0)), some (.lst (Prs ps1)), some (.lst (Prs qs)), none, none, none, none, none, none, none, none, none, none]) (r0 := [some b5, some (.int most), some (.int wide), some (.int n), some (.lst (Is (St n))), some (.lst (Is fs0)), some (.lst (Prs ps1)), some (.lst (Prs qs)), none, none, none, none, none, none, none, none, none, none]) (x := .lst (Is (St n))) (ds := Is (St n)) (by
      have h1 := ev_bi1 (P := p_law_chart) (ev_var (i := 3) (r := [some b5, some (.int most), some (.int wide), some (.int n), some (.lst (Is (St n))), some (.lst (Is fs0)), some (.lst (Prs ps1)), some (.lst (Prs qs)), none, none, none, none, none, none, none, none, none, none]) rfl) (bi_range1 (k := (n : Int)) (by omega) (by omega))
      rw [range_St] at h1
      exact h1) rfl
    (fun i r => ∃ fs ps b' y9 y10 y11 y12 y13, r = [some b', some (.int most), some (.int wide), some (.int n), some (.lst (Is (St n))), some (.lst (Is fs)), some (.lst (Prs ps)), some (.lst (Prs qs)), none, y9, y10, y11, y12, y13, none, none, none, none] ∧ fs.Nodup ∧ (∀ f ∈ fs, Ok1 n f) ∧ (∀ p ∈ ps, Ok2 n p) ∧ ps.length ≤ 9 * n + 255 + i ∧ Bag (k + 1 + n + 1 + 1000 + 5 + 2 * i) b')
    ⟨fs0, ps1, b5, none, none, none, none, none, rfl, nf0, of0, hp1, lp1, hb5⟩ fun i d r ed ⟨fs, ps, b', y9, y10, y11, y12, y13, er, nf, hf, hp, lp, hb'⟩ => by
      subst er
      have hi := (List.getElem?_eq_some_iff.mp ed).1
      rw [Is_len, St_len] at hi
      obtain ⟨fs', ps', b'', z10, z11, z13, e, nf', hf', hp', lp', hb''⟩ := ch_turn (n := n) (b := b') (wide := wide) (x1 := some (.int most)) (x7 := some (.lst (Prs qs))) (x8 := none) (x10 := y10) (x11 := y11) (x12 := y12) (x13 := y13) (x14 := none) (x15 := none) (x16 := none) (x17 := none) (d := d) hn hn2 hb' (by omega) nf hf hp (by omega)
      exact ⟨[some b', some (.int most), some (.int wide), some (.int n), some (.lst (Is (St n))), some (.lst (Is fs)), some (.lst (Prs ps)), some (.lst (Prs qs)), none, some d, y10, y11, y12, y13, none, none, none, none], by simp only [sts, st, ev, evs, evc, rd_zero, rd_succ, ok_bind, pure_ok, ofO_some, grd_true, List.set_cons_zero, List.set_cons_succ, getAll, putAll, setT, setTs, List.length_cons, List.length_nil, intOf, Bool.and_true, Bool.true_and, if_true, if_false, Bool.false_eq_true, Nat.zero_add, Nat.reduceAdd, Nat.reduceLT, decide_true, decide_false, true_and, and_true, Int.reduceAdd, Int.reduceLT, Int.reduceNeg], _, e, fs', ps', b'', some d, z10, z11, y12, z13, rfl, nf', hf', hp', by omega, hb''.le (by omega)⟩
  subst er
  rw [Is_len, St_len] at lp hb6
  -- names
  obtain ⟨v, b7, e8, v0, v1, hb7⟩ := take_ok hb6 (n := 3) (by omega) (by omega) (by omega)
  obtain ⟨ns, b8, st7, pmn, hb8⟩ : ∃ ns b8, st p_law_chart rpD fuel (.asg (.nm 15) (.ife (.cmp .gt (.call 5 [(.int 3)] [0]) (.int 0)) (.call 7 [(.var 4)] [0]) (.var 4))) [some b6, some (.int most), some (.int wide), some (.int n), some (.lst (Is (St n))), some (.lst (Is fs)), some (.lst (Prs ps)), some (.lst (Prs qs)), none, y9, y10, y11, y12, y13, none, none, none, none] = .ok (.nx [some b8, some (.int most), some (.int wide), some (.int n), some (.lst (Is (St n))), some (.lst (Is fs)), some (.lst (Prs ps)), some (.lst (Prs qs)), none, y9, y10, y11, y12, y13, none, some (.lst (Is ns)), none, none]) ∧ ns.Perm (St n) ∧ Bag (k + 1200 + 4 * n) b8 := by
    by_cases h : 0 < v
    · obtain ⟨ys, b8, e9, pm, hb8⟩ := mixed_ok (t := .lst (Is (St n))) rfl hb7 (by rw [Is_len, St_len]; omega) (by omega)
      obtain ⟨ns, rfl, pi⟩ := Is_perm pm
      rw [Is_len, St_len] at hb8
      refine ⟨ns, b8, ?_, pi, hb8.le (by omega)⟩
      simp only [sts, st, ev, evs, evc, rd_zero, rd_succ, ok_bind, pure_ok, ofO_some, grd_true, List.set_cons_zero, List.set_cons_succ, getAll, putAll, setT, setTs, List.length_cons, List.length_nil, intOf, Bool.and_true, Bool.true_and, if_true, if_false, Bool.false_eq_true, Nat.zero_add, Nat.reduceAdd, Nat.reduceLT, decide_true, decide_false, true_and, and_true, Int.reduceAdd, Int.reduceLT, Int.reduceNeg, hP5, e8, gt_int, truth, h, hP7, e9]
    · refine ⟨St n, b7, ?_, .refl _, hb7.le (by omega)⟩
      simp only [sts, st, ev, evs, evc, rd_zero, rd_succ, ok_bind, pure_ok, ofO_some, grd_true, List.set_cons_zero, List.set_cons_succ, getAll, putAll, setT, setTs, List.length_cons, List.length_nil, intOf, Bool.and_true, Bool.true_and, if_true, if_false, Bool.false_eq_true, Nat.zero_add, Nat.reduceAdd, Nat.reduceLT, decide_true, decide_false, true_and, and_true, Int.reduceAdd, Int.reduceLT, Int.reduceNeg, hP5, e8, gt_int, truth, h]
  -- pairs
  obtain ⟨zs, b9, e10, pmp, hb9⟩ := mixed_ok (t := .lst (Prs ps)) rfl hb8 (by rw [Prs_len]; omega) (by omega)
  obtain ⟨ps2, rfl, pip⟩ := Prs_perm pmp
  rw [Prs_len] at hb9
  have lp2 := pip.length_eq
  obtain ⟨ps3, e11, lp3, hp3⟩ := ch_pairs (n := n) (b := b9) (x1 := some (.int most)) (x2 := some (.int wide)) (x3 := some (.int n)) (x4 := some (.lst (Is (St n)))) (x5 := some (.lst (Is fs))) (x6 := some (.lst (Prs ps))) (x7 := some (.lst (Prs qs))) (x8 := none) (x9 := y9) (x10 := y10) (x11 := y11) (x12 := y12) (x13 := y13) (x14 := none) (x16 := none) (x17 := none) (ns := ns) (qs := ps2) (it := .call 7 [(.var 6)] [0])
    (r := [some b8, some (.int most), some (.int wide), some (.int n), some (.lst (Is (St n))), some (.lst (Is fs)), some (.lst (Prs ps)), some (.lst (Prs qs)), none, y9, y10, y11, y12, y13, none, some (.lst (Is ns)), none, none]) hn2 pmn (fun q h => hp q (pip.mem_iff.mp h)) (by omega) (by simp only [sts, st, ev, evs, evc, rd_zero, rd_succ, ok_bind, pure_ok, ofO_some, grd_true, List.set_cons_zero, List.set_cons_succ, getAll, putAll, setT, setTs, List.length_cons, List.length_nil, intOf, Bool.and_true, Bool.true_and, if_true, if_false, Bool.false_eq_true, Nat.zero_add, Nat.reduceAdd, Nat.reduceLT, decide_true, decide_false, true_and, and_true, Int.reduceAdd, Int.reduceLT, Int.reduceNeg, hP7, e10])
  have st8 : st p_law_chart rpD fuel (.asg (.nm 6) (.lc (.tup [(.nm 16), (.nm 17)]) (.call 7 [(.var 6)] [0]) [] (.tup [(.idx (.var 15) (.var 16)), (.idx (.var 15) (.var 17))]))) [some b8, some (.int most), some (.int wide), some (.int n), some (.lst (Is (St n))), some (.lst (Is fs)), some (.lst (Prs ps)), some (.lst (Prs qs)), none, y9, y10, y11, y12, y13, none, some (.lst (Is ns)), none, none] = .ok (.nx [some b9, some (.int most), some (.int wide), some (.int n), some (.lst (Is (St n))), some (.lst (Is fs)), some (.lst (Prs ps3)), some (.lst (Prs qs)), none, y9, y10, y11, y12, y13, none, some (.lst (Is ns)), none, none]) := by
    generalize E.lc _ _ _ _ = z at e11 ⊢
    simp only [sts, st, ev, evs, evc, rd_zero, rd_succ, ok_bind, pure_ok, ofO_some, grd_true, List.set_cons_zero, List.set_cons_succ, getAll, putAll, setT, setTs, List.length_cons, List.length_nil, intOf, Bool.and_true, Bool.true_and, if_true, if_false, Bool.false_eq_true, Nat.zero_add, Nat.reduceAdd, Nat.reduceLT, decide_true, decide_false, true_and, and_true, Int.reduceAdd, Int.reduceLT, Int.reduceNeg, e11]
  -- the end
  have e12 := ch_firsts (n := n) (b := b9) (x1 := some (.int most)) (x2 := some (.int wide)) (x3 := some (.int n)) (x4 := some (.lst (Is (St n)))) (x6 := some (.lst (Prs ps3))) (x7 := some (.lst (Prs qs))) (x8 := none) (x9 := y9) (x10 := y10) (x11 := y11) (x12 := y12) (x13 := y13) (x14 := none) (x16 := none) (x17 := none) (ns := ns) (fs := fs) hn2 pmn hf nf
  obtain ⟨ts, e13, lt, ht⟩ := numbered_ok (ps := ps3) (t := .lst (Prs ps3)) rfl (by omega)
  have nfm : (fs.map (nmI ns)).Nodup := by
    rw [List.nodup_iff_pairwise_ne, List.pairwise_map]
    refine List.Pairwise.imp_of_mem ?_ (List.nodup_iff_pairwise_ne.mp nf)
    intro a c ha hc ne z
    exact ne (nm_inj pmn (hf a ha) (hf c hc) z)
  refine ⟨.tup [.int n, .tup (Is (sortI (fs.map (nmI ns)))), .tup (Trs ts)], n, sortI (fs.map (nmI ns)), ts, b9, run_ok f_law_chart (r0 := [some b, some (.int most), some (.int wide), none, none, none, none, none, none, none, none, none, none, none, none, none, none, none]) (r := [some b9, some (.int most), some (.int wide), some (.int n), some (.lst (Is (St n))), some (.lst (Is fs)), some (.lst (Prs ps3)), some (.lst (Prs qs)), none, y9, y10, y11, y12, y13, none, some (.lst (Is ns)), none, none]) rfl (sts_nx st1 (sts_nx st2 (sts_nx st3 (sts_nx st4 (sts_nx st5 (sts_nx e7 (sts_nx st7 (sts_nx st8 (sts_ret ?_))))))))) rfl,
    ⟨rfl, hn, by omega, sortI_strict nfm, fun f h => ?_, fun q h => ?_, by omega⟩, hb9.le (by omega)⟩
  · have hs : bi rpD .sorted [.lst (Is (fs.map (nmI ns)))] = .ok (.lst (Is (sortI (fs.map (nmI ns))))) := by simp only [bi, sortOk_Is, sortD_Is, ok_bind, pure_ok]
    have ht : bi rpD .tuple [.lst (Is (sortI (fs.map (nmI ns))))] = .ok (.tup (Is (sortI (fs.map (nmI ns))))) := rfl
    generalize E.lc _ _ _ _ = z at e12 ⊢
    simp only [sts, st, ev, evs, evc, rd_zero, rd_succ, ok_bind, pure_ok, ofO_some, grd_true, List.set_cons_zero, List.set_cons_succ, getAll, putAll, setT, setTs, List.length_cons, List.length_nil, intOf, Bool.and_true, Bool.true_and, if_true, if_false, Bool.false_eq_true, Nat.zero_add, Nat.reduceAdd, Nat.reduceLT, decide_true, decide_false, true_and, and_true, Int.reduceAdd, Int.reduceLT, Int.reduceNeg, e12, hs, ht, hP14, e13]
  · obtain ⟨g, hg, rfl⟩ := List.mem_map.mp ((sortI_perm _).mem_iff.mp h)
    exact (nm_at pmn (hf g hg)).2
  · obtain ⟨h1, h2, h3⟩ := ht q h
    exact ⟨(hp3 _ h1).1, (hp3 _ h1).2, h2, by omega⟩
end C

set_option linter.all false
set_option maxHeartbeats 2000000
set_option maxRecDepth 100000
set_option exponentiation.threshold 3000
namespace C
open PySem (Str)
/-! ### what is compared and shown -/
theorem alike_ok {x : D} (p : plain x = true) (p2 : pl 11 x = true) (sm : small x = true) (rm : room x ≤ 16000000) (ns : nst x = true) : m_law_alike [x, x] [] = .ok (.bl true, []) := by
  have h1 : cmpop .eq x x = .ok true := by
    simp only [cmpop, p, Bool.and_self, grd_true, ok_bind, pure_ok, eqv_refl 12 x p]
  have h2 : bi rpD .repr [x] = .ok (.str (rpD x)) := by
    have g : grd (reprOk x) = .ok () := grd_of (by unfold reprOk; rw [p, sm, decide_eq_true rm]; rfl)
    simp only [bi, g, ok_bind, pure_ok]
  have h3 : cmpop .eq (.str (rpD x)) (.str (rpD x)) = .ok true := by
    simp only [cmpop, plain, rp_plain ns, Bool.and_self, grd_true, ok_bind, pure_ok, eqv, beq_self_eq_true]
  refine run_ok f_law_alike (r0 := [some x, some x]) (r := [some x, some x]) rfl (sts_ret ?_) rfl
  simp only [sts, st, ev, evs, evc, rd_zero, rd_succ, ok_bind, pure_ok, ofO_some, grd_true, List.set_cons_zero, List.set_cons_succ, getAll, putAll, setT, setTs, List.length_cons, List.length_nil, intOf, Bool.and_true, Bool.true_and, if_true, if_false, Bool.false_eq_true, Nat.zero_add, Nat.reduceAdd, Nat.reduceLT, decide_true, decide_false, true_and, and_true, Int.reduceAdd, Int.reduceLT, Int.reduceNeg, h1, h2, h3, truth]
theorem smI {x : Int} {n : Nat} (h : x.natAbs < 2 ^ n) (hn : n ≤ 1900 := by decide) : small (.int x) = true := by
  simp only [small, sizeOk]
  exact decide_eq_true (Nat.lt_of_lt_of_le h (Nat.pow_le_pow_right (by decide) hn))
/-- ints below 2 ^ 1000 in abs -/
def Sm (xs : List Int) : Prop := ∀ x ∈ xs, x.natAbs < 2 ^ 1000
theorem smalls_Is {xs : List Int} (h : Sm xs) : smalls (Is xs) = true := smalls_of fun d hd => by obtain ⟨x, hx, rfl⟩ := Is_mem hd; exact smI (h x hx)
theorem nsts_of : ∀ {ds : List D}, (∀ d ∈ ds, nst d = true) → nsts ds = true
  | [], _ => rfl
  | d :: ds, h => by simp only [nsts, Bool.and_eq_true]; exact ⟨h d (by simp), nsts_of fun e he => h e (by simp [he])⟩
theorem nsts_Is (xs : List Int) : nsts (Is xs) = true := nsts_of fun d hd => by obtain ⟨x, hx, rfl⟩ := Is_mem hd; rfl
theorem rooms_Is (xs : List Int) : rooms (Is xs) ≤ xs.length * 602 := by
  have := rooms_of (b := 600) (ds := Is xs) fun d hd => by obtain ⟨x, hx, rfl⟩ := Is_mem hd; simp [room]
  rwa [Is_len] at this
theorem smalls_Trs {ts : List (Int × Int × Int)} (h : ∀ q ∈ ts, q.1.natAbs < 2 ^ 1000 ∧ q.2.1.natAbs < 2 ^ 1000 ∧ q.2.2.natAbs < 2 ^ 1000) : smalls (Trs ts) = true := smalls_of fun d hd => by
  obtain ⟨x, y, z, hx, rfl⟩ := Trs_mem hd
  obtain ⟨h1, h2, h3⟩ := h _ hx
  have h1 : x.natAbs < 2 ^ 1000 := h1
  have h2 : y.natAbs < 2 ^ 1000 := h2
  have h3 : z.natAbs < 2 ^ 1000 := h3
  simp only [small, smalls, Bool.and_eq_true]
  exact ⟨smI h1, smI h2, smI h3, trivial⟩
theorem nsts_Trs (ts : List (Int × Int × Int)) : nsts (Trs ts) = true := nsts_of fun d hd => by obtain ⟨x, y, z, hx, rfl⟩ := Trs_mem hd; rfl
theorem rooms_Trs (ts : List (Int × Int × Int)) : rooms (Trs ts) ≤ ts.length * 1812 := by
  have := rooms_of (b := 1810) (ds := Trs ts) fun d hd => by obtain ⟨x, y, z, hx, rfl⟩ := Trs_mem hd; simp [room, rooms]
  rwa [Trs_len] at this
theorem pls_Trs {k : Nat} (ts : List (Int × Int × Int)) : pls (k + 1) (Trs ts) = true := pls_of fun d hd => by obtain ⟨x, y, z, _, rfl⟩ := Trs_mem hd; exact plTr x y z
theorem sm_of {x : Int} (h : x.natAbs < 2 ^ 64) : x.natAbs < 2 ^ 1000 := Nat.lt_of_lt_of_le h (Nat.pow_le_pow_right (by decide) (by decide))
theorem sm_of2 {x : Int} (h : x.natAbs < 2 ^ 200) : x.natAbs < 2 ^ 1000 := Nat.lt_of_lt_of_le h (Nat.pow_le_pow_right (by decide) (by decide))
theorem mulb {a m : Int} (h1 : 0 ≤ a) (h2 : a < 64) (h3 : 0 ≤ m) (h4 : m < 64) : (a * m).natAbs ≤ 4096 := by
  rw [Int.natAbs_mul]
  exact Nat.le_trans (Nat.mul_le_mul (show a.natAbs ≤ 64 by omega) (show m.natAbs ≤ 64 by omega)) (by decide)
/-- what a chart is shown as -/
structure Sh (x : D) (r : Nat) : Prop where
  p : pl 9 x = true
  s : small x = true
  n : nst x = true
  r : room x ≤ r
theorem pl_mono : ∀ (k : Nat), (∀ d : D, pl k d = true → pl (k + 1) d = true) ∧ ∀ ds : List D, pls k ds = true → pls (k + 1) ds = true := by
  intro k
  induction k with
  | zero =>
    have h1 : ∀ d : D, pl 0 d = true → pl 1 d = true := fun d h => by
      cases d <;> first | rfl | (simp [pl] at h; done) | (simpa [pl] using h)
    refine ⟨h1, fun ds => ?_⟩
    induction ds with
    | nil => exact fun _ => rfl
    | cons d ds ih => intro h; simp only [pls, Bool.and_eq_true] at h ⊢; exact ⟨h1 d h.1, ih h.2⟩
  | succ k ih =>
    have h1 : ∀ d : D, pl (k + 1) d = true → pl (k + 1 + 1) d = true := fun d h => by
      cases d with
      | tup xs => simp only [pl] at h ⊢; exact ih.2 xs h
      | lst xs => simp only [pl] at h ⊢; exact ih.2 xs h
      | str s => simpa [pl] using h
      | dct _ _ => simp [pl] at h
      | set _ => simp [pl] at h
      | _ => rfl
    refine ⟨h1, fun ds => ?_⟩
    induction ds with
    | nil => exact fun _ => rfl
    | cons d ds ih2 => intro h; simp only [pls, Bool.and_eq_true] at h ⊢; exact ⟨h1 d h.1, ih2 h.2⟩
theorem sh_chart {n : Int} {fs : List Int} {ts : List (Int × Int × Int)} (hn : n.natAbs < 2 ^ 1000) (hf : Sm fs) (ht : ∀ q ∈ ts, q.1.natAbs < 2 ^ 1000 ∧ q.2.1.natAbs < 2 ^ 1000 ∧ q.2.2.natAbs < 2 ^ 1000) : Sh (.tup [.int n, .tup (Is fs), .tup (Trs ts)]) (700 + fs.length * 602 + ts.length * 1812) := by
  refine ⟨?_, ?_, ?_, ?_⟩
  · simp only [pl, pls, pls_Is, pls_Trs, Bool.and_self]
  · simp only [small, smalls, smalls_Is hf, smalls_Trs ht, Bool.and_true]
    exact smI hn
  · simp only [nst, nsts, nsts_Is, nsts_Trs, Bool.and_self]
  · simp only [room, rooms]
    have h1 := rooms_Is fs
    have h2 := rooms_Trs ts
    omega
theorem sh_ints {xs : List Int} (h : Sm xs) : Sh (.tup (Is xs)) (4 + xs.length * 602) := by
  refine ⟨?_, ?_, ?_, ?_⟩
  · simp only [pl, pls_Is]
  · simp only [small, smalls_Is h]
  · simp only [nst, nsts_Is]
  · simp only [room]
    have h1 := rooms_Is xs
    omega
theorem Sh.alike {x : D} {r : Nat} (h : Sh x r) (hr : r ≤ 16000000) : m_law_alike [x, x] [] = .ok (.bl true, []) := by
  have p10 := (pl_mono 9).1 x h.p
  have p11 := (pl_mono 10).1 x p10
  have p12 := (pl_mono 11).1 x p11
  exact alike_ok p12 p11 h.s (Nat.le_trans h.r hr) h.n
theorem Sh.lst {xs : List D} {r : Nat} (h : ∀ x ∈ xs, Sh x r) : pl 12 (.lst xs) = true ∧ pl 11 (.lst xs) = true ∧ small (.lst xs) = true ∧ nst (.lst xs) = true ∧ room (.lst xs) ≤ 4 + xs.length * (r + 2) := by
  have p9 : pls 9 xs = true := pls_of fun d hd => (h d hd).p
  have p10 := (pl_mono 9).2 xs p9
  have p11 := (pl_mono 10).2 xs p10
  refine ⟨?_, ?_, ?_, ?_, ?_⟩
  · simp only [pl]; exact p11
  · simp only [pl]; exact p10
  · simp only [small]; exact smalls_of fun d hd => (h d hd).s
  · simp only [nst]; exact nsts_of fun d hd => (h d hd).n
  · simp only [room]
    have := rooms_of (b := r) (ds := xs) fun d hd => (h d hd).r
    omega
end C

set_option linter.all false
set_option maxHeartbeats 1000000
set_option maxRecDepth 100000
namespace C
open PySem (Str)
/-- to be reached by pairs -/
inductive Reach (ps : List (Int × Int)) (a : Int) : Int → Prop
  | refl : Reach ps a a
  | step {x y : Int} : Reach ps a x → (x, y) ∈ ps → Reach ps a y
theorem nodup_sub : ∀ (xs ys : List Int), xs.Nodup → (∀ x ∈ xs, x ∈ ys) → xs.length ≤ ys.length
  | [], _, _, _ => by simp
  | x :: xs, ys, nd, h => by
    obtain ⟨nx, nd'⟩ := List.nodup_cons.mp nd
    have m := h x (by simp)
    have := nodup_sub xs (ys.erase x) nd' fun y hy => (List.mem_erase_of_ne (fun z => by subst z; exact nx hy)).mpr (h y (by simp [hy]))
    rw [List.length_erase_of_mem m] at this
    have l : 0 < ys.length := List.length_pos_of_mem m
    rw [List.length_cons]
    omega
def gP (g : Int → Bool) : D → Option D
  | .tup [.int x, .int y] => if g x = true then some (.int y) else none
  | _ => none
theorem gP_t {g : Int → Bool} {x y : Int} (h : g x = true) : gP g (.tup [.int x, .int y]) = some (.int y) := by simp only [gP, h, if_true]
theorem gP_f {g : Int → Bool} {x y : Int} (h : g x = false) : gP g (.tup [.int x, .int y]) = none := by simp only [gP, h, Bool.false_eq_true, if_false]
theorem fm_gP (g : Int → Bool) : ∀ ps : List (Int × Int), (Prs ps).filterMap (gP g) = Is ((ps.filter fun p => g p.1).map (·.2))
  | [] => rfl
  | (x, y) :: r => by
    have ih := fm_gP g r
    unfold Is Prs at *
    simp only [List.map_cons, List.filterMap_cons, List.filter_cons]
    cases h : g x with
    | true => simp only [gP_t h, if_true, List.map_cons]; rw [ih]
    | false => simp only [gP_f h, Bool.false_eq_true, if_false]; rw [ih]
theorem come_more2 {n : Nat} {fs xs : List Int} {ps : List (Int × Int)} {d : D} {w4 w5 w6 : Option D} (hn : n ≤ 63) (hp : ∀ p ∈ ps, Ok2 n p) (lp : ps.length ≤ 4000) : ∃ ms : List Int, st p_law_come_to rpD fuel (.asg (.nm 4) (.bi .sorted [(.bi .set [(.lc (.tup [(.nm 5), (.nm 6)]) (.var 1) [(.cmp .isin (.var 5) (.var 2))] (.var 6))])])) [some (.lst (Is fs)), some (.lst (Prs ps)), some (.lst (Is xs)), some d, w4, w5, w6] = .ok (.nx [some (.lst (Is fs)), some (.lst (Prs ps)), some (.lst (Is xs)), some d, some (.lst (Is ms)), w5, w6]) ∧ ms.Nodup ∧ (∀ x ∈ ms, Ok1 n x) ∧ ∀ y, y ∈ ms ↔ ∃ x, x ∈ xs ∧ (x, y) ∈ ps := by
  obtain ⟨r1, e1, v5, v6, er1⟩ := ev_lcF (P := p_law_come_to) (rp := rpD) (t := .tup [(.nm 5), (.nm 6)]) (it := .var 1) (cs := [(.cmp .isin (.var 5) (.var 2))]) (e := .var 6)
    (r := [some (.lst (Is fs)), some (.lst (Prs ps)), some (.lst (Is xs)), some d, w4, w5, w6]) (r0 := [some (.lst (Is fs)), some (.lst (Prs ps)), some (.lst (Is xs)), some d, w4, w5, w6]) (x := .lst (Prs ps)) (xs := Prs ps) rfl rfl
    (gP fun x => decide (x ∈ xs))
    (fun r => ∃ v5 v6, r = [some (.lst (Is fs)), some (.lst (Prs ps)), some (.lst (Is xs)), some d, w4, v5, v6]) ⟨w5, w6, rfl⟩ (by rw [Prs_len]; show _ ≤ 16777216; omega) fun d0 r hd ⟨v5, v6, er⟩ => by
      subst er
      obtain ⟨x, y, _, rfl⟩ := Prs_mem hd
      refine ⟨[some (.lst (Is fs)), some (.lst (Prs ps)), some (.lst (Is xs)), some d, w4, some (.int x), some (.int y)], by simp only [sts, st, ev, evs, evc, rd_zero, rd_succ, ok_bind, pure_ok, ofO_some, grd_true, List.set_cons_zero, List.set_cons_succ, getAll, putAll, setT, setTs, List.length_cons, List.length_nil, intOf, Bool.and_true, Bool.true_and, if_true, if_false, Bool.false_eq_true, Nat.zero_add, Nat.reduceAdd, Nat.reduceLT, decide_true, decide_false, true_and, and_true, Int.reduceAdd, Int.reduceLT, Int.reduceNeg, clr, Tg.slots, Tg.slotss, List.append_nil, List.cons_append, List.nil_append], ?_⟩
      by_cases h : x ∈ xs
      · refine .inr ⟨[some (.lst (Is fs)), some (.lst (Prs ps)), some (.lst (Is xs)), some d, w4, some (.int x), some (.int y)], .int y, [some (.lst (Is fs)), some (.lst (Prs ps)), some (.lst (Is xs)), some d, w4, some (.int x), some (.int y)], ?_, rfl, gP_t (by simp [h]), ⟨_, _, rfl⟩⟩
        simp only [sts, st, ev, evs, evc, rd_zero, rd_succ, ok_bind, pure_ok, ofO_some, grd_true, List.set_cons_zero, List.set_cons_succ, getAll, putAll, setT, setTs, List.length_cons, List.length_nil, intOf, Bool.and_true, Bool.true_and, if_true, if_false, Bool.false_eq_true, Nat.zero_add, Nat.reduceAdd, Nat.reduceLT, decide_true, decide_false, true_and, and_true, Int.reduceAdd, Int.reduceLT, Int.reduceNeg, in_Is, truth, h]
      · refine .inl ⟨[some (.lst (Is fs)), some (.lst (Prs ps)), some (.lst (Is xs)), some d, w4, some (.int x), some (.int y)], ?_, gP_f (by simp [h]), ⟨_, _, rfl⟩⟩
        simp only [sts, st, ev, evs, evc, rd_zero, rd_succ, ok_bind, pure_ok, ofO_some, grd_true, List.set_cons_zero, List.set_cons_succ, getAll, putAll, setT, setTs, List.length_cons, List.length_nil, intOf, Bool.and_true, Bool.true_and, if_true, if_false, Bool.false_eq_true, Nat.zero_add, Nat.reduceAdd, Nat.reduceLT, decide_true, decide_false, true_and, and_true, Int.reduceAdd, Int.reduceLT, Int.reduceNeg, in_Is, truth, h]
  subst er1
  rw [fm_gP (fun x => decide (x ∈ xs))] at e1
  obtain ⟨ys, hys⟩ : ∃ ys, (ps.filter fun p => decide (p.1 ∈ xs)).map (·.2) = ys := ⟨_, rfl⟩
  rw [hys] at e1
  have hy0 : ∀ y, y ∈ ys ↔ ∃ x, x ∈ xs ∧ (x, y) ∈ ps := fun y => by
    rw [← hys, List.mem_map]
    constructor
    · rintro ⟨p, hp1, rfl⟩
      obtain ⟨h1, h2⟩ := List.mem_filter.mp hp1
      exact ⟨p.1, by simpa using h2, h1⟩
    · rintro ⟨x, h1, h2⟩
      exact ⟨(x, y), List.mem_filter.mpr ⟨h2, by simpa using h1⟩, rfl⟩
  have hy1 : ∀ y ∈ ys, Ok1 n y := fun y hy => by
    obtain ⟨x, _, h⟩ := (hy0 y).mp hy
    exact (hp _ h).2
  have hy2 : ys.length ≤ 4000 := by
    rw [← hys, List.length_map]
    exact Nat.le_trans (List.length_filter_le _ _) lp
  obtain ⟨zs, ms, b1, b2, nd1, mem1, _⟩ := bi_sset hn hy1 hy2
  refine ⟨ms, ?_, nd1, fun x hx => hy1 x ((mem1 x).mp hx), fun y => by rw [mem1, hy0]⟩
  generalize E.lc _ _ _ _ = z at e1 ⊢
  simp only [sts, st, ev, evs, evc, rd_zero, rd_succ, ok_bind, pure_ok, ofO_some, grd_true, List.set_cons_zero, List.set_cons_succ, getAll, putAll, setT, setTs, List.length_cons, List.length_nil, intOf, Bool.and_true, Bool.true_and, if_true, if_false, Bool.false_eq_true, Nat.zero_add, Nat.reduceAdd, Nat.reduceLT, decide_true, decide_false, true_and, and_true, Int.reduceAdd, Int.reduceLT, Int.reduceNeg, e1, b1, b2, restE, Tg.slots, Tg.slotss, List.append_nil, List.cons_append, List.nil_append, List.getElem?_cons_succ, List.getElem?_cons_zero, Option.getD_some]
/-- just what is reached from fs -/
def Closed (fs : List Int) (ps : List (Int × Int)) (xs : List Int) : Prop := ∀ x, x ∈ xs ↔ ∃ f ∈ fs, Reach ps f x
theorem closed_of {fs xs : List Int} {ps : List (Int × Int)} (h1 : ∀ f ∈ fs, f ∈ xs) (h2 : ∀ x ∈ xs, ∃ f ∈ fs, Reach ps f x) (h3 : ∀ x y, x ∈ xs → (x, y) ∈ ps → y ∈ xs) : Closed fs ps xs := fun x => by
  refine ⟨h2 x, ?_⟩
  rintro ⟨f, hf, r⟩
  induction r with
  | refl => exact h1 f hf
  | step _ e ih => exact h3 _ _ ih e
theorem come_to_ok2 {n : Nat} {fs : List Int} {ps : List (Int × Int)} {t u : D} (ht : t = .lst (Is fs)) (hu : u = .lst (Prs ps)) (hn : n ≤ 63) (hf : ∀ f ∈ fs, Ok1 n f) (hp : ∀ p ∈ ps, Ok2 n p) (lf : fs.length ≤ 4000) (lp : ps.length ≤ 4000) :
    ∃ xs, m_law_come_to [t, u] [] = .ok (.lst (Is xs), []) ∧ Closed fs ps xs ∧ ∀ x ∈ xs, Ok1 n x := by
  subst ht; subst hu
  obtain ⟨z0, s0, a1, a2, nd0, mem0, _⟩ := bi_sset hn hf lf
  obtain ⟨fl, e1, h1⟩ := st_forZ (P := p_law_come_to) (rp := rpD) (n := fuel) (t := .nm 3) (it := .bi .range1 [(.bin .add (.bi .len [(.var 1)]) (.int 1))])
    (b := [.asg (.nm 4) (.bi .sorted [(.bi .set [(.lc (.tup [(.nm 5), (.nm 6)]) (.var 1) [(.cmp .isin (.var 5) (.var 2))] (.var 6))])]), .asg (.nm 4) (.lc (.nm 6) (.var 4) [(.cmp .notin (.var 6) (.var 2))] (.var 6)), .ite (.cmp .eq (.var 4) (.lst [])) [.ret (.bi .sorted [(.var 2)])] [], .asg (.nm 2) (.bin .add (.var 2) (.var 4))])
    (r := [some (.lst (Is fs)), some (.lst (Prs ps)), some (.lst (Is s0)), none, none, none, none]) (r0 := [some (.lst (Is fs)), some (.lst (Prs ps)), some (.lst (Is s0)), none, none, none, none]) (x := .lst (rangeI 0 ((ps.length : Int) + 1))) (ds := rangeI 0 ((ps.length : Int) + 1))
    (by
      have hr := bi_range1 (k := (ps.length : Int) + 1) (by omega) (by omega)
      have hlen : bi rpD .len [.lst (Prs ps)] = .ok (.int ps.length) := by simp only [bi, Prs_len]
      refine ev_bi1 (x := .int ((ps.length : Int) + 1)) ?_ hr
      exact ev_bin (ev_bi1 (x := .lst (Prs ps)) rfl hlen) rfl rfl) rfl
    (fun i r => ∃ xs w3 w4 w5 w6 nw, r = [some (.lst (Is fs)), some (.lst (Prs ps)), some (.lst (Is xs)), w3, w4, w5, w6] ∧ SeenOk n fs xs ∧ (∀ x ∈ xs, ∃ f ∈ fs, Reach ps f x) ∧ nw.Nodup ∧ i ≤ nw.length ∧ ∀ x ∈ nw, x ∈ xs ∧ x ∈ ps.map (·.2))
    (fun fl => ∃ xs x1 x2 x3 x4 x5 x6 x7, fl = .ret (.lst (Is xs)) [x1, x2, x3, x4, x5, x6, x7] ∧ Closed fs ps xs ∧ ∀ x ∈ xs, Ok1 n x)
    ⟨s0, none, none, none, none, [], rfl, ⟨nd0, fun x hx => hf x ((mem0 x).mp hx), fun f hf => (mem0 f).mpr hf⟩, fun x hx => ⟨x, (mem0 x).mp hx, .refl⟩, .nil, Nat.le_refl _, by simp⟩ fun i d r ed ⟨xs, w3, w4, w5, w6, nw, er, so, hrc, nn, ln, hnw⟩ => by
      subst er
      refine ⟨[some (.lst (Is fs)), some (.lst (Prs ps)), some (.lst (Is xs)), some d, w4, w5, w6], by simp only [sts, st, ev, evs, evc, rd_zero, rd_succ, ok_bind, pure_ok, ofO_some, grd_true, List.set_cons_zero, List.set_cons_succ, getAll, putAll, setT, setTs, List.length_cons, List.length_nil, intOf, Bool.and_true, Bool.true_and, if_true, if_false, Bool.false_eq_true, Nat.zero_add, Nat.reduceAdd, Nat.reduceLT, decide_true, decide_false, true_and, and_true, Int.reduceAdd, Int.reduceLT, Int.reduceNeg], ?_⟩
      obtain ⟨ms, st1, nd1, hm1, mem1⟩ := come_more2 (fs := fs) (xs := xs) (d := d) (w4 := w4) (w5 := w5) (w6 := w6) hn hp lp
      obtain ⟨us, st2, hus⟩ := come_new (fs := fs) (xs := xs) (ps := ps) (d := d) (w5 := w5) (w6 := w6) hn nd1 hm1
      have um : ∀ x ∈ us, x ∈ ms ∧ x ∉ xs := fun x hx => by
        rw [hus] at hx
        have := List.mem_filter.mp hx
        exact ⟨this.1, by simpa using this.2⟩
      have nd' : (xs ++ us).Nodup := List.nodup_append.mpr ⟨so.1, by rw [hus]; exact nd1.filter _, fun a ha b hb z => (um b hb).2 (z ▸ ha)⟩
      have ok' : ∀ x ∈ xs ++ us, Ok1 n x := fun x hx => by
        rcases List.mem_append.mp hx with hx | hx
        · exact so.2.1 x hx
        · exact hm1 x (um x hx).1
      have ln2 := nodup_len n _ nd' ok'
      rw [List.length_append] at ln2
      have rc' : ∀ x ∈ xs ++ us, ∃ f ∈ fs, Reach ps f x := fun x hx => by
        rcases List.mem_append.mp hx with hx | hx
        · exact hrc x hx
        · obtain ⟨y, hy, hyp⟩ := (mem1 x).mp (um x hx).1
          obtain ⟨f, hf', r⟩ := hrc y hy
          exact ⟨f, hf', .step r hyp⟩
      cases hu : us with
      | nil =>
        rw [hu] at st2
        have cl : Closed fs ps xs := closed_of so.2.2 hrc fun x y hx hy => by
          have h1 := (mem1 y).mpr ⟨x, hx, hy⟩
          by_cases h : y ∈ xs
          · exact h
          · have : y ∈ us := by rw [hus]; exact List.mem_filter.mpr ⟨h1, by simpa using h⟩
            rw [hu] at this; cases this
        refine .inr ⟨.lst (Is (sortI xs)), [some (.lst (Is fs)), some (.lst (Prs ps)), some (.lst (Is xs)), some d, some (.lst (Is [])), w5, w6], sts_nx st1 (sts_nx st2 (sts_ret (st_ite_t (x := .bl true) (r1 := [some (.lst (Is fs)), some (.lst (Prs ps)), some (.lst (Is xs)), some d, some (.lst (Is [])), w5, w6]) ?_ rfl (sts_ret (r1 := [some (.lst (Is fs)), some (.lst (Prs ps)), some (.lst (Is xs)), some d, some (.lst (Is [])), w5, w6]) ?_)))), sortI xs, _, _, _, _, _, _, _, rfl, fun x => by rw [(sortI_perm xs).mem_iff]; exact cl x, fun x hx => so.2.1 x ((sortI_perm xs).mem_iff.mp hx)⟩
        · simp only [sts, st, ev, evs, evc, rd_zero, rd_succ, ok_bind, pure_ok, ofO_some, grd_true, List.set_cons_zero, List.set_cons_succ, getAll, putAll, setT, setTs, List.length_cons, List.length_nil, intOf, Bool.and_true, Bool.true_and, if_true, if_false, Bool.false_eq_true, Nat.zero_add, Nat.reduceAdd, Nat.reduceLT, decide_true, decide_false, true_and, and_true, Int.reduceAdd, Int.reduceLT, Int.reduceNeg, eq_nil, List.isEmpty_nil]
        · simp only [sts, st, ev, evs, evc, rd_zero, rd_succ, ok_bind, pure_ok, ofO_some, grd_true, List.set_cons_zero, List.set_cons_succ, getAll, putAll, setT, setTs, List.length_cons, List.length_nil, intOf, Bool.and_true, Bool.true_and, if_true, if_false, Bool.false_eq_true, Nat.zero_add, Nat.reduceAdd, Nat.reduceLT, decide_true, decide_false, true_and, and_true, Int.reduceAdd, Int.reduceLT, Int.reduceNeg, bi, sortOk_Is, sortD_Is]
      | cons u us' =>
        refine .inl ⟨[some (.lst (Is fs)), some (.lst (Prs ps)), some (.lst (Is (xs ++ us))), some d, some (.lst (Is us)), w5, w6], sts_nx st1 (sts_nx st2 (sts_nx (st_ite_f (x := .bl false) (r1 := [some (.lst (Is fs)), some (.lst (Prs ps)), some (.lst (Is xs)), some d, some (.lst (Is us)), w5, w6]) ?_ rfl rfl) (sts_nx (r1 := [some (.lst (Is fs)), some (.lst (Prs ps)), some (.lst (Is (xs ++ us))), some d, some (.lst (Is us)), w5, w6]) ?_ rfl))), xs ++ us, some d, some (.lst (Is us)), w5, w6, u :: nw, rfl, ⟨nd', ok', fun f hf => List.mem_append_left _ (so.2.2 f hf)⟩, rc', ?_, by rw [List.length_cons]; omega, ?_⟩
        · simp only [sts, st, ev, evs, evc, rd_zero, rd_succ, ok_bind, pure_ok, ofO_some, grd_true, List.set_cons_zero, List.set_cons_succ, getAll, putAll, setT, setTs, List.length_cons, List.length_nil, intOf, Bool.and_true, Bool.true_and, if_true, if_false, Bool.false_eq_true, Nat.zero_add, Nat.reduceAdd, Nat.reduceLT, decide_true, decide_false, true_and, and_true, Int.reduceAdd, Int.reduceLT, Int.reduceNeg, eq_nil]
          rw [hu]; rfl
        · have hg : grd (decide ((Is xs).length + (Is us).length ≤ line)) = .ok () := grd_of (decide_eq_true (by rw [Is_len, Is_len]; show _ ≤ 16777216; omega))
          simp only [sts, st, ev, evs, evc, rd_zero, rd_succ, ok_bind, pure_ok, ofO_some, grd_true, List.set_cons_zero, List.set_cons_succ, getAll, putAll, setT, setTs, List.length_cons, List.length_nil, intOf, Bool.and_true, Bool.true_and, if_true, if_false, Bool.false_eq_true, Nat.zero_add, Nat.reduceAdd, Nat.reduceLT, decide_true, decide_false, true_and, and_true, Int.reduceAdd, Int.reduceLT, Int.reduceNeg, binop, hg, Is_app]
        · have mu : u ∈ us := by rw [hu]; simp
          exact List.nodup_cons.mpr ⟨fun z => (um u mu).2 (hnw u z).1, nn⟩
        · have mu : u ∈ us := by rw [hu]; simp
          intro x hx
          rcases List.mem_cons.mp hx with h | h
          · subst h
            obtain ⟨y, _, hyp⟩ := (mem1 x).mp (um x mu).1
            exact ⟨List.mem_append_right _ mu, List.mem_map.mpr ⟨_, hyp, rfl⟩⟩
          · exact ⟨List.mem_append_left _ (hnw x h).1, (hnw x h).2⟩
  have first : st p_law_come_to rpD fuel (.asg (.nm 2) (.bi .sorted [(.bi .set [(.var 0)])])) [some (.lst (Is fs)), some (.lst (Prs ps)), none, none, none, none, none] = .ok (.nx [some (.lst (Is fs)), some (.lst (Prs ps)), some (.lst (Is s0)), none, none, none, none]) := by
    simp only [sts, st, ev, evs, evc, rd_zero, rd_succ, ok_bind, pure_ok, ofO_some, grd_true, List.set_cons_zero, List.set_cons_succ, getAll, putAll, setT, setTs, List.length_cons, List.length_nil, intOf, Bool.and_true, Bool.true_and, if_true, if_false, Bool.false_eq_true, Nat.zero_add, Nat.reduceAdd, Nat.reduceLT, decide_true, decide_false, true_and, and_true, Int.reduceAdd, Int.reduceLT, Int.reduceNeg, a1, a2]
  rcases h1 with ⟨r', efl, xs, w3, w4, w5, w6, nw, er, so, hrc, nn, ln, hnw⟩ | ⟨xs, x1, x2, x3, x4, x5, x6, x7, efl, so⟩
  · exfalso
    have := nodup_sub nw (ps.map (·.2)) nn fun x hx => (hnw x hx).2
    rw [List.length_map] at this
    have l : (rangeI 0 ((ps.length : Int) + 1)).length = ps.length + 1 := by
      simp only [rangeI, List.length_map, List.length_range]
      omega
    rw [l] at ln
    omega
  · subst efl
    exact ⟨xs, run_ok f_law_come_to (r0 := [some (.lst (Is fs)), some (.lst (Prs ps)), none, none, none, none, none]) rfl (sts_nx first (sts_ret e1)) rfl, so⟩
end C

set_option linter.all false
set_option maxHeartbeats 2000000
set_option maxRecDepth 100000
namespace C
open PySem (Str)
def Nb (ps : List (Int × Int)) (a : Int) : List Int := (ps.filter fun p => decide (p.1 = a)).map (·.2)
def NL (n : Nat) (ps : List (Int × Int)) : List D := (St n).map fun a => .lst (Is (Nb ps a))
theorem Nb_mem {ps : List (Int × Int)} {a y : Int} : y ∈ Nb ps a ↔ (a, y) ∈ ps := by
  unfold Nb
  rw [List.mem_map]
  constructor
  · rintro ⟨p, hp, rfl⟩
    obtain ⟨h1, h2⟩ := List.mem_filter.mp hp
    have h2 : p.1 = a := by simpa using h2
    rw [← h2]; exact h1
  · intro h
    exact ⟨(a, y), List.mem_filter.mpr ⟨h, by simp⟩, rfl⟩
theorem NL_get {n : Nat} {ps : List (Int × Int)} {a : Int} (h : Ok1 n a) : (NL n ps)[a.toNat]? = some (.lst (Is (Nb ps a))) := by
  obtain ⟨h1, h2⟩ := h
  unfold NL St
  rw [List.map_map, List.getElem?_map, List.getElem?_range (by omega)]
  show some (D.lst (Is (Nb ps ((a.toNat : Nat) : Int)))) = _
  rw [show ((a.toNat : Nat) : Int) = a by omega]
theorem NL_at {n : Nat} {ps : List (Int × Int)} {a : Int} (h : Ok1 n a) : atI (NL n ps) a = some (.lst (Is (Nb ps a))) := by
  have := atI_nat (NL_get (ps := ps) h)
  rwa [show ((a.toNat : Nat) : Int) = a by have := h.1; omega] at this
theorem NL_len (n : Nat) (ps : List (Int × Int)) : (NL n ps).length = n := by simp [NL, St_len]
theorem Nb_snoc (ps : List (Int × Int)) (q : Int × Int) (a : Int) : Nb (ps ++ [q]) a = if q.1 = a then Nb ps a ++ [q.2] else Nb ps a := by
  unfold Nb
  rw [List.filter_append]
  by_cases h : q.1 = a <;> simp [h]
theorem NL_set {n : Nat} {ps : List (Int × Int)} {x z : Int} (h : Ok1 n x) : (NL n ps).set x.toNat (.lst (Is (Nb ps x) ++ [.int z])) = NL n (ps ++ [(x, z)]) := by
  apply List.ext_getElem?
  intro j
  by_cases hj : j < n
  · have e1 : (NL n (ps ++ [(x, z)]))[j]? = some (.lst (Is (Nb (ps ++ [(x, z)]) (j : Int)))) := by
      have := NL_get (n := n) (ps := ps ++ [(x, z)]) (a := (j : Int)) ⟨by omega, by omega⟩
      simpa using this
    rw [e1, Nb_snoc]
    by_cases hx : x.toNat = j
    · subst hx
      have ex : x = ((x.toNat : Nat) : Int) := by have := h.1; omega
      rw [List.getElem?_set_self (by rw [NL_len]; exact hj), if_pos ex, Is_snoc, ← ex]
    · have nx : ¬ (x = (j : Int)) := fun z => hx (by omega)
      rw [List.getElem?_set_ne hx, if_neg nx]
      have := NL_get (n := n) (ps := ps) (a := (j : Int)) ⟨by omega, by omega⟩
      simpa using this
  · rw [List.getElem?_eq_none (by rw [List.length_set, NL_len]; omega), List.getElem?_eq_none (by rw [NL_len]; omega)]
theorem Nb_len (ps : List (Int × Int)) (a : Int) : (Nb ps a).length ≤ ps.length := by unfold Nb; rw [List.length_map]; exact List.length_filter_le _ _
theorem ixN_ok {n : Nat} {x : Int} (h : Ok1 n x) : ixN n x = some x.toNat := by
  obtain ⟨h1, h2⟩ := h
  unfold ixN
  rw [if_pos h1, if_pos h2]
theorem neighbours_ok {n : Nat} {fs : List Int} {ts : List (Int × Int × Int)} {c : D} {p q : Int} {f : Int × Int × Int → Int × Int} (hc : c = .tup [.int n, .tup (Is fs), .tup (Trs ts)]) (hn2 : n ≤ 63) (lt : ts.length ≤ 1000000)
    (h1 : ∀ x y z : Int, index (.tup [.int x, .int y, .int z]) (.int p) = .ok (.int (f (x, y, z)).1)) (h2 : ∀ x y z : Int, index (.tup [.int x, .int y, .int z]) (.int q) = .ok (.int (f (x, y, z)).2)) (ht : ∀ t ∈ ts, Ok1 n (f t).1) :
    m_neighbours_of [c, .int p, .int q] [] = .ok (.lst (NL n (ts.map f)), []) := by
  have c0 : index c (.int 0) = .ok (.int n) := by rw [hc]; simp only [index, at0, ofO_some]
  have c2 : index c (.int 2) = .ok (.tup (Trs ts)) := by rw [hc]; simp only [index, at2, ofO_some]
  clear hc
  have hi : ev p_neighbours_of rpD (.bi .range1 [(.idx (.var 0) (.int 0))]) [some c, some (.int p), some (.int q), none, none, none] = .ok (.lst (Is (St n)), [some c, some (.int p), some (.int q), none, none, none]) := by
    have := ev_bi1 (P := p_neighbours_of) (a := .idx (.var 0) (.int 0)) (r := [some c, some (.int p), some (.int q), none, none, none]) (r1 := [some c, some (.int p), some (.int q), none, none, none]) (x := .int n) (by simp only [sts, st, ev, evs, evc, rd_zero, rd_succ, ok_bind, pure_ok, ofO_some, grd_true, List.set_cons_zero, List.set_cons_succ, getAll, putAll, setT, setTs, List.length_cons, List.length_nil, intOf, Bool.and_true, Bool.true_and, if_true, if_false, Bool.false_eq_true, Nat.zero_add, Nat.reduceAdd, Nat.reduceLT, decide_true, decide_false, true_and, and_true, Int.reduceAdd, Int.reduceLT, Int.reduceNeg, c0]) (bi_range1 (by omega) (by omega))
    rw [range_St] at this
    exact this
  obtain ⟨r', e1, w, er⟩ := ev_lcF (P := p_neighbours_of) (rp := rpD) (t := .nm 4) (cs := []) (e := .lst []) hi rfl
    (fun d => some (.lst [])) (fun r => ∃ w, r = [some c, some (.int p), some (.int q), none, w, none]) ⟨none, rfl⟩ (by rw [Is_len, St_len]; show _ ≤ 16777216; omega) fun d r hd ⟨w, er⟩ => by
      subst er
      exact ⟨[some c, some (.int p), some (.int q), none, some d, none], by simp only [sts, st, ev, evs, evc, rd_zero, rd_succ, ok_bind, pure_ok, ofO_some, grd_true, List.set_cons_zero, List.set_cons_succ, getAll, putAll, setT, setTs, List.length_cons, List.length_nil, intOf, Bool.and_true, Bool.true_and, if_true, if_false, Bool.false_eq_true, Nat.zero_add, Nat.reduceAdd, Nat.reduceLT, decide_true, decide_false, true_and, and_true, Int.reduceAdd, Int.reduceLT, Int.reduceNeg, clr, Tg.slots], .inr ⟨[some c, some (.int p), some (.int q), none, some d, none], .lst [], [some c, some (.int p), some (.int q), none, some d, none], rfl, rfl, rfl, ⟨_, rfl⟩⟩⟩
  subst er
  have z0 : (Is (St n)).filterMap (fun d => some (D.lst [])) = NL n [] := by
    rw [List.filterMap_eq_map']
    unfold Is NL
    rw [List.map_map]
    rfl
  rw [z0] at e1
  have st1 : st p_neighbours_of rpD fuel (.asg (.nm 3) (.lc (.nm 4) (.bi .range1 [(.idx (.var 0) (.int 0))]) [] (.lst []))) [some c, some (.int p), some (.int q), none, none, none] = .ok (.nx [some c, some (.int p), some (.int q), some (.lst (NL n [])), none, none]) := by
    generalize E.lc _ _ _ _ = z at e1 ⊢
    simp only [sts, st, ev, evs, evc, rd_zero, rd_succ, ok_bind, pure_ok, ofO_some, grd_true, List.set_cons_zero, List.set_cons_succ, getAll, putAll, setT, setTs, List.length_cons, List.length_nil, intOf, Bool.and_true, Bool.true_and, if_true, if_false, Bool.false_eq_true, Nat.zero_add, Nat.reduceAdd, Nat.reduceLT, decide_true, decide_false, true_and, and_true, Int.reduceAdd, Int.reduceLT, Int.reduceNeg, e1, restE, Tg.slots, List.getElem?_cons_succ, List.getElem?_cons_zero, Option.getD_some]
  obtain ⟨r2, e2, w5, er2⟩ := st_forI (P := p_neighbours_of) (rp := rpD) (n := fuel) (t := .nm 5) (it := .idx (.var 0) (.int 2)) (b := [.via 4 3 (.idx (.var 5) (.var 1)) .append [(.idx (.var 5) (.var 2))]])
    (r := [some c, some (.int p), some (.int q), some (.lst (NL n [])), none, none]) (r0 := [some c, some (.int p), some (.int q), some (.lst (NL n [])), none, none]) (x := .tup (Trs ts)) (ds := Trs ts) (by simp only [sts, st, ev, evs, evc, rd_zero, rd_succ, ok_bind, pure_ok, ofO_some, grd_true, List.set_cons_zero, List.set_cons_succ, getAll, putAll, setT, setTs, List.length_cons, List.length_nil, intOf, Bool.and_true, Bool.true_and, if_true, if_false, Bool.false_eq_true, Nat.zero_add, Nat.reduceAdd, Nat.reduceLT, decide_true, decide_false, true_and, and_true, Int.reduceAdd, Int.reduceLT, Int.reduceNeg, c2]) rfl
    (fun i r => ∃ w5, r = [some c, some (.int p), some (.int q), some (.lst (NL n ((ts.take i).map f))), none, w5]) ⟨none, rfl⟩ fun i d r ed ⟨w5, er⟩ => by
      subst er
      obtain ⟨x, y, z, eq, rfl⟩ := Trs_get ed
      have hx := ht _ (List.mem_of_getElem? eq)
      have hi := (List.getElem?_eq_some_iff.mp eq).1
      refine ⟨[some c, some (.int p), some (.int q), some (.lst (NL n ((ts.take i).map f))), none, some (.tup [.int x, .int y, .int z])], by simp only [sts, st, ev, evs, evc, rd_zero, rd_succ, ok_bind, pure_ok, ofO_some, grd_true, List.set_cons_zero, List.set_cons_succ, getAll, putAll, setT, setTs, List.length_cons, List.length_nil, intOf, Bool.and_true, Bool.true_and, if_true, if_false, Bool.false_eq_true, Nat.zero_add, Nat.reduceAdd, Nat.reduceLT, decide_true, decide_false, true_and, and_true, Int.reduceAdd, Int.reduceLT, Int.reduceNeg], [some c, some (.int p), some (.int q), some (.lst (NL n ((ts.take (i + 1)).map f))), none, some (.tup [.int x, .int y, .int z])], ?_, some (.tup [.int x, .int y, .int z]), rfl⟩
      have g2 : grd (decide ((Is (Nb ((ts.take i).map f) (f (x, y, z)).1)).length < line)) = .ok () := grd_of (decide_eq_true (by
        rw [Is_len]
        have := Nb_len ((ts.take i).map f) (f (x, y, z)).1
        rw [List.length_map, List.length_take] at this
        show _ < 16777216; omega))
      have ixx : ixN (NL n ((ts.take i).map f)).length (f (x, y, z)).1 = some (f (x, y, z)).1.toNat := by rw [NL_len]; exact ixN_ok hx
      simp only [sts, st, ev, evs, evc, rd_zero, rd_succ, ok_bind, pure_ok, ofO_some, grd_true, List.set_cons_zero, List.set_cons_succ, getAll, putAll, setT, setTs, List.length_cons, List.length_nil, intOf, Bool.and_true, Bool.true_and, if_true, if_false, Bool.false_eq_true, Nat.zero_add, Nat.reduceAdd, Nat.reduceLT, decide_true, decide_false, true_and, and_true, Int.reduceAdd, Int.reduceLT, Int.reduceNeg, h1, h2, lstOf, intOf, NL_at hx, isLst, grd_true, atPath, ixx, NL_get hx, mu, g2]
      rw [NL_set hx, tk1 eq, List.map_append]
      rfl
  subst er2
  rw [Trs_len, List.take_length] at e2
  refine run_ok f_neighbours_of (r0 := [some c, some (.int p), some (.int q), none, none, none]) (r := [some c, some (.int p), some (.int q), none, none, w5]) rfl (sts_nx st1 (sts_nx e2 (sts_ret ?_))) rfl
  simp only [sts, st, ev, evs, evc, rd_zero, rd_succ, ok_bind, pure_ok, ofO_some, grd_true, List.set_cons_zero, List.set_cons_succ, getAll, putAll, setT, setTs, List.length_cons, List.length_nil, intOf, Bool.and_true, Bool.true_and, if_true, if_false, Bool.false_eq_true, Nat.zero_add, Nat.reduceAdd, Nat.reduceLT, decide_true, decide_false, true_and, and_true, Int.reduceAdd, Int.reduceLT, Int.reduceNeg]
/-! ### flags -/
def Bs (fl : List Bool) : List D := fl.map D.bl
theorem Bs_len (fl : List Bool) : (Bs fl).length = fl.length := by simp [Bs]
def T1 (fl : List Bool) (x : Int) : Prop := fl[x.toNat]? = some true
theorem T1_set {fl : List Bool} {x y : Int} (hx : 0 ≤ x) (hy : 0 ≤ y) (hl : y < fl.length) : T1 (fl.set y.toNat true) x ↔ x = y ∨ T1 fl x := by
  unfold T1
  by_cases h : x = y
  · subst h
    rw [List.getElem?_set_self (by omega)]
    simp
  · rw [List.getElem?_set_ne (by omega)]
    simp [h]
theorem count_set : ∀ {fl : List Bool} {k : Nat}, fl[k]? = some false → (fl.set k true).count false + 1 = fl.count false
  | [], _, h => by simp at h
  | b :: fl, 0, h => by
    have : b = false := by simpa using h
    subst this
    simp
  | b :: fl, k + 1, h => by
    have := count_set (fl := fl) (k := k) (by simpa using h)
    rw [List.set_cons_succ, List.count_cons, List.count_cons]
    omega
theorem Bs_at {fl : List Bool} {x : Int} {b : Bool} (h0 : 0 ≤ x) (h : fl[x.toNat]? = some b) : atI (Bs fl) x = some (.bl b) := by
  have := atI_nat (xs := Bs fl) (i := x.toNat) (x := .bl b) (by rw [Bs, List.getElem?_map, h]; rfl)
  rwa [show ((x.toNat : Nat) : Int) = x by omega] at this
theorem Bs_set {fl : List Bool} {k : Nat} : (Bs fl).set k (.bl true) = Bs (fl.set k true) := by unfold Bs; rw [List.map_set]
theorem rep_false (n : Nat) : rep (n : Int) [.bl false] = Bs (List.replicate n false) := by
  unfold rep Bs
  rw [show ((n : Int)).toNat = n by omega]
  induction n with
  | zero => rfl
  | succ n ih => rw [List.replicate_succ, List.flatten_cons, ih, List.replicate_succ]; rfl
theorem whl_I {P : Fs} (c : Env → Rs (Bool × Env)) (f : Env → Rs Fl) (I : Nat → Env → Prop) (Z : Env → Prop) (step : ∀ m r, I m r → (∃ r', c r = .ok (false, r') ∧ Z r') ∨ ∃ r1 r2 m', c r = .ok (true, r1) ∧ f r1 = .ok (.nx r2) ∧ m' < m ∧ I m' r2) :
    ∀ (N m : Nat) (r : Env), m < N → I m r → ∃ r', whl c f N r = .ok (.nx r') ∧ Z r'
  | 0, m, r, h, _ => by omega
  | N + 1, m, r, h, i => by
    rcases step m r i with ⟨r', e, z⟩ | ⟨r1, r2, m', e1, e2, hm, i2⟩
    · exact ⟨r', by simp only [whl, e, ok_bind, Bool.false_eq_true, if_false]; rfl, z⟩
    · obtain ⟨r', e3, z⟩ := whl_I (P := P) c f I Z step N m' r2 (by omega) i2
      exact ⟨r', by simp only [whl, e1, ok_bind, if_true, e2]; exact e3, z⟩
section
variable {n : Nat} {E : List (Int × Int)} {s : Int}
/-- waiting ws, found fl -/
structure Wv (n : Nat) (E : List (Int × Int)) (s : Int) (fl : List Bool) (ws : List Int) (ex : Int → Prop) : Prop where
  len : fl.length = n
  wok : ∀ x ∈ ws, Ok1 n x ∧ T1 fl x
  snd : ∀ x, Ok1 n x → T1 fl x → Reach E s x
  cl : ∀ x y, Ok1 n x → T1 fl x → x ∉ ws → ¬ ex x → (x, y) ∈ E → T1 fl y
  st : T1 fl s
theorem reached_body {m : Nat} {fl : List Bool} {ws : List Int} {v : Int} {w4 : Option D} (hE : ∀ p ∈ E, Ok2 n p) (hn2 : n ≤ 63) (lE : E.length ≤ 1000000) (hs : Ok1 n s) (W : Wv n E s fl (ws ++ [v]) fun _ => False) (hm : 2 * fl.count false + (ws ++ [v]).length = m) (lw : m ≤ 1000) :
    ∃ fl' ws' w4' m', sts p_reached_from rpD fuel [.for_ (.nm 4) (.idx (.var 0) (.pop 3)) [.ite (.not (.idx (.var 2) (.var 4))) [.set1 2 (.var 4) (.bl true), .mcall .append 3 [] [(.var 4)]] []]] [some (.lst (NL n E)), some (.int s), some (.lst (Bs fl)), some (.lst (Is (ws ++ [v]))), w4] = .ok (.nx [some (.lst (NL n E)), some (.int s), some (.lst (Bs fl')), some (.lst (Is ws')), w4'])
      ∧ Wv n E s fl' ws' (fun _ => False) ∧ 2 * fl'.count false + ws'.length = m' ∧ m' < m := by
  obtain ⟨ov, tv⟩ := W.wok v (by simp)
  have ei : ev p_reached_from rpD (.idx (.var 0) (.pop 3)) [some (.lst (NL n E)), some (.int s), some (.lst (Bs fl)), some (.lst (Is (ws ++ [v]))), w4] = .ok (.lst (Is (Nb E v)), [some (.lst (NL n E)), some (.int s), some (.lst (Bs fl)), some (.lst (Is ws)), w4]) := by
    have gl : (Is (ws ++ [v])).getLast? = some (.int v) := by rw [← Is_snoc, List.getLast?_append]; rfl
    have dl : (Is (ws ++ [v])).dropLast = Is ws := by rw [← Is_snoc, List.dropLast_concat]
    simp only [sts, st, ev, evs, evc, rd_zero, rd_succ, ok_bind, pure_ok, ofO_some, grd_true, List.set_cons_zero, List.set_cons_succ, getAll, putAll, setT, setTs, List.length_cons, List.length_nil, intOf, Bool.and_true, Bool.true_and, if_true, if_false, Bool.false_eq_true, Nat.zero_add, Nat.reduceAdd, Nat.reduceLT, decide_true, decide_false, true_and, and_true, Int.reduceAdd, Int.reduceLT, Int.reduceNeg, lstOf, gl, dl, index, NL_at ov]
  obtain ⟨r', e1, fl', ws', w4', er, W', tv', hnb, hmm⟩ := st_forI (P := p_reached_from) (rp := rpD) (n := fuel) (t := .nm 4) (b := [.ite (.not (.idx (.var 2) (.var 4))) [.set1 2 (.var 4) (.bl true), .mcall .append 3 [] [(.var 4)]] []]) ei rfl
    (fun i r => ∃ fl' ws' w4', r = [some (.lst (NL n E)), some (.int s), some (.lst (Bs fl')), some (.lst (Is ws')), w4'] ∧ Wv n E s fl' ws' (fun x => x = v) ∧ T1 fl' v ∧ (∀ y ∈ (Nb E v).take i, T1 fl' y) ∧ 2 * fl'.count false + ws'.length + 1 ≤ m)
    ⟨fl, ws, w4, rfl, ⟨W.len, fun x hx => W.wok x (by simp [hx]), W.snd, fun x y ox tx nx nex hxy => W.cl x y ox tx (fun z => by
      rcases List.mem_append.mp z with z | z
      · exact nx z
      · simp at z; exact nex z) (fun z => z) hxy, W.st⟩, tv, by simp, by rw [List.length_append] at hm; simp at hm; omega⟩ fun i d r ed ⟨fl', ws', w4', er, W', tv', hnb, hmm⟩ => by
      subst er
      obtain ⟨y, ey, rfl⟩ := Is_get ed
      have hyE := Nb_mem.mp (List.mem_of_getElem? ey)
      have oy : Ok1 n y := (hE _ hyE).2
      have ll := W'.len
      obtain ⟨b, hb⟩ : ∃ b, fl'[y.toNat]? = some b := ⟨_, List.getElem?_eq_getElem (by have := oy.1; have := oy.2; omega)⟩
      refine ⟨[some (.lst (NL n E)), some (.int s), some (.lst (Bs fl')), some (.lst (Is ws')), some (.int y)], by simp only [sts, st, ev, evs, evc, rd_zero, rd_succ, ok_bind, pure_ok, ofO_some, grd_true, List.set_cons_zero, List.set_cons_succ, getAll, putAll, setT, setTs, List.length_cons, List.length_nil, intOf, Bool.and_true, Bool.true_and, if_true, if_false, Bool.false_eq_true, Nat.zero_add, Nat.reduceAdd, Nat.reduceLT, decide_true, decide_false, true_and, and_true, Int.reduceAdd, Int.reduceLT, Int.reduceNeg], ?_⟩
      cases b with
      | true =>
        refine ⟨[some (.lst (NL n E)), some (.int s), some (.lst (Bs fl')), some (.lst (Is ws')), some (.int y)], sts_nx (st_ite_f (x := .bl false) (r1 := [some (.lst (NL n E)), some (.int s), some (.lst (Bs fl')), some (.lst (Is ws')), some (.int y)]) ?_ rfl rfl) rfl, fl', ws', some (.int y), rfl, W', tv', fun z hz => ?_, hmm⟩
        · simp only [sts, st, ev, evs, evc, rd_zero, rd_succ, ok_bind, pure_ok, ofO_some, grd_true, List.set_cons_zero, List.set_cons_succ, getAll, putAll, setT, setTs, List.length_cons, List.length_nil, intOf, Bool.and_true, Bool.true_and, if_true, if_false, Bool.false_eq_true, Nat.zero_add, Nat.reduceAdd, Nat.reduceLT, decide_true, decide_false, true_and, and_true, Int.reduceAdd, Int.reduceLT, Int.reduceNeg, index, Bs_at oy.1 hb, truth, Bool.not_true]
        · rw [tk1 ey] at hz
          rcases List.mem_append.mp hz with h | h
          · exact hnb z h
          · simp at h; subst h; exact hb
      | false =>
        have ly : y < fl'.length := by have := oy.2; omega
        have cs := count_set hb
        have ts : ∀ x, Ok1 n x → (T1 (fl'.set y.toNat true) x ↔ x = y ∨ T1 fl' x) := fun x ox => T1_set ox.1 oy.1 ly
        have l1 : (fl'.set y.toNat true).length = n := by rw [List.length_set]; exact ll
        refine ⟨[some (.lst (NL n E)), some (.int s), some (.lst (Bs (fl'.set y.toNat true))), some (.lst (Is (ws' ++ [y]))), some (.int y)], sts_nx (st_ite_t (x := .bl true) (r1 := [some (.lst (NL n E)), some (.int s), some (.lst (Bs fl')), some (.lst (Is ws')), some (.int y)]) ?_ rfl (sts_nx (r1 := [some (.lst (NL n E)), some (.int s), some (.lst (Bs (fl'.set y.toNat true))), some (.lst (Is ws')), some (.int y)]) ?_ (sts_nx ?_ rfl))) rfl, fl'.set y.toNat true, ws' ++ [y], some (.int y), rfl, ⟨l1, fun x hx => ?_, fun x ox tx => ?_, fun x z ox tx nx nex hxz => ?_, ?_⟩, ?_, fun z hz => ?_, ?_⟩
        · simp only [sts, st, ev, evs, evc, rd_zero, rd_succ, ok_bind, pure_ok, ofO_some, grd_true, List.set_cons_zero, List.set_cons_succ, getAll, putAll, setT, setTs, List.length_cons, List.length_nil, intOf, Bool.and_true, Bool.true_and, if_true, if_false, Bool.false_eq_true, Nat.zero_add, Nat.reduceAdd, Nat.reduceLT, decide_true, decide_false, true_and, and_true, Int.reduceAdd, Int.reduceLT, Int.reduceNeg, index, Bs_at oy.1 hb, truth, Bool.not_false]
        · have ixy : ixN (Bs fl').length y = some y.toNat := by rw [Bs_len, ll]; exact ixN_ok oy
          simp only [sts, st, ev, evs, evc, rd_zero, rd_succ, ok_bind, pure_ok, ofO_some, grd_true, List.set_cons_zero, List.set_cons_succ, getAll, putAll, setT, setTs, List.length_cons, List.length_nil, intOf, Bool.and_true, Bool.true_and, if_true, if_false, Bool.false_eq_true, Nat.zero_add, Nat.reduceAdd, Nat.reduceLT, decide_true, decide_false, true_and, and_true, Int.reduceAdd, Int.reduceLT, Int.reduceNeg, setIx, ixy, Bs_set]
        · have hg : grd (decide ((Is ws').length < line)) = .ok () := grd_of (decide_eq_true (by rw [Is_len]; show _ < 16777216; omega))
          simp only [sts, st, ev, evs, evc, rd_zero, rd_succ, ok_bind, pure_ok, ofO_some, grd_true, List.set_cons_zero, List.set_cons_succ, getAll, putAll, setT, setTs, List.length_cons, List.length_nil, intOf, Bool.and_true, Bool.true_and, if_true, if_false, Bool.false_eq_true, Nat.zero_add, Nat.reduceAdd, Nat.reduceLT, decide_true, decide_false, true_and, and_true, Int.reduceAdd, Int.reduceLT, Int.reduceNeg, isLst, atPath, mu, hg, Is_snoc]
        · rcases List.mem_append.mp hx with h | h
          · exact ⟨(W'.wok x h).1, (ts x (W'.wok x h).1).mpr (.inr (W'.wok x h).2)⟩
          · simp at h; subst h; exact ⟨oy, (ts x oy).mpr (.inl rfl)⟩
        · rcases (ts x ox).mp tx with h | h
          · subst h; exact .step (W'.snd v ov tv') hyE
          · exact W'.snd x ox h
        · have oz : Ok1 n z := (hE _ hxz).2
          rcases (ts x ox).mp tx with h | h
          · subst h; exact absurd (by simp) nx
          · exact (ts z oz).mpr (.inr (W'.cl x z ox h (fun q => nx (by simp [q])) nex hxz))
        · exact (ts s hs).mpr (.inr W'.st)
        · exact (ts v ov).mpr (.inr tv')
        · rw [tk1 ey] at hz
          rcases List.mem_append.mp hz with h | h
          · have oz : Ok1 n z := (hE _ (Nb_mem.mp (List.mem_of_mem_take h))).2
            exact (ts z oz).mpr (.inr (hnb z h))
          · simp at h; subst h; exact (ts z oy).mpr (.inl rfl)
        · rw [List.length_append]
          simp
          omega
  subst er
  rw [Is_len, List.take_length] at hnb
  refine ⟨fl', ws', w4', _, sts_nx e1 rfl, ⟨W'.len, W'.wok, W'.snd, fun x y ox tx nx _ hxy => ?_, W'.st⟩, rfl, by omega⟩
  by_cases h : x = v
  · subst h; exact hnb y (Nb_mem.mpr hxy)
  · exact W'.cl x y ox tx nx h hxy
theorem reached_ok (hE : ∀ p ∈ E, Ok2 n p) (hn : 0 < n) (hn2 : n ≤ 63) (lE : E.length ≤ 1000000) (hs : Ok1 n s) : ∃ fl, m_reached_from [.lst (NL n E), .int s] [] = .ok (.lst (Bs fl), []) ∧ fl.length = n ∧ ∀ x, Ok1 n x → (T1 fl x ↔ Reach E s x) := by
  have st1 : st p_reached_from rpD fuel (.asg (.nm 2) (.lk (.bin .mul (.lst [(.bl false)]) (.bi .len [(.var 0)])))) [some (.lst (NL n E)), some (.int s), none, none, none] = .ok (.nx [some (.lst (NL n E)), some (.int s), some (.lst (Bs (List.replicate n false))), none, none]) := by
    have hlen : bi rpD .len [.lst (NL n E)] = .ok (.int n) := by simp only [bi, NL_len]
    have g : grd (decide ((n : Int) < 2 ^ 63 ∧ -(2 ^ 63) ≤ (n : Int) ∧ ([D.bl false] : List D).length * ((n : Int)).toNat ≤ line)) = .ok () := grd_of (decide_eq_true ⟨by omega, by omega, by simp; show n ≤ 16777216; omega⟩)
    have hb : binop .mul (.lst [.bl false]) (.int n) = .ok (.lst (Bs (List.replicate n false))) := by
      simp only [binop]
      rw [show grd _ = Rs.ok () from g]
      simp only [ok_bind, rep_false, pure_ok]
    have e : ev p_reached_from rpD (.bin .mul (.lst [(.bl false)]) (.bi .len [(.var 0)])) [some (.lst (NL n E)), some (.int s), none, none, none] = .ok (.lst (Bs (List.replicate n false)), [some (.lst (NL n E)), some (.int s), none, none, none]) := ev_bin rfl (ev_bi1 (ev_var rfl) hlen) hb
    have g2 : grd (!isTS (.lst (Bs (List.replicate n false)))) = .ok () := rfl
    generalize C.E.bin _ _ _ = z at e ⊢
    simp only [sts, st, ev, evs, evc, rd_zero, rd_succ, ok_bind, pure_ok, ofO_some, grd_true, List.set_cons_zero, List.set_cons_succ, getAll, putAll, setT, setTs, List.length_cons, List.length_nil, intOf, Bool.and_true, Bool.true_and, if_true, if_false, Bool.false_eq_true, Nat.zero_add, Nat.reduceAdd, Nat.reduceLT, decide_true, decide_false, true_and, and_true, Int.reduceAdd, Int.reduceLT, Int.reduceNeg, e, g2]
  obtain ⟨fl0, hfl0⟩ : ∃ fl0, (List.replicate n false).set s.toNat true = fl0 := ⟨_, rfl⟩
  have l0 : fl0.length = n := by rw [← hfl0]; simp
  have t0 : ∀ x, Ok1 n x → (T1 fl0 x ↔ x = s) := fun x ox => by
    rw [← hfl0, T1_set ox.1 hs.1 (by rw [List.length_replicate]; exact hs.2)]
    have : ¬ T1 (List.replicate n false) x := fun h => by
      unfold T1 at h
      rw [List.getElem?_replicate] at h
      split at h <;> cases h
    simp [this]
  have c0 : fl0.count false ≤ n := by rw [← l0]; exact List.count_le_length
  have st2 : st p_reached_from rpD fuel (.set1 2 (.var 1) (.bl true)) [some (.lst (NL n E)), some (.int s), some (.lst (Bs (List.replicate n false))), none, none] = .ok (.nx [some (.lst (NL n E)), some (.int s), some (.lst (Bs fl0)), none, none]) := by
    have ixs : ixN (Bs (List.replicate n false)).length s = some s.toNat := by rw [Bs_len, List.length_replicate]; exact ixN_ok hs
    simp only [sts, st, ev, evs, evc, rd_zero, rd_succ, ok_bind, pure_ok, ofO_some, grd_true, List.set_cons_zero, List.set_cons_succ, getAll, putAll, setT, setTs, List.length_cons, List.length_nil, intOf, Bool.and_true, Bool.true_and, if_true, if_false, Bool.false_eq_true, Nat.zero_add, Nat.reduceAdd, Nat.reduceLT, decide_true, decide_false, true_and, and_true, Int.reduceAdd, Int.reduceLT, Int.reduceNeg, setIx, ixs, Bs_set, hfl0]
  have st3 : st p_reached_from rpD fuel (.asg (.nm 3) (.lst [(.var 1)])) [some (.lst (NL n E)), some (.int s), some (.lst (Bs fl0)), none, none] = .ok (.nx [some (.lst (NL n E)), some (.int s), some (.lst (Bs fl0)), some (.lst (Is [s])), none]) := by
    simp only [sts, st, ev, evs, evc, rd_zero, rd_succ, ok_bind, pure_ok, ofO_some, grd_true, List.set_cons_zero, List.set_cons_succ, getAll, putAll, setT, setTs, List.length_cons, List.length_nil, intOf, Bool.and_true, Bool.true_and, if_true, if_false, Bool.false_eq_true, Nat.zero_add, Nat.reduceAdd, Nat.reduceLT, decide_true, decide_false, true_and, and_true, Int.reduceAdd, Int.reduceLT, Int.reduceNeg]
    rfl
  have W0 : Wv n E s fl0 [s] fun _ => False := ⟨l0, fun x hx => by simp at hx; subst hx; exact ⟨hs, (t0 x hs).mpr rfl⟩, fun x ox tx => by rw [(t0 x ox).mp tx]; exact .refl, fun x y ox tx nx _ _ => absurd (by simp [(t0 x ox).mp tx]) nx, (t0 s hs).mpr rfl⟩
  obtain ⟨r', e4, fl, w4, er, W⟩ := whl_I (P := p_reached_from) (fun r => do let (x, r) ← ev p_reached_from rpD (.var 3) r; return (← truth x, r)) (fun r => sts p_reached_from rpD fuel [.for_ (.nm 4) (.idx (.var 0) (.pop 3)) [.ite (.not (.idx (.var 2) (.var 4))) [.set1 2 (.var 4) (.bl true), .mcall .append 3 [] [(.var 4)]] []]] r)
    (fun m r => ∃ fl ws w4, r = [some (.lst (NL n E)), some (.int s), some (.lst (Bs fl)), some (.lst (Is ws)), w4] ∧ Wv n E s fl ws (fun _ => False) ∧ 2 * fl.count false + ws.length = m ∧ m ≤ 1000)
    (fun r => ∃ fl w4, r = [some (.lst (NL n E)), some (.int s), some (.lst (Bs fl)), some (.lst (Is [])), w4] ∧ Wv n E s fl [] (fun _ => False))
    (fun m r ⟨fl, ws, w4, er, W, hm, lm⟩ => by
      subst er
      rcases List.eq_nil_or_concat ws with h | ⟨ws', v, h⟩
      · subst h
        exact .inl ⟨_, rfl, fl, w4, rfl, W⟩
      · rw [List.concat_eq_append] at h
        subst h
        obtain ⟨fl', ws'', w4', m', e, W', hm', hlt⟩ := reached_body (w4 := w4) hE hn2 lE hs W hm lm
        refine .inr ⟨[some (.lst (NL n E)), some (.int s), some (.lst (Bs fl)), some (.lst (Is (ws' ++ [v]))), w4], _, m', ?_, e, hlt, fl', ws'', w4', rfl, W', hm', by omega⟩
        have : (Is (ws' ++ [v])).isEmpty = false := by rw [← Is_snoc]; simp
        simp only [sts, st, ev, evs, evc, rd_zero, rd_succ, ok_bind, pure_ok, ofO_some, grd_true, List.set_cons_zero, List.set_cons_succ, getAll, putAll, setT, setTs, List.length_cons, List.length_nil, intOf, Bool.and_true, Bool.true_and, if_true, if_false, Bool.false_eq_true, Nat.zero_add, Nat.reduceAdd, Nat.reduceLT, decide_true, decide_false, true_and, and_true, Int.reduceAdd, Int.reduceLT, Int.reduceNeg, truth, this, Bool.not_false])
    fuel (2 * fl0.count false + 1) [some (.lst (NL n E)), some (.int s), some (.lst (Bs fl0)), some (.lst (Is [s])), none] (by show _ < 1000000; omega) ⟨fl0, [s], none, rfl, W0, rfl, by omega⟩
  subst er
  refine ⟨fl, run_ok f_reached_from (r0 := [some (.lst (NL n E)), some (.int s), none, none, none]) (r := [some (.lst (NL n E)), some (.int s), none, some (.lst (Is [])), w4]) rfl (sts_nx st1 (sts_nx st2 (sts_nx st3 (sts_nx (r1 := [some (.lst (NL n E)), some (.int s), some (.lst (Bs fl)), some (.lst (Is [])), w4]) ?_ (sts_ret ?_))))) rfl, W.len, fun x ox => ⟨W.snd x ox, fun r => ?_⟩⟩
  · simp only [st]
    exact e4
  · simp only [sts, st, ev, evs, evc, rd_zero, rd_succ, ok_bind, pure_ok, ofO_some, grd_true, List.set_cons_zero, List.set_cons_succ, getAll, putAll, setT, setTs, List.length_cons, List.length_nil, intOf, Bool.and_true, Bool.true_and, if_true, if_false, Bool.false_eq_true, Nat.zero_add, Nat.reduceAdd, Nat.reduceLT, decide_true, decide_false, true_and, and_true, Int.reduceAdd, Int.reduceLT, Int.reduceNeg]
  · have key : ∀ x, Reach E s x → T1 fl x := by
      intro x r
      induction r with
      | refl => exact W.st
      | step r' e ih => exact W.cl _ _ (hE _ e).1 ih (by simp) (fun z => z) e
    exact key x r
end
end C

set_option linter.all false
set_option maxHeartbeats 2000000
set_option maxRecDepth 100000
namespace C
open PySem (Str)
theorem ev_call {P : Fs} {f : Nat} {as : List E} {r r1 r2 : Env} {ds os os' : List D} {d : D} {io : List Nat} (h : evs P rpD as r = .ok (ds, r1)) (g : getAll io r1 = .ok os) (hp : P f ds os = .ok (d, os')) (hq : putAll io os' r1 = .ok r2) : ev P rpD (.call f as io) r = .ok (d, r2) := by
  simp only [ev, h, g, hp, hq, ok_bind, pure_ok]
theorem ev_call2 {P : Fs} {F : List D → List D → Rs (D × List D)} {f i j : Nat} {x y d : D} {r : Env} (hP : P f = F) (e : F [x, y] [] = .ok (d, [])) (hx : rd r i = .ok x) (hy : rd r j = .ok y) : ev P rpD (.call f [(.var i), (.var j)] []) r = .ok (d, r) := by
  simp only [ev, evs, hx, hy, getAll, putAll, hP, e, ok_bind, pure_ok]
theorem ev_call1 {P : Fs} {F : List D → List D → Rs (D × List D)} {f i : Nat} {x d : D} {r : Env} (hP : P f = F) (e : F [x] [] = .ok (d, [])) (hx : rd r i = .ok x) : ev P rpD (.call f [(.var i)] []) r = .ok (d, r) := by
  simp only [ev, evs, hx, getAll, putAll, hP, e, ok_bind, pure_ok]
theorem st_par2 {P : Fs} {rp : D → Str} {n i j : Nat} {a b : E} {x y : D} {r r1 r2 r3 : Env} (h1 : ev P rp a r = .ok (x, r1)) (h2 : ev P rp b r1 = .ok (y, r2)) (hp : putAll [i, j] [x, y] r2 = .ok r3) : st P rp n (.par [i, j] [a, b]) r = .ok (.nx r3) := by
  simp only [st, evs, h1, h2, hp, ok_bind, pure_ok]
theorem Reach.trans {E : List (Int × Int)} {a b c : Int} (h : Reach E a b) (k : Reach E b c) : Reach E a c := by
  induction k with
  | refl => exact h
  | step _ e ih => exact .step ih e
theorem Reach.rev {E F : List (Int × Int)} (hF : ∀ x y, (x, y) ∈ E → (y, x) ∈ F) {a b : Int} (h : Reach E a b) : Reach F b a := by
  induction h with
  | refl => exact .refl
  | step _ e ih => exact Reach.trans (.step .refl (hF _ _ e)) ih
def Mut (E : List (Int × Int)) (a b : Int) : Prop := Reach E a b ∧ Reach E b a
theorem Mut.symm {E : List (Int × Int)} {a b : Int} (h : Mut E a b) : Mut E b a := ⟨h.2, h.1⟩
theorem Mut.trans {E : List (Int × Int)} {a b c : Int} (h : Mut E a b) (k : Mut E b c) : Mut E a c := ⟨h.1.trans k.1, k.2.trans h.2⟩
theorem Mut.refl {E : List (Int × Int)} {a : Int} : Mut E a a := ⟨.refl, .refl⟩
noncomputable def muB (E : List (Int × Int)) (a b : Int) : Bool := @decide (Mut E a b) (Classical.propDecidable _)
theorem muB_iff {E : List (Int × Int)} {a b : Int} : muB E a b = true ↔ Mut E a b := by unfold muB; exact @decide_eq_true_iff _ (Classical.propDecidable _)
noncomputable def firstB (E : List (Int × Int)) (s : Int) : Bool := @decide (∀ t, 0 ≤ t → t < s → ¬ Mut E t s) (Classical.propDecidable _)
theorem firstB_iff {E : List (Int × Int)} {s : Int} : firstB E s = true ↔ ∀ t, 0 ≤ t → t < s → ¬ Mut E t s := by unfold firstB; exact @decide_eq_true_iff _ (Classical.propDecidable _)
noncomputable def Piece (n : Nat) (E : List (Int × Int)) (s : Int) : List Int := (St n).filter (muB E s)
noncomputable def PcL (n : Nat) (E : List (Int × Int)) (i : Nat) : List (List Int) := ((St i).filter (firstB E)).map (Piece n E)
def PcD (L : List (List Int)) : List D := L.map fun p => .tup (Is p)
theorem PcD_snoc (L : List (List Int)) (p : List Int) : PcD L ++ [.tup (Is p)] = PcD (L ++ [p]) := by simp [PcD]
theorem PcD_len (L : List (List Int)) : (PcD L).length = L.length := by simp [PcD]
theorem St_succ (i : Nat) : St (i + 1) = St i ++ [(i : Int)] := by unfold St; rw [List.range_succ, List.map_append]; rfl
theorem St_get {n i : Nat} {x : Int} (h : (St n)[i]? = some x) : x = (i : Int) ∧ i < n := by
  have hl := (List.getElem?_eq_some_iff.mp h).1
  rw [St_len] at hl
  unfold St at h
  rw [List.getElem?_map, List.getElem?_range hl] at h
  injection h with h
  exact ⟨h.symm, hl⟩
theorem St_iff {n : Nat} {x : Int} : x ∈ St n ↔ Ok1 n x := ⟨St_mem, St_of⟩
theorem PcL_t {n : Nat} {E : List (Int × Int)} {i : Nat} (h : firstB E (i : Int) = true) : PcL n E (i + 1) = PcL n E i ++ [Piece n E i] := by
  unfold PcL
  rw [St_succ, List.filter_append, List.map_append]
  simp [h]
theorem PcL_f {n : Nat} {E : List (Int × Int)} {i : Nat} (h : firstB E (i : Int) = false) : PcL n E (i + 1) = PcL n E i := by
  unfold PcL
  rw [St_succ, List.filter_append, List.map_append]
  simp [h]
theorem PcL_len {n : Nat} {E : List (Int × Int)} {i : Nat} : (PcL n E i).length ≤ i := by
  unfold PcL
  rw [List.length_map]
  exact Nat.le_trans (List.length_filter_le _ _) (by rw [St_len]; exact Nat.le_refl _)
/-- what is known of a chart here -/
structure One (n : Nat) (c : D) (fs : List Int) (ts : List (Int × Int × Int)) : Prop where
  hc : c = .tup [.int n, .tup (Is fs), .tup (Trs ts)]
  n0 : 0 < n
  n60 : n ≤ 60
  of : ∀ f ∈ fs, Ok1 n f
  ot : ∀ q ∈ ts, Ok1 n q.1 ∧ Ok1 n q.2.2 ∧ 0 ≤ q.2.1 ∧ q.2.1 ≤ 855
  lt : ts.length ≤ 855
  lf : fs.length ≤ 60
def Ed (ts : List (Int × Int × Int)) : List (Int × Int) := ts.map fun q => (q.1, q.2.2)
def Eb (ts : List (Int × Int × Int)) : List (Int × Int) := ts.map fun q => (q.2.2, q.1)
section
variable {n : Nat} {c : D} {fs : List Int} {ts : List (Int × Int × Int)}
theorem One.c0 (h : One n c fs ts) : index c (.int 0) = .ok (.int n) := by rw [h.hc]; simp only [index, at0, ofO_some]
theorem One.c2 (h : One n c fs ts) : index c (.int 2) = .ok (.tup (Trs ts)) := by rw [h.hc]; simp only [index, at2, ofO_some]
theorem One.oE (h : One n c fs ts) : ∀ p ∈ Ed ts, Ok2 n p := fun p hp => by obtain ⟨q, hq, rfl⟩ := List.mem_map.mp hp; exact ⟨(h.ot q hq).1, (h.ot q hq).2.1⟩
theorem One.oB (h : One n c fs ts) : ∀ p ∈ Eb ts, Ok2 n p := fun p hp => by obtain ⟨q, hq, rfl⟩ := List.mem_map.mp hp; exact ⟨(h.ot q hq).2.1, (h.ot q hq).1⟩
theorem One.lE (h : One n c fs ts) : (Ed ts).length ≤ 855 := by unfold Ed; rw [List.length_map]; exact h.lt
theorem One.lB (h : One n c fs ts) : (Eb ts).length ≤ 855 := by unfold Eb; rw [List.length_map]; exact h.lt
theorem reach_b {a b : Int} : Reach (Eb ts) a b ↔ Reach (Ed ts) b a := by
  constructor
  · exact Reach.rev fun x y h => by
      obtain ⟨q, hq, e⟩ := List.mem_map.mp h
      cases e
      exact List.mem_map.mpr ⟨q, hq, rfl⟩
  · exact Reach.rev fun x y h => by
      obtain ⟨q, hq, e⟩ := List.mem_map.mp h
      cases e
      exact List.mem_map.mpr ⟨q, hq, rfl⟩
theorem ahead_ok (h : One n c fs ts) : m_neighbours_of [c, .int 0, .int 2] [] = .ok (.lst (NL n (Ed ts)), []) :=
  neighbours_ok (f := fun q => (q.1, q.2.2)) h.hc (by have := h.n60; omega) (by have := h.lt; omega) (fun x y z => by simp only [index, at0, ofO_some]) (fun x y z => by simp only [index, at2, ofO_some]) fun q hq => (h.ot q hq).1
theorem behind_ok (h : One n c fs ts) : m_neighbours_of [c, .int 2, .int 0] [] = .ok (.lst (NL n (Eb ts)), []) :=
  neighbours_ok (f := fun q => (q.2.2, q.1)) h.hc (by have := h.n60; omega) (by have := h.lt; omega) (fun x y z => by simp only [index, at2, ofO_some]) (fun x y z => by simp only [index, at0, ofO_some]) fun q hq => (h.ot q hq).2.1
/-- a piece, by two lists of flags -/
theorem pc_comp {s : Int} {f1 f2 : List Bool} {x1 x2 x3 x4 x5 x8 x9 : Option D} (h : One n c fs ts) (l1 : f1.length = n) (l2 : f2.length = n) (h1 : ∀ x, Ok1 n x → (T1 f1 x ↔ Reach (Ed ts) s x)) (h2 : ∀ x, Ok1 n x → (T1 f2 x ↔ Reach (Ed ts) x s)) :
    ev p_pieces_of rpD (.lc (.nm 9) (.bi .range1 [(.idx (.var 0) (.int 0))]) [(.and (.idx (.var 6) (.var 9)) (.idx (.var 7) (.var 9)))] (.var 9)) [some c, x1, x2, x3, x4, x5, some (.lst (Bs f1)), some (.lst (Bs f2)), x8, x9] = .ok (.lst (Is (Piece n (Ed ts) s)), [some c, x1, x2, x3, x4, x5, some (.lst (Bs f1)), some (.lst (Bs f2)), x8, x9]) := by
  have n60 := h.n60
  have hi : ev p_pieces_of rpD (.bi .range1 [(.idx (.var 0) (.int 0))]) [some c, x1, x2, x3, x4, x5, some (.lst (Bs f1)), some (.lst (Bs f2)), x8, x9] = .ok (.lst (Is (St n)), [some c, x1, x2, x3, x4, x5, some (.lst (Bs f1)), some (.lst (Bs f2)), x8, x9]) := by
    have := ev_bi1 (P := p_pieces_of) (a := .idx (.var 0) (.int 0)) (r := [some c, x1, x2, x3, x4, x5, some (.lst (Bs f1)), some (.lst (Bs f2)), x8, x9]) (r1 := [some c, x1, x2, x3, x4, x5, some (.lst (Bs f1)), some (.lst (Bs f2)), x8, x9]) (x := .int n) (by simp only [sts, st, ev, evs, evc, rd_zero, rd_succ, ok_bind, pure_ok, ofO_some, grd_true, List.set_cons_zero, List.set_cons_succ, getAll, putAll, setT, setTs, List.length_cons, List.length_nil, intOf, Bool.and_true, Bool.true_and, if_true, if_false, Bool.false_eq_true, Nat.zero_add, Nat.reduceAdd, Nat.reduceLT, decide_true, decide_false, true_and, and_true, Int.reduceAdd, Int.reduceLT, Int.reduceNeg, h.c0]) (bi_range1 (by omega) (by omega))
    rw [range_St] at this
    exact this
  obtain ⟨r', e1, w, er⟩ := ev_lcF (P := p_pieces_of) (rp := rpD) (t := .nm 9) (cs := [(.and (.idx (.var 6) (.var 9)) (.idx (.var 7) (.var 9)))]) (e := .var 9) hi rfl (gI (muB (Ed ts) s))
    (fun r => ∃ w, r = [some c, x1, x2, x3, x4, x5, some (.lst (Bs f1)), some (.lst (Bs f2)), x8, w]) ⟨x9, rfl⟩ (by rw [Is_len, St_len]; show _ ≤ 16777216; omega) fun d r hd ⟨w, er⟩ => by
      subst er
      obtain ⟨x, hx, rfl⟩ := Is_mem hd
      have ox := St_mem hx
      obtain ⟨o1, o2⟩ := ox
      obtain ⟨v1, e1⟩ : ∃ v, f1[x.toNat]? = some v := ⟨_, List.getElem?_eq_getElem (by omega)⟩
      obtain ⟨v2, e2⟩ : ∃ v, f2[x.toNat]? = some v := ⟨_, List.getElem?_eq_getElem (by omega)⟩
      have i1 := Bs_at o1 e1
      have i2 := Bs_at o1 e2
      have t1 := h1 x ⟨o1, o2⟩
      have t2 := h2 x ⟨o1, o2⟩
      unfold T1 at t1 t2
      rw [e1] at t1
      rw [e2] at t2
      refine ⟨[some c, x1, x2, x3, x4, x5, some (.lst (Bs f1)), some (.lst (Bs f2)), x8, some (.int x)], by simp only [sts, st, ev, evs, evc, rd_zero, rd_succ, ok_bind, pure_ok, ofO_some, grd_true, List.set_cons_zero, List.set_cons_succ, getAll, putAll, setT, setTs, List.length_cons, List.length_nil, intOf, Bool.and_true, Bool.true_and, if_true, if_false, Bool.false_eq_true, Nat.zero_add, Nat.reduceAdd, Nat.reduceLT, decide_true, decide_false, true_and, and_true, Int.reduceAdd, Int.reduceLT, Int.reduceNeg, clr, Tg.slots], ?_⟩
      by_cases hm : Mut (Ed ts) s x
      · have hv1 : v1 = true := by simpa using t1.mpr hm.1
        have hv2 : v2 = true := by simpa using t2.mpr hm.2
        subst hv1; subst hv2
        refine .inr ⟨[some c, x1, x2, x3, x4, x5, some (.lst (Bs f1)), some (.lst (Bs f2)), x8, some (.int x)], .int x, [some c, x1, x2, x3, x4, x5, some (.lst (Bs f1)), some (.lst (Bs f2)), x8, some (.int x)], ?_, rfl, gI_t (muB_iff.mpr hm), ⟨_, rfl⟩⟩
        simp only [sts, st, ev, evs, evc, rd_zero, rd_succ, ok_bind, pure_ok, ofO_some, grd_true, List.set_cons_zero, List.set_cons_succ, getAll, putAll, setT, setTs, List.length_cons, List.length_nil, intOf, Bool.and_true, Bool.true_and, if_true, if_false, Bool.false_eq_true, Nat.zero_add, Nat.reduceAdd, Nat.reduceLT, decide_true, decide_false, true_and, and_true, Int.reduceAdd, Int.reduceLT, Int.reduceNeg, index, i1, i2, truth]
      · have hg : muB (Ed ts) s x = false := by
          cases hq : muB (Ed ts) s x with
          | false => rfl
          | true => exact absurd (muB_iff.mp hq) hm
        refine .inl ⟨[some c, x1, x2, x3, x4, x5, some (.lst (Bs f1)), some (.lst (Bs f2)), x8, some (.int x)], ?_, gI_f hg, ⟨_, rfl⟩⟩
        cases v1 with
        | false => simp only [sts, st, ev, evs, evc, rd_zero, rd_succ, ok_bind, pure_ok, ofO_some, grd_true, List.set_cons_zero, List.set_cons_succ, getAll, putAll, setT, setTs, List.length_cons, List.length_nil, intOf, Bool.and_true, Bool.true_and, if_true, if_false, Bool.false_eq_true, Nat.zero_add, Nat.reduceAdd, Nat.reduceLT, decide_true, decide_false, true_and, and_true, Int.reduceAdd, Int.reduceLT, Int.reduceNeg, index, i1, truth]
        | true =>
          cases v2 with
          | false => simp only [sts, st, ev, evs, evc, rd_zero, rd_succ, ok_bind, pure_ok, ofO_some, grd_true, List.set_cons_zero, List.set_cons_succ, getAll, putAll, setT, setTs, List.length_cons, List.length_nil, intOf, Bool.and_true, Bool.true_and, if_true, if_false, Bool.false_eq_true, Nat.zero_add, Nat.reduceAdd, Nat.reduceLT, decide_true, decide_false, true_and, and_true, Int.reduceAdd, Int.reduceLT, Int.reduceNeg, index, i1, i2, truth]
          | true => exact absurd ⟨t1.mp rfl, t2.mp rfl⟩ hm
  subst er
  rw [fm_gI] at e1
  rw [e1]
  rfl
theorem pieces_ok (h : One n c fs ts) : m_pieces_of [c] [] = .ok (.lst (PcD (PcL n (Ed ts) n)), []) := by
  have n60 := h.n60
  have hP0 : p_pieces_of 0 = m_neighbours_of := rfl
  have hP1 : p_pieces_of 1 = m_reached_from := rfl
  have q1 := ahead_ok h
  have q2 := behind_ok h
  have st1 : st p_pieces_of rpD fuel (.par [1, 2] [(.call 0 [(.var 0), (.int 0), (.int 2)] []), (.call 0 [(.var 0), (.int 2), (.int 0)] [])]) [some c, none, none, none, none, none, none, none, none, none] = .ok (.nx [some c, some (.lst (NL n (Ed ts))), some (.lst (NL n (Eb ts))), none, none, none, none, none, none, none]) := by
    simp only [sts, st, ev, evs, evc, rd_zero, rd_succ, ok_bind, pure_ok, ofO_some, grd_true, List.set_cons_zero, List.set_cons_succ, getAll, putAll, setT, setTs, List.length_cons, List.length_nil, intOf, Bool.and_true, Bool.true_and, if_true, if_false, Bool.false_eq_true, Nat.zero_add, Nat.reduceAdd, Nat.reduceLT, decide_true, decide_false, true_and, and_true, Int.reduceAdd, Int.reduceLT, Int.reduceNeg, hP0, q1, q2]
  have st2 : st p_pieces_of rpD fuel (.par [3, 4] [(.lst []), (.lk (.bin .mul (.lst [(.bl false)]) (.idx (.var 0) (.int 0))))]) [some c, some (.lst (NL n (Ed ts))), some (.lst (NL n (Eb ts))), none, none, none, none, none, none, none] = .ok (.nx [some c, some (.lst (NL n (Ed ts))), some (.lst (NL n (Eb ts))), some (.lst []), some (.lst (Bs (List.replicate n false))), none, none, none, none, none]) := by
    have g : grd (decide ((n : Int) < 2 ^ 63 ∧ -(2 ^ 63) ≤ (n : Int) ∧ ([D.bl false] : List D).length * ((n : Int)).toNat ≤ line)) = .ok () := grd_of (decide_eq_true ⟨by omega, by omega, by simp; show n ≤ 16777216; omega⟩)
    have hb : binop .mul (.lst [.bl false]) (.int n) = .ok (.lst (Bs (List.replicate n false))) := by
      simp only [binop]
      rw [show grd _ = Rs.ok () from g]
      simp only [ok_bind, rep_false, pure_ok]
    have e : ev p_pieces_of rpD (.bin .mul (.lst [(.bl false)]) (.idx (.var 0) (.int 0))) [some c, some (.lst (NL n (Ed ts))), some (.lst (NL n (Eb ts))), none, none, none, none, none, none, none] = .ok (.lst (Bs (List.replicate n false)), [some c, some (.lst (NL n (Ed ts))), some (.lst (NL n (Eb ts))), none, none, none, none, none, none, none]) := ev_bin rfl (by simp only [sts, st, ev, evs, evc, rd_zero, rd_succ, ok_bind, pure_ok, ofO_some, grd_true, List.set_cons_zero, List.set_cons_succ, getAll, putAll, setT, setTs, List.length_cons, List.length_nil, intOf, Bool.and_true, Bool.true_and, if_true, if_false, Bool.false_eq_true, Nat.zero_add, Nat.reduceAdd, Nat.reduceLT, decide_true, decide_false, true_and, and_true, Int.reduceAdd, Int.reduceLT, Int.reduceNeg, h.c0]) hb
    have g2 : grd (!isTS (.lst (Bs (List.replicate n false)))) = .ok () := rfl
    generalize E.bin _ _ _ = z at e ⊢
    simp only [sts, st, ev, evs, evc, rd_zero, rd_succ, ok_bind, pure_ok, ofO_some, grd_true, List.set_cons_zero, List.set_cons_succ, getAll, putAll, setT, setTs, List.length_cons, List.length_nil, intOf, Bool.and_true, Bool.true_and, if_true, if_false, Bool.false_eq_true, Nat.zero_add, Nat.reduceAdd, Nat.reduceLT, decide_true, decide_false, true_and, and_true, Int.reduceAdd, Int.reduceLT, Int.reduceNeg, e, g2]
  have hr : ev p_pieces_of rpD (.bi .range1 [(.idx (.var 0) (.int 0))]) [some c, some (.lst (NL n (Ed ts))), some (.lst (NL n (Eb ts))), some (.lst []), some (.lst (Bs (List.replicate n false))), none, none, none, none, none] = .ok (.lst (Is (St n)), [some c, some (.lst (NL n (Ed ts))), some (.lst (NL n (Eb ts))), some (.lst []), some (.lst (Bs (List.replicate n false))), none, none, none, none, none]) := by
    have := ev_bi1 (P := p_pieces_of) (a := .idx (.var 0) (.int 0)) (r := [some c, some (.lst (NL n (Ed ts))), some (.lst (NL n (Eb ts))), some (.lst []), some (.lst (Bs (List.replicate n false))), none, none, none, none, none]) (r1 := [some c, some (.lst (NL n (Ed ts))), some (.lst (NL n (Eb ts))), some (.lst []), some (.lst (Bs (List.replicate n false))), none, none, none, none, none]) (x := .int n) (by simp only [sts, st, ev, evs, evc, rd_zero, rd_succ, ok_bind, pure_ok, ofO_some, grd_true, List.set_cons_zero, List.set_cons_succ, getAll, putAll, setT, setTs, List.length_cons, List.length_nil, intOf, Bool.and_true, Bool.true_and, if_true, if_false, Bool.false_eq_true, Nat.zero_add, Nat.reduceAdd, Nat.reduceLT, decide_true, decide_false, true_and, and_true, Int.reduceAdd, Int.reduceLT, Int.reduceNeg, h.c0]) (bi_range1 (by omega) (by omega))
    rw [range_St] at this
    exact this
  obtain ⟨r', e3, fl, w5, w6, w7, w8, w9, er, lfl, hfl⟩ := st_forI (P := p_pieces_of) (rp := rpD) (n := fuel) (t := .nm 5) (b := [.ite (.not (.idx (.var 4) (.var 5))) [.par [6, 7] [(.call 1 [(.var 1), (.var 5)] []), (.call 1 [(.var 2), (.var 5)] [])], .asg (.nm 8) (.bi .tuple [(.lc (.nm 9) (.bi .range1 [(.idx (.var 0) (.int 0))]) [(.and (.idx (.var 6) (.var 9)) (.idx (.var 7) (.var 9)))] (.var 9))]), .for_ (.nm 9) (.var 8) [.set1 4 (.var 9) (.bl true)], .mcall .append 3 [] [(.var 8)]] []]) hr rfl
    (fun i r => ∃ fl w5 w6 w7 w8 w9, r = [some c, some (.lst (NL n (Ed ts))), some (.lst (NL n (Eb ts))), some (.lst (PcD (PcL n (Ed ts) i))), some (.lst (Bs fl)), w5, w6, w7, w8, w9] ∧ fl.length = n ∧ ∀ x, Ok1 n x → (T1 fl x ↔ ∃ t, 0 ≤ t ∧ t < (i : Int) ∧ Mut (Ed ts) t x))
    ⟨List.replicate n false, none, none, none, none, none, rfl, by simp, fun x ox => by
      constructor
      · intro hx
        unfold T1 at hx
        rw [List.getElem?_replicate] at hx
        split at hx <;> cases hx
      · rintro ⟨t, h1, h2, _⟩; omega⟩ fun i d r ed ⟨fl, w5, w6, w7, w8, w9, er, lfl, hfl⟩ => by
      subst er
      obtain ⟨s, es, rfl⟩ := Is_get ed
      obtain ⟨rfl, hi⟩ := St_get es
      have os : Ok1 n (i : Int) := ⟨by omega, by omega⟩
      refine ⟨[some c, some (.lst (NL n (Ed ts))), some (.lst (NL n (Eb ts))), some (.lst (PcD (PcL n (Ed ts) i))), some (.lst (Bs fl)), some (.int i), w6, w7, w8, w9], by simp only [sts, st, ev, evs, evc, rd_zero, rd_succ, ok_bind, pure_ok, ofO_some, grd_true, List.set_cons_zero, List.set_cons_succ, getAll, putAll, setT, setTs, List.length_cons, List.length_nil, intOf, Bool.and_true, Bool.true_and, if_true, if_false, Bool.false_eq_true, Nat.zero_add, Nat.reduceAdd, Nat.reduceLT, decide_true, decide_false, true_and, and_true, Int.reduceAdd, Int.reduceLT, Int.reduceNeg], ?_⟩
      obtain ⟨b, hb⟩ : ∃ b, fl[((i : Int)).toNat]? = some b := ⟨_, List.getElem?_eq_getElem (by omega)⟩
      have ib := Bs_at (x := (i : Int)) (by omega) hb
      have tb := hfl i os
      unfold T1 at tb
      rw [hb] at tb
      cases b with
      | true =>
        obtain ⟨t, t0, t1, tm⟩ := tb.mp rfl
        have hF : firstB (Ed ts) (i : Int) = false := by
          cases hq : firstB (Ed ts) (i : Int) with
          | false => rfl
          | true => exact absurd tm (firstB_iff.mp hq t t0 t1)
        rw [PcL_f hF]
        refine ⟨[some c, some (.lst (NL n (Ed ts))), some (.lst (NL n (Eb ts))), some (.lst (PcD (PcL n (Ed ts) i))), some (.lst (Bs fl)), some (.int i), w6, w7, w8, w9], sts_nx (st_ite_f (x := .bl false) (r1 := [some c, some (.lst (NL n (Ed ts))), some (.lst (NL n (Eb ts))), some (.lst (PcD (PcL n (Ed ts) i))), some (.lst (Bs fl)), some (.int i), w6, w7, w8, w9]) ?_ rfl rfl) rfl, fl, some (.int i), w6, w7, w8, w9, rfl, lfl, fun x ox => ?_⟩
        · simp only [sts, st, ev, evs, evc, rd_zero, rd_succ, ok_bind, pure_ok, ofO_some, grd_true, List.set_cons_zero, List.set_cons_succ, getAll, putAll, setT, setTs, List.length_cons, List.length_nil, intOf, Bool.and_true, Bool.true_and, if_true, if_false, Bool.false_eq_true, Nat.zero_add, Nat.reduceAdd, Nat.reduceLT, decide_true, decide_false, true_and, and_true, Int.reduceAdd, Int.reduceLT, Int.reduceNeg, index, ib, truth, Bool.not_true]
        · rw [hfl x ox]
          constructor
          · rintro ⟨u, u0, u1, um⟩
            exact ⟨u, u0, by omega, um⟩
          · rintro ⟨u, u0, u1, um⟩
            by_cases hu : u = (i : Int)
            · subst hu; exact ⟨t, t0, t1, tm.trans um⟩
            · exact ⟨u, u0, by omega, um⟩
      | false =>
        have hF : firstB (Ed ts) (i : Int) = true := firstB_iff.mpr fun t t0 t1 tm => by
          have := tb.mpr ⟨t, t0, t1, tm⟩
          cases this
        rw [PcL_t hF]
        obtain ⟨g1, e1, k1, z1⟩ := reached_ok (n := n) (E := Ed ts) (s := i) h.oE h.n0 (by omega) (by have := h.lE; omega) os
        obtain ⟨g2, e2, k2, z2⟩ := reached_ok (n := n) (E := Eb ts) (s := i) h.oB h.n0 (by omega) (by have := h.lB; omega) os
        have e3 := pc_comp (s := i) (f1 := g1) (f2 := g2) (x1 := some (.lst (NL n (Ed ts)))) (x2 := some (.lst (NL n (Eb ts)))) (x3 := some (.lst (PcD (PcL n (Ed ts) i)))) (x4 := some (.lst (Bs fl))) (x5 := some (.int i)) (x8 := w8) (x9 := w9) h k1 k2 z1 fun x ox => (z2 x ox).trans reach_b
        obtain ⟨P, hPc⟩ : ∃ P, Piece n (Ed ts) i = P := ⟨_, rfl⟩
        have hPm : ∀ x, x ∈ P ↔ Ok1 n x ∧ Mut (Ed ts) i x := fun x => by
          rw [← hPc]
          unfold Piece
          rw [List.mem_filter, St_iff, muB_iff]
        rw [hPc] at e3 ⊢
        -- done
        obtain ⟨r4, e4, fl2, v9, er4, lfl2, hfl2⟩ := st_forI (P := p_pieces_of) (rp := rpD) (n := fuel) (t := .nm 9) (it := .var 8) (b := [.set1 4 (.var 9) (.bl true)])
          (r := [some c, some (.lst (NL n (Ed ts))), some (.lst (NL n (Eb ts))), some (.lst (PcD (PcL n (Ed ts) i))), some (.lst (Bs fl)), some (.int i), some (.lst (Bs g1)), some (.lst (Bs g2)), some (.tup (Is P)), w9]) (r0 := [some c, some (.lst (NL n (Ed ts))), some (.lst (NL n (Eb ts))), some (.lst (PcD (PcL n (Ed ts) i))), some (.lst (Bs fl)), some (.int i), some (.lst (Bs g1)), some (.lst (Bs g2)), some (.tup (Is P)), w9]) (x := .tup (Is P)) (ds := Is P) rfl rfl
          (fun j r => ∃ fl2 v9, r = [some c, some (.lst (NL n (Ed ts))), some (.lst (NL n (Eb ts))), some (.lst (PcD (PcL n (Ed ts) i))), some (.lst (Bs fl2)), some (.int i), some (.lst (Bs g1)), some (.lst (Bs g2)), some (.tup (Is P)), v9] ∧ fl2.length = n ∧ ∀ x, Ok1 n x → (T1 fl2 x ↔ T1 fl x ∨ x ∈ P.take j))
          ⟨fl, w9, rfl, lfl, fun x ox => by simp⟩ fun j d r ed ⟨fl2, v9, er, l2, h2⟩ => by
            subst er
            obtain ⟨y, ey, rfl⟩ := Is_get ed
            have oy := ((hPm y).mp (List.mem_of_getElem? ey)).1
            refine ⟨[some c, some (.lst (NL n (Ed ts))), some (.lst (NL n (Eb ts))), some (.lst (PcD (PcL n (Ed ts) i))), some (.lst (Bs fl2)), some (.int i), some (.lst (Bs g1)), some (.lst (Bs g2)), some (.tup (Is P)), some (.int y)], by simp only [sts, st, ev, evs, evc, rd_zero, rd_succ, ok_bind, pure_ok, ofO_some, grd_true, List.set_cons_zero, List.set_cons_succ, getAll, putAll, setT, setTs, List.length_cons, List.length_nil, intOf, Bool.and_true, Bool.true_and, if_true, if_false, Bool.false_eq_true, Nat.zero_add, Nat.reduceAdd, Nat.reduceLT, decide_true, decide_false, true_and, and_true, Int.reduceAdd, Int.reduceLT, Int.reduceNeg], [some c, some (.lst (NL n (Ed ts))), some (.lst (NL n (Eb ts))), some (.lst (PcD (PcL n (Ed ts) i))), some (.lst (Bs (fl2.set y.toNat true))), some (.int i), some (.lst (Bs g1)), some (.lst (Bs g2)), some (.tup (Is P)), some (.int y)], ?_, fl2.set y.toNat true, some (.int y), rfl, by rw [List.length_set]; exact l2, fun x ox => ?_⟩
            · have ixy : ixN (Bs fl2).length y = some y.toNat := by rw [Bs_len, l2]; exact ixN_ok oy
              simp only [sts, st, ev, evs, evc, rd_zero, rd_succ, ok_bind, pure_ok, ofO_some, grd_true, List.set_cons_zero, List.set_cons_succ, getAll, putAll, setT, setTs, List.length_cons, List.length_nil, intOf, Bool.and_true, Bool.true_and, if_true, if_false, Bool.false_eq_true, Nat.zero_add, Nat.reduceAdd, Nat.reduceLT, decide_true, decide_false, true_and, and_true, Int.reduceAdd, Int.reduceLT, Int.reduceNeg, setIx, ixy, Bs_set]
            · rw [T1_set ox.1 oy.1 (by have := oy.2; omega), h2 x ox, tk1 ey, List.mem_append, List.mem_singleton]
              constructor
              · rintro (h | h | h) <;> simp [h]
              · rintro (h | h | h) <;> simp [h]
        subst er4
        rw [Is_len, List.take_length] at hfl2
        have lpc := PcL_len (n := n) (E := Ed ts) (i := i)
        refine ⟨[some c, some (.lst (NL n (Ed ts))), some (.lst (NL n (Eb ts))), some (.lst (PcD (PcL n (Ed ts) i ++ [P]))), some (.lst (Bs fl2)), some (.int i), some (.lst (Bs g1)), some (.lst (Bs g2)), some (.tup (Is P)), v9], sts_nx (st_ite_t (x := .bl true) (r1 := [some c, some (.lst (NL n (Ed ts))), some (.lst (NL n (Eb ts))), some (.lst (PcD (PcL n (Ed ts) i))), some (.lst (Bs fl)), some (.int i), w6, w7, w8, w9]) ?_ rfl (sts_nx (r1 := [some c, some (.lst (NL n (Ed ts))), some (.lst (NL n (Eb ts))), some (.lst (PcD (PcL n (Ed ts) i))), some (.lst (Bs fl)), some (.int i), some (.lst (Bs g1)), some (.lst (Bs g2)), w8, w9]) ?_ (sts_nx (r1 := [some c, some (.lst (NL n (Ed ts))), some (.lst (NL n (Eb ts))), some (.lst (PcD (PcL n (Ed ts) i))), some (.lst (Bs fl)), some (.int i), some (.lst (Bs g1)), some (.lst (Bs g2)), some (.tup (Is P)), w9]) ?_ (sts_nx e4 (sts_nx ?_ rfl))))) rfl, fl2, some (.int i), some (.lst (Bs g1)), some (.lst (Bs g2)), some (.tup (Is P)), v9, rfl, lfl2, fun x ox => ?_⟩
        · simp only [sts, st, ev, evs, evc, rd_zero, rd_succ, ok_bind, pure_ok, ofO_some, grd_true, List.set_cons_zero, List.set_cons_succ, getAll, putAll, setT, setTs, List.length_cons, List.length_nil, intOf, Bool.and_true, Bool.true_and, if_true, if_false, Bool.false_eq_true, Nat.zero_add, Nat.reduceAdd, Nat.reduceLT, decide_true, decide_false, true_and, and_true, Int.reduceAdd, Int.reduceLT, Int.reduceNeg, index, ib, truth, Bool.not_false]
        · have a1 : ev p_pieces_of rpD (.call 1 [(.var 1), (.var 5)] []) [some c, some (.lst (NL n (Ed ts))), some (.lst (NL n (Eb ts))), some (.lst (PcD (PcL n (Ed ts) i))), some (.lst (Bs fl)), some (.int i), w6, w7, w8, w9] = .ok (.lst (Bs g1), [some c, some (.lst (NL n (Ed ts))), some (.lst (NL n (Eb ts))), some (.lst (PcD (PcL n (Ed ts) i))), some (.lst (Bs fl)), some (.int i), w6, w7, w8, w9]) :=
            ev_call2 hP1 e1 rfl rfl
          have a2 : ev p_pieces_of rpD (.call 1 [(.var 2), (.var 5)] []) [some c, some (.lst (NL n (Ed ts))), some (.lst (NL n (Eb ts))), some (.lst (PcD (PcL n (Ed ts) i))), some (.lst (Bs fl)), some (.int i), w6, w7, w8, w9] = .ok (.lst (Bs g2), [some c, some (.lst (NL n (Ed ts))), some (.lst (NL n (Eb ts))), some (.lst (PcD (PcL n (Ed ts) i))), some (.lst (Bs fl)), some (.int i), w6, w7, w8, w9]) :=
            ev_call2 hP1 e2 rfl rfl
          exact st_par2 a1 a2 rfl
        · have ht : ∀ l, bi rpD .tuple [.lst l] = .ok (.tup l) := fun l => rfl
          generalize E.lc _ _ _ _ = z at e3 ⊢
          simp only [sts, st, ev, evs, evc, rd_zero, rd_succ, ok_bind, pure_ok, ofO_some, grd_true, List.set_cons_zero, List.set_cons_succ, getAll, putAll, setT, setTs, List.length_cons, List.length_nil, intOf, Bool.and_true, Bool.true_and, if_true, if_false, Bool.false_eq_true, Nat.zero_add, Nat.reduceAdd, Nat.reduceLT, decide_true, decide_false, true_and, and_true, Int.reduceAdd, Int.reduceLT, Int.reduceNeg, e3, ht]
        · have hg : grd (decide ((PcD (PcL n (Ed ts) i)).length < line)) = .ok () := grd_of (decide_eq_true (by rw [PcD_len]; show _ < 16777216; omega))
          simp only [sts, st, ev, evs, evc, rd_zero, rd_succ, ok_bind, pure_ok, ofO_some, grd_true, List.set_cons_zero, List.set_cons_succ, getAll, putAll, setT, setTs, List.length_cons, List.length_nil, intOf, Bool.and_true, Bool.true_and, if_true, if_false, Bool.false_eq_true, Nat.zero_add, Nat.reduceAdd, Nat.reduceLT, decide_true, decide_false, true_and, and_true, Int.reduceAdd, Int.reduceLT, Int.reduceNeg, isLst, atPath, mu, hg, PcD_snoc]
        · rw [hfl2 x ox, hfl x ox, hPm]
          constructor
          · rintro (⟨u, u0, u1, um⟩ | ⟨_, um⟩)
            · exact ⟨u, u0, by omega, um⟩
            · exact ⟨i, by omega, by omega, um⟩
          · rintro ⟨u, u0, u1, um⟩
            by_cases hu : u = (i : Int)
            · subst hu; exact .inr ⟨ox, um⟩
            · exact .inl ⟨u, u0, by omega, um⟩
  subst er
  rw [Is_len, St_len] at e3
  refine run_ok f_pieces_of (r0 := [some c, none, none, none, none, none, none, none, none, none]) (r := [some c, some (.lst (NL n (Ed ts))), some (.lst (NL n (Eb ts))), none, some (.lst (Bs fl)), w5, w6, w7, w8, w9]) rfl (sts_nx st1 (sts_nx st2 (sts_nx e3 (sts_ret ?_)))) rfl
  simp only [sts, st, ev, evs, evc, rd_zero, rd_succ, ok_bind, pure_ok, ofO_some, grd_true, List.set_cons_zero, List.set_cons_succ, getAll, putAll, setT, setTs, List.length_cons, List.length_nil, intOf, Bool.and_true, Bool.true_and, if_true, if_false, Bool.false_eq_true, Nat.zero_add, Nat.reduceAdd, Nat.reduceLT, decide_true, decide_false, true_and, and_true, Int.reduceAdd, Int.reduceLT, Int.reduceNeg]
end
end C

set_option linter.all false
set_option maxHeartbeats 2000000
set_option maxRecDepth 100000
namespace C
open PySem (Str)
theorem eqvs_Is : ∀ a b : List Int, eqvs (Is a) (Is b) = decide (a = b)
  | [], [] => rfl
  | [], _ :: _ => rfl
  | _ :: _, [] => rfl
  | x :: a, y :: b => by
    show (eqv (.int x) (.int y) && eqvs (Is a) (Is b)) = _
    rw [eqvs_Is a b]
    simp only [eqv, List.cons.injEq]
    by_cases h : x = y <;> simp [h]
theorem memD_PcD (p : List Int) : ∀ L : List (List Int), memD (.tup (Is p)) (PcD L) = decide (p ∈ L)
  | [] => rfl
  | q :: L => by
    show (eqv (.tup (Is q)) (.tup (Is p)) || memD (.tup (Is p)) (PcD L)) = _
    rw [memD_PcD p L]
    simp only [eqv, eqvs_Is, List.mem_cons]
    by_cases h : q = p
    · simp [h]
    · have : ¬ p = q := fun z => h z.symm
      simp [h, this]
theorem PcD_mem {L : List (List Int)} {d : D} (h : d ∈ PcD L) : ∃ p ∈ L, d = .tup (Is p) := by
  obtain ⟨p, hp, rfl⟩ := List.mem_map.mp h
  exact ⟨p, hp, rfl⟩
theorem pls_PcD {k : Nat} (L : List (List Int)) : pls (k + 1) (PcD L) = true := pls_of fun d hd => by
  obtain ⟨p, _, rfl⟩ := PcD_mem hd
  simp only [pl, pls_Is]
theorem notin_PcD (p : List Int) (L : List (List Int)) : cmpop .notin (.tup (Is p)) (.lst (PcD L)) = .ok (!decide (p ∈ L)) := by
  simp only [cmpop, isin, plain, plains, pl, pls_Is, pls_PcD, Bool.and_self, grd_true, ok_bind, pure_ok, memD_PcD]
theorem cmpbs_Is : ∀ a b : List Int, cmpbs (Is a) (Is b) = true
  | [], b => by cases b <;> rfl
  | _ :: _, [] => rfl
  | x :: a, y :: b => by
    show ((eqv (.int x) (.int y) || cmpb (.int x) (.int y)) && cmpbs (Is a) (Is b)) = true
    rw [cmpbs_Is a b]
    simp [cmpb]
theorem sortD_id : ∀ {xs : List D}, xs.Pairwise (fun x y => ltb y x = false) → sortD xs = xs
  | [], _ => rfl
  | x :: r, h => by
    obtain ⟨h1, h2⟩ := List.pairwise_cons.mp h
    show insD x (sortD r) = _
    rw [sortD_id h2]
    cases r with
    | nil => rfl
    | cons y r =>
      unfold insD
      rw [h1 y (by simp)]
      rfl
theorem St_sorted (n : Nat) : (St n).Pairwise (· < ·) := by
  unfold St
  rw [List.pairwise_map]
  exact (List.pairwise_lt_range).imp fun h => by omega
theorem St_split {n s : Nat} (h : s < n) : ∃ r, St n = St s ++ (s : Int) :: r := by
  induction n with
  | zero => omega
  | succ n ih =>
    rw [St_succ]
    by_cases e : s = n
    · subst e; exact ⟨[], by simp⟩
    · obtain ⟨r, hr⟩ := ih (by omega)
      exact ⟨r ++ [(n : Int)], by rw [hr, List.append_assoc]; rfl⟩
section
variable {n : Nat} {E : List (Int × Int)}
theorem Piece_head {s : Nat} (h : s < n) (hF : firstB E (s : Int) = true) : ∃ q, Piece n E s = (s : Int) :: q := by
  obtain ⟨r, hr⟩ := St_split h
  unfold Piece
  rw [hr, List.filter_append]
  have e : (St s).filter (muB E s) = [] := List.filter_eq_nil_iff.mpr fun t ht => by
    have ot := St_mem ht
    have := firstB_iff.mp hF t ot.1 ot.2
    intro z
    exact this (muB_iff.mp z).symm
  rw [e, List.nil_append, List.filter_cons, if_pos (muB_iff.mpr .refl)]
  exact ⟨_, rfl⟩
theorem Piece_eq {s t : Int} (h : Mut E s t) : Piece n E s = Piece n E t := by
  unfold Piece
  refine List.filter_congr fun x _ => ?_
  have : Mut E s x ↔ Mut E t x := ⟨fun z => h.symm.trans z, fun z => h.trans z⟩
  cases hs : muB E s x with
  | true => exact (muB_iff.mpr (this.mp (muB_iff.mp hs))).symm
  | false =>
    cases ht : muB E t x with
    | false => rfl
    | true => exact absurd (muB_iff.mpr (this.mpr (muB_iff.mp ht))) (by rw [hs]; simp)
theorem first_of : ∀ (k : Nat) (t i : Int), t.toNat ≤ k → 0 ≤ t → t < i → Mut E t i → ∃ u, 0 ≤ u ∧ u < i ∧ firstB E u = true ∧ Mut E u i
  | k, t, i, hk, t0, t1, tm => by
    cases hq : firstB E t with
    | true => exact ⟨t, t0, t1, hq, tm⟩
    | false =>
      have : ¬ ∀ u, 0 ≤ u → u < t → ¬ Mut E u t := fun z => by
        have := firstB_iff.mpr z
        rw [hq] at this; cases this
      have : ∃ u, 0 ≤ u ∧ u < t ∧ Mut E u t := Classical.byContradiction fun z => this fun u u0 u1 um => z ⟨u, u0, u1, um⟩
      obtain ⟨u, u0, u1, um⟩ := this
      cases k with
      | zero => omega
      | succ k => exact first_of k u i (by omega) u0 (by omega) (um.trans tm)
theorem PcL_mem {i : Nat} (hi : i < n) : Piece n E i ∈ PcL n E i ↔ firstB E (i : Int) = false := by
  unfold PcL
  rw [List.mem_map]
  constructor
  · rintro ⟨t, ht, e⟩
    obtain ⟨h1, h2⟩ := List.mem_filter.mp ht
    have ot := St_mem h1
    have : (i : Int) ∈ Piece n E t := by
      rw [e]
      unfold Piece
      exact List.mem_filter.mpr ⟨St_of ⟨by omega, by omega⟩, muB_iff.mpr .refl⟩
    have hm := muB_iff.mp (List.mem_filter.mp this).2
    cases hq : firstB E (i : Int) with
    | false => rfl
    | true => exact absurd hm (firstB_iff.mp hq t ot.1 ot.2)
  · intro h
    have : ¬ ∀ u, 0 ≤ u → u < (i : Int) → ¬ Mut E u i := fun z => by
      have := firstB_iff.mpr z
      rw [h] at this; cases this
    have : ∃ u, 0 ≤ u ∧ u < (i : Int) ∧ Mut E u i := Classical.byContradiction fun z => this fun u u0 u1 um => z ⟨u, u0, u1, um⟩
    obtain ⟨u, u0, u1, um⟩ := this
    obtain ⟨v, v0, v1, vf, vm⟩ := first_of u.toNat u i (Nat.le_refl _) u0 u1 um
    exact ⟨v, List.mem_filter.mpr ⟨St_of ⟨v0, v1⟩, vf⟩, Piece_eq vm⟩
theorem PcL_of {p : List Int} {i : Nat} (h : p ∈ PcL n E i) (hi : i ≤ n) : ∃ s q, s < n ∧ p = ((s : Nat) : Int) :: q ∧ p = Piece n E s ∧ ∀ x ∈ p, Ok1 n x := by
  obtain ⟨t, ht, rfl⟩ := List.mem_map.mp h
  obtain ⟨h1, h2⟩ := List.mem_filter.mp ht
  obtain ⟨o1, o2⟩ := St_mem h1
  obtain ⟨s, rfl⟩ := Int.eq_ofNat_of_zero_le o1
  obtain ⟨q, hq⟩ := Piece_head (n := n) (s := s) (by omega) h2
  exact ⟨s, q, by omega, hq, rfl, fun x hx => St_mem (List.mem_filter.mp hx).1⟩
theorem sorted_PcL {i : Nat} (hi : i ≤ n) : bi rpD .sorted [.lst (PcD (PcL n E i))] = .ok (.lst (PcD (PcL n E i))) := by
  have g : grd (sortOk (PcD (PcL n E i))) = .ok () := grd_of (by
    unfold sortOk tupOk
    rw [Bool.or_eq_true]
    right
    rw [Bool.and_eq_true, List.all_eq_true, List.all_eq_true]
    refine ⟨fun d hd => ?_, fun d hd => ?_⟩
    · obtain ⟨p, hp, rfl⟩ := PcD_mem hd
      obtain ⟨s, q, _, rfl, _⟩ := PcL_of hp hi
      show plain (.tup (Is ((s : Int) :: q))) = true
      simp only [plain, pl, pls_Is]
    · rw [List.all_eq_true]
      intro e he
      obtain ⟨p, hp, rfl⟩ := PcD_mem hd
      obtain ⟨q, hq, rfl⟩ := PcD_mem he
      simp only [cmpb, cmpbs_Is])
  have sd : sortD (PcD (PcL n E i)) = PcD (PcL n E i) := sortD_id (by
    unfold PcD PcL
    rw [List.map_map, List.pairwise_map]
    refine List.Pairwise.imp_of_mem ?_ ((St_sorted i).sublist List.filter_sublist)
    intro a b ha hb hab
    obtain ⟨a1, a2⟩ := List.mem_filter.mp ha
    obtain ⟨b1, b2⟩ := List.mem_filter.mp hb
    obtain ⟨oa1, oa2⟩ := St_mem a1
    obtain ⟨ob1, ob2⟩ := St_mem b1
    obtain ⟨s, rfl⟩ := Int.eq_ofNat_of_zero_le oa1
    obtain ⟨t, rfl⟩ := Int.eq_ofNat_of_zero_le ob1
    obtain ⟨q, hq⟩ := Piece_head (n := n) (s := s) (by omega) a2
    obtain ⟨r, hr⟩ := Piece_head (n := n) (s := t) (by omega) b2
    show ltb (.tup (Is (Piece n E t))) (.tup (Is (Piece n E s))) = false
    rw [hq, hr]
    show (if eqv (.int t) (.int s) = true then ltbs (Is r) (Is q) else ltb (.int t) (.int s)) = false
    have hab : (s : Int) < t := hab
    have ne : ¬ ((t : Int) = s) := by omega
    simp [eqv, ltb, ne]
    omega)
  simp only [bi, g, sd, ok_bind, pure_ok]
end
section
variable {n : Nat} {c : D} {fs : List Int} {ts : List (Int × Int × Int)}
theorem lp_pairs {x1 x2 x3 x4 x5 x6 x7 x8 x9 : Option D} (h : One n c fs ts) : ev p_law_pieces rpD (.lc (.tup [(.nm 3), (.nm 4), (.nm 5)]) (.idx (.var 0) (.int 2)) [] (.tup [(.var 3), (.var 5)])) [some c, x1, x2, x3, x4, x5, x6, x7, x8, x9] = .ok (.lst (Prs (Ed ts)), [some c, x1, x2, x3, x4, x5, x6, x7, x8, x9]) := by
  obtain ⟨r', e1, w3, w4, w5, er⟩ := ev_lcF (P := p_law_pieces) (rp := rpD) (t := .tup [(.nm 3), (.nm 4), (.nm 5)]) (it := .idx (.var 0) (.int 2)) (cs := []) (e := .tup [(.var 3), (.var 5)])
    (r := [some c, x1, x2, x3, x4, x5, x6, x7, x8, x9]) (r0 := [some c, x1, x2, x3, x4, x5, x6, x7, x8, x9]) (x := .tup (Trs ts)) (xs := Trs ts) (by simp only [sts, st, ev, evs, evc, rd_zero, rd_succ, ok_bind, pure_ok, ofO_some, grd_true, List.set_cons_zero, List.set_cons_succ, getAll, putAll, setT, setTs, List.length_cons, List.length_nil, intOf, Bool.and_true, Bool.true_and, if_true, if_false, Bool.false_eq_true, Nat.zero_add, Nat.reduceAdd, Nat.reduceLT, decide_true, decide_false, true_and, and_true, Int.reduceAdd, Int.reduceLT, Int.reduceNeg, h.c2]) rfl
    (fun d => some (match d with | .tup [x, _, z] => .tup [x, z] | _ => .non)) (fun r => ∃ w3 w4 w5, r = [some c, x1, x2, w3, w4, w5, x6, x7, x8, x9]) ⟨x3, x4, x5, rfl⟩ (by rw [Trs_len]; have := h.lt; show _ ≤ 16777216; omega) fun d r hd ⟨w3, w4, w5, er⟩ => by
      subst er
      obtain ⟨x, y, z, _, rfl⟩ := Trs_mem hd
      exact ⟨[some c, x1, x2, some (.int x), some (.int y), some (.int z), x6, x7, x8, x9], by simp only [sts, st, ev, evs, evc, rd_zero, rd_succ, ok_bind, pure_ok, ofO_some, grd_true, List.set_cons_zero, List.set_cons_succ, getAll, putAll, setT, setTs, List.length_cons, List.length_nil, intOf, Bool.and_true, Bool.true_and, if_true, if_false, Bool.false_eq_true, Nat.zero_add, Nat.reduceAdd, Nat.reduceLT, decide_true, decide_false, true_and, and_true, Int.reduceAdd, Int.reduceLT, Int.reduceNeg, clr, Tg.slots, Tg.slotss, List.append_nil, List.cons_append, List.nil_append], .inr ⟨[some c, x1, x2, some (.int x), some (.int y), some (.int z), x6, x7, x8, x9], .tup [.int x, .int z], [some c, x1, x2, some (.int x), some (.int y), some (.int z), x6, x7, x8, x9], rfl, by simp only [sts, st, ev, evs, evc, rd_zero, rd_succ, ok_bind, pure_ok, ofO_some, grd_true, List.set_cons_zero, List.set_cons_succ, getAll, putAll, setT, setTs, List.length_cons, List.length_nil, intOf, Bool.and_true, Bool.true_and, if_true, if_false, Bool.false_eq_true, Nat.zero_add, Nat.reduceAdd, Nat.reduceLT, decide_true, decide_false, true_and, and_true, Int.reduceAdd, Int.reduceLT, Int.reduceNeg], rfl, ⟨_, _, _, rfl⟩⟩⟩
  subst er
  rw [e1, List.filterMap_eq_map']
  have : (Trs ts).map (fun d => match d with | .tup [x, _, z] => D.tup [x, z] | _ => .non) = Prs (Ed ts) := by
    unfold Trs Prs Ed
    rw [List.map_map, List.map_map]
    rfl
  rw [this]
  rfl
/-- the lists of what is come to -/
def RL (n : Nat) (E : List (Int × Int)) (L : List D) (i : Nat) : Prop := L.length = i ∧ ∀ j, j < i → ∃ xs, L[j]? = some (.lst (Is xs)) ∧ Closed [(j : Int)] E xs
theorem lp_reach {x2 x3 x4 x5 x6 x7 x8 x9 : Option D} (h : One n c fs ts) : ∃ L, ev p_law_pieces rpD (.lc (.nm 7) (.bi .range1 [(.idx (.var 0) (.int 0))]) [] (.call 13 [(.lst [(.var 7)]), (.var 1)] [])) [some c, some (.lst (Prs (Ed ts))), x2, x3, x4, x5, x6, x7, x8, x9] = .ok (.lst L, [some c, some (.lst (Prs (Ed ts))), x2, x3, x4, x5, x6, x7, x8, x9]) ∧ RL n (Ed ts) L n := by
  have n60 := h.n60
  have hP : p_law_pieces 13 = m_law_come_to := rfl
  have hi : ev p_law_pieces rpD (.bi .range1 [(.idx (.var 0) (.int 0))]) [some c, some (.lst (Prs (Ed ts))), x2, x3, x4, x5, x6, x7, x8, x9] = .ok (.lst (Is (St n)), [some c, some (.lst (Prs (Ed ts))), x2, x3, x4, x5, x6, x7, x8, x9]) := by
    have := ev_bi1 (P := p_law_pieces) (a := .idx (.var 0) (.int 0)) (r := [some c, some (.lst (Prs (Ed ts))), x2, x3, x4, x5, x6, x7, x8, x9]) (r1 := [some c, some (.lst (Prs (Ed ts))), x2, x3, x4, x5, x6, x7, x8, x9]) (x := .int n) (by simp only [sts, st, ev, evs, evc, rd_zero, rd_succ, ok_bind, pure_ok, ofO_some, grd_true, List.set_cons_zero, List.set_cons_succ, getAll, putAll, setT, setTs, List.length_cons, List.length_nil, intOf, Bool.and_true, Bool.true_and, if_true, if_false, Bool.false_eq_true, Nat.zero_add, Nat.reduceAdd, Nat.reduceLT, decide_true, decide_false, true_and, and_true, Int.reduceAdd, Int.reduceLT, Int.reduceNeg, h.c0]) (bi_range1 (by omega) (by omega))
    rw [range_St] at this
    exact this
  obtain ⟨acc, r', e1, ⟨w7, er⟩, hL⟩ := ev_lcI (P := p_law_pieces) (rp := rpD) (t := .nm 7) (cs := []) (e := .call 13 [(.lst [(.var 7)]), (.var 1)] []) hi rfl
    (fun i acc r => (∃ w7, r = [some c, some (.lst (Prs (Ed ts))), x2, x3, x4, x5, x6, w7, x8, x9]) ∧ RL n (Ed ts) acc i) ⟨⟨x7, rfl⟩, rfl, fun j hj => by omega⟩ fun i d acc r ed ⟨⟨w7, er⟩, l, hL⟩ => by
      subst er
      obtain ⟨s, es, rfl⟩ := Is_get ed
      obtain ⟨rfl, hi⟩ := St_get es
      obtain ⟨xs, e, cl, ox⟩ := come_to_ok2 (n := n) (fs := [(i : Int)]) (ps := Ed ts) (t := .lst [.int i]) rfl rfl (by omega) (fun f hf => by simp at hf; subst hf; exact ⟨by omega, by omega⟩) h.oE (by simp) (by have := h.lE; omega)
      refine ⟨[some c, some (.lst (Prs (Ed ts))), x2, x3, x4, x5, x6, some (.int i), x8, x9], by simp only [sts, st, ev, evs, evc, rd_zero, rd_succ, ok_bind, pure_ok, ofO_some, grd_true, List.set_cons_zero, List.set_cons_succ, getAll, putAll, setT, setTs, List.length_cons, List.length_nil, intOf, Bool.and_true, Bool.true_and, if_true, if_false, Bool.false_eq_true, Nat.zero_add, Nat.reduceAdd, Nat.reduceLT, decide_true, decide_false, true_and, and_true, Int.reduceAdd, Int.reduceLT, Int.reduceNeg, clr, Tg.slots], .inr ⟨[some c, some (.lst (Prs (Ed ts))), x2, x3, x4, x5, x6, some (.int i), x8, x9], .lst (Is xs), [some c, some (.lst (Prs (Ed ts))), x2, x3, x4, x5, x6, some (.int i), x8, x9], rfl, ?_, by rw [l]; show i < 16777216; omega, ⟨_, rfl⟩, by rw [List.length_append, l]; rfl, fun j hj => ?_⟩⟩
      · exact ev_call (ds := [.lst [.int i], .lst (Prs (Ed ts))]) (os := []) (os' := []) (by simp only [sts, st, ev, evs, evc, rd_zero, rd_succ, ok_bind, pure_ok, ofO_some, grd_true, List.set_cons_zero, List.set_cons_succ, getAll, putAll, setT, setTs, List.length_cons, List.length_nil, intOf, Bool.and_true, Bool.true_and, if_true, if_false, Bool.false_eq_true, Nat.zero_add, Nat.reduceAdd, Nat.reduceLT, decide_true, decide_false, true_and, and_true, Int.reduceAdd, Int.reduceLT, Int.reduceNeg]) rfl (by rw [hP]; exact e) rfl
      · by_cases hji : j = i
        · subst hji
          exact ⟨xs, by rw [List.getElem?_append_right (by omega), l]; simp, cl⟩
        · obtain ⟨ys, h1, h2⟩ := hL j (by omega)
          exact ⟨ys, by rw [List.getElem?_append_left (by omega)]; exact h1, h2⟩
  subst er
  rw [Is_len, St_len] at hL
  exact ⟨acc, by rw [e1]; rfl, hL⟩
theorem RL_at {E : List (Int × Int)} {L : List D} {x : Int} (h : RL n E L n) (ox : Ok1 n x) : ∃ xs, atI L x = some (.lst (Is xs)) ∧ ∀ y, y ∈ xs ↔ Reach E x y := by
  obtain ⟨o1, o2⟩ := ox
  obtain ⟨k, rfl⟩ := Int.eq_ofNat_of_zero_le o1
  obtain ⟨xs, e, cl⟩ := h.2 k (by omega)
  refine ⟨xs, atI_nat e, fun y => ?_⟩
  rw [cl y]
  simp
theorem lp_piece {L : List D} {s : Int} {x1 x2 x3 x4 x5 x8 x9 : Option D} (h : One n c fs ts) (hL : RL n (Ed ts) L n) (os : Ok1 n s) : ev p_law_pieces rpD (.lc (.nm 9) (.bi .range1 [(.idx (.var 0) (.int 0))]) [(.and (.cmp .isin (.var 9) (.idx (.var 6) (.var 7))) (.cmp .isin (.var 7) (.idx (.var 6) (.var 9))))] (.var 9)) [some c, x1, x2, x3, x4, x5, some (.lst L), some (.int s), x8, x9] = .ok (.lst (Is (Piece n (Ed ts) s)), [some c, x1, x2, x3, x4, x5, some (.lst L), some (.int s), x8, x9]) := by
  have n60 := h.n60
  obtain ⟨xs, es, hs⟩ := RL_at hL os
  have hi : ev p_law_pieces rpD (.bi .range1 [(.idx (.var 0) (.int 0))]) [some c, x1, x2, x3, x4, x5, some (.lst L), some (.int s), x8, x9] = .ok (.lst (Is (St n)), [some c, x1, x2, x3, x4, x5, some (.lst L), some (.int s), x8, x9]) := by
    have := ev_bi1 (P := p_law_pieces) (a := .idx (.var 0) (.int 0)) (r := [some c, x1, x2, x3, x4, x5, some (.lst L), some (.int s), x8, x9]) (r1 := [some c, x1, x2, x3, x4, x5, some (.lst L), some (.int s), x8, x9]) (x := .int n) (by simp only [sts, st, ev, evs, evc, rd_zero, rd_succ, ok_bind, pure_ok, ofO_some, grd_true, List.set_cons_zero, List.set_cons_succ, getAll, putAll, setT, setTs, List.length_cons, List.length_nil, intOf, Bool.and_true, Bool.true_and, if_true, if_false, Bool.false_eq_true, Nat.zero_add, Nat.reduceAdd, Nat.reduceLT, decide_true, decide_false, true_and, and_true, Int.reduceAdd, Int.reduceLT, Int.reduceNeg, h.c0]) (bi_range1 (by omega) (by omega))
    rw [range_St] at this
    exact this
  obtain ⟨r', e1, w, er⟩ := ev_lcF (P := p_law_pieces) (rp := rpD) (t := .nm 9) (cs := [(.and (.cmp .isin (.var 9) (.idx (.var 6) (.var 7))) (.cmp .isin (.var 7) (.idx (.var 6) (.var 9))))]) (e := .var 9) hi rfl (gI (muB (Ed ts) s))
    (fun r => ∃ w, r = [some c, x1, x2, x3, x4, x5, some (.lst L), some (.int s), x8, w]) ⟨x9, rfl⟩ (by rw [Is_len, St_len]; show _ ≤ 16777216; omega) fun d r hd ⟨w, er⟩ => by
      subst er
      obtain ⟨x, hx, rfl⟩ := Is_mem hd
      have ox := St_mem hx
      obtain ⟨ys, ey, hy⟩ := RL_at hL ox
      refine ⟨[some c, x1, x2, x3, x4, x5, some (.lst L), some (.int s), x8, some (.int x)], by simp only [sts, st, ev, evs, evc, rd_zero, rd_succ, ok_bind, pure_ok, ofO_some, grd_true, List.set_cons_zero, List.set_cons_succ, getAll, putAll, setT, setTs, List.length_cons, List.length_nil, intOf, Bool.and_true, Bool.true_and, if_true, if_false, Bool.false_eq_true, Nat.zero_add, Nat.reduceAdd, Nat.reduceLT, decide_true, decide_false, true_and, and_true, Int.reduceAdd, Int.reduceLT, Int.reduceNeg, clr, Tg.slots], ?_⟩
      by_cases h1 : x ∈ xs
      · by_cases h2 : s ∈ ys
        · refine .inr ⟨[some c, x1, x2, x3, x4, x5, some (.lst L), some (.int s), x8, some (.int x)], .int x, [some c, x1, x2, x3, x4, x5, some (.lst L), some (.int s), x8, some (.int x)], ?_, rfl, gI_t (muB_iff.mpr ⟨(hs x).mp h1, (hy s).mp h2⟩), ⟨_, rfl⟩⟩
          simp only [sts, st, ev, evs, evc, rd_zero, rd_succ, ok_bind, pure_ok, ofO_some, grd_true, List.set_cons_zero, List.set_cons_succ, getAll, putAll, setT, setTs, List.length_cons, List.length_nil, intOf, Bool.and_true, Bool.true_and, if_true, if_false, Bool.false_eq_true, Nat.zero_add, Nat.reduceAdd, Nat.reduceLT, decide_true, decide_false, true_and, and_true, Int.reduceAdd, Int.reduceLT, Int.reduceNeg, index, es, ey, in_Is, truth, h1, h2]
        · have hg : muB (Ed ts) s x = false := by
            cases hq : muB (Ed ts) s x with
            | false => rfl
            | true => exact absurd ((hy s).mpr (muB_iff.mp hq).2) h2
          refine .inl ⟨[some c, x1, x2, x3, x4, x5, some (.lst L), some (.int s), x8, some (.int x)], ?_, gI_f hg, ⟨_, rfl⟩⟩
          simp only [sts, st, ev, evs, evc, rd_zero, rd_succ, ok_bind, pure_ok, ofO_some, grd_true, List.set_cons_zero, List.set_cons_succ, getAll, putAll, setT, setTs, List.length_cons, List.length_nil, intOf, Bool.and_true, Bool.true_and, if_true, if_false, Bool.false_eq_true, Nat.zero_add, Nat.reduceAdd, Nat.reduceLT, decide_true, decide_false, true_and, and_true, Int.reduceAdd, Int.reduceLT, Int.reduceNeg, index, es, ey, in_Is, truth, h1, h2]
      · have hg : muB (Ed ts) s x = false := by
          cases hq : muB (Ed ts) s x with
          | false => rfl
          | true => exact absurd ((hs x).mpr (muB_iff.mp hq).1) h1
        refine .inl ⟨[some c, x1, x2, x3, x4, x5, some (.lst L), some (.int s), x8, some (.int x)], ?_, gI_f hg, ⟨_, rfl⟩⟩
        simp only [sts, st, ev, evs, evc, rd_zero, rd_succ, ok_bind, pure_ok, ofO_some, grd_true, List.set_cons_zero, List.set_cons_succ, getAll, putAll, setT, setTs, List.length_cons, List.length_nil, intOf, Bool.and_true, Bool.true_and, if_true, if_false, Bool.false_eq_true, Nat.zero_add, Nat.reduceAdd, Nat.reduceLT, decide_true, decide_false, true_and, and_true, Int.reduceAdd, Int.reduceLT, Int.reduceNeg, index, es, in_Is, truth, h1]
  subst er
  rw [fm_gI] at e1
  rw [e1]
  rfl
theorem law_pieces_ok (h : One n c fs ts) : m_law_pieces [c] [] = .ok (.lst (PcD (PcL n (Ed ts) n)), []) := by
  have n60 := h.n60
  have a1 := lp_pairs (x1 := none) (x2 := none) (x3 := none) (x4 := none) (x5 := none) (x6 := none) (x7 := none) (x8 := none) (x9 := none) h
  obtain ⟨L, a2, hL⟩ := lp_reach (x2 := some (.lst [])) (x3 := none) (x4 := none) (x5 := none) (x6 := none) (x7 := none) (x8 := none) (x9 := none) h
  have st1 : st p_law_pieces rpD fuel (.par [1, 2] [(.lc (.tup [(.nm 3), (.nm 4), (.nm 5)]) (.idx (.var 0) (.int 2)) [] (.tup [(.var 3), (.var 5)])), (.lst [])]) [some c, none, none, none, none, none, none, none, none, none] = .ok (.nx [some c, some (.lst (Prs (Ed ts))), some (.lst []), none, none, none, none, none, none, none]) := st_par2 a1 rfl rfl
  have st2 : st p_law_pieces rpD fuel (.asg (.nm 6) (.lc (.nm 7) (.bi .range1 [(.idx (.var 0) (.int 0))]) [] (.call 13 [(.lst [(.var 7)]), (.var 1)] []))) [some c, some (.lst (Prs (Ed ts))), some (.lst []), none, none, none, none, none, none, none] = .ok (.nx [some c, some (.lst (Prs (Ed ts))), some (.lst []), none, none, none, some (.lst L), none, none, none]) := by
    generalize E.lc _ _ _ _ = z at a2 ⊢
    simp only [sts, st, ev, evs, evc, rd_zero, rd_succ, ok_bind, pure_ok, ofO_some, grd_true, List.set_cons_zero, List.set_cons_succ, getAll, putAll, setT, setTs, List.length_cons, List.length_nil, intOf, Bool.and_true, Bool.true_and, if_true, if_false, Bool.false_eq_true, Nat.zero_add, Nat.reduceAdd, Nat.reduceLT, decide_true, decide_false, true_and, and_true, Int.reduceAdd, Int.reduceLT, Int.reduceNeg, a2]
  have hr : ev p_law_pieces rpD (.bi .range1 [(.idx (.var 0) (.int 0))]) [some c, some (.lst (Prs (Ed ts))), some (.lst []), none, none, none, some (.lst L), none, none, none] = .ok (.lst (Is (St n)), [some c, some (.lst (Prs (Ed ts))), some (.lst []), none, none, none, some (.lst L), none, none, none]) := by
    have := ev_bi1 (P := p_law_pieces) (a := .idx (.var 0) (.int 0)) (r := [some c, some (.lst (Prs (Ed ts))), some (.lst []), none, none, none, some (.lst L), none, none, none]) (r1 := [some c, some (.lst (Prs (Ed ts))), some (.lst []), none, none, none, some (.lst L), none, none, none]) (x := .int n) (by simp only [sts, st, ev, evs, evc, rd_zero, rd_succ, ok_bind, pure_ok, ofO_some, grd_true, List.set_cons_zero, List.set_cons_succ, getAll, putAll, setT, setTs, List.length_cons, List.length_nil, intOf, Bool.and_true, Bool.true_and, if_true, if_false, Bool.false_eq_true, Nat.zero_add, Nat.reduceAdd, Nat.reduceLT, decide_true, decide_false, true_and, and_true, Int.reduceAdd, Int.reduceLT, Int.reduceNeg, h.c0]) (bi_range1 (by omega) (by omega))
    rw [range_St] at this
    exact this
  obtain ⟨r', e3, w7, w8, er⟩ := st_forI (P := p_law_pieces) (rp := rpD) (n := fuel) (t := .nm 7) (b := [.asg (.nm 8) (.bi .tuple [(.lc (.nm 9) (.bi .range1 [(.idx (.var 0) (.int 0))]) [(.and (.cmp .isin (.var 9) (.idx (.var 6) (.var 7))) (.cmp .isin (.var 7) (.idx (.var 6) (.var 9))))] (.var 9))]), .ite (.cmp .notin (.var 8) (.var 2)) [.mcall .append 2 [] [(.var 8)]] []]) hr rfl
    (fun i r => ∃ w7 w8, r = [some c, some (.lst (Prs (Ed ts))), some (.lst (PcD (PcL n (Ed ts) i))), none, none, none, some (.lst L), w7, w8, none]) ⟨none, none, rfl⟩ fun i d r ed ⟨w7, w8, er⟩ => by
      subst er
      obtain ⟨s, es, rfl⟩ := Is_get ed
      obtain ⟨rfl, hi⟩ := St_get es
      have os : Ok1 n (i : Int) := ⟨by omega, by omega⟩
      have e3 := lp_piece (x1 := some (.lst (Prs (Ed ts)))) (x2 := some (.lst (PcD (PcL n (Ed ts) i)))) (x3 := none) (x4 := none) (x5 := none) (x8 := w8) (x9 := none) h hL os
      have hPm := PcL_mem (E := Ed ts) hi
      have lpc := PcL_len (n := n) (E := Ed ts) (i := i)
      refine ⟨[some c, some (.lst (Prs (Ed ts))), some (.lst (PcD (PcL n (Ed ts) i))), none, none, none, some (.lst L), some (.int i), w8, none], by simp only [sts, st, ev, evs, evc, rd_zero, rd_succ, ok_bind, pure_ok, ofO_some, grd_true, List.set_cons_zero, List.set_cons_succ, getAll, putAll, setT, setTs, List.length_cons, List.length_nil, intOf, Bool.and_true, Bool.true_and, if_true, if_false, Bool.false_eq_true, Nat.zero_add, Nat.reduceAdd, Nat.reduceLT, decide_true, decide_false, true_and, and_true, Int.reduceAdd, Int.reduceLT, Int.reduceNeg], [some c, some (.lst (Prs (Ed ts))), some (.lst (PcD (PcL n (Ed ts) (i + 1)))), none, none, none, some (.lst L), some (.int i), some (.tup (Is (Piece n (Ed ts) i))), none], sts_nx (r1 := [some c, some (.lst (Prs (Ed ts))), some (.lst (PcD (PcL n (Ed ts) i))), none, none, none, some (.lst L), some (.int i), some (.tup (Is (Piece n (Ed ts) i))), none]) ?_ (sts_nx ?_ rfl), some (.int i), some (.tup (Is (Piece n (Ed ts) i))), rfl⟩
      · have ht : ∀ l, bi rpD .tuple [.lst l] = .ok (.tup l) := fun l => rfl
        generalize E.lc _ _ _ _ = z at e3 ⊢
        simp only [sts, st, ev, evs, evc, rd_zero, rd_succ, ok_bind, pure_ok, ofO_some, grd_true, List.set_cons_zero, List.set_cons_succ, getAll, putAll, setT, setTs, List.length_cons, List.length_nil, intOf, Bool.and_true, Bool.true_and, if_true, if_false, Bool.false_eq_true, Nat.zero_add, Nat.reduceAdd, Nat.reduceLT, decide_true, decide_false, true_and, and_true, Int.reduceAdd, Int.reduceLT, Int.reduceNeg, e3, ht]
      · cases hF : firstB (Ed ts) (i : Int) with
        | true =>
          have hn : ¬ Piece n (Ed ts) i ∈ PcL n (Ed ts) i := fun z => by
            have := hPm.mp z
            rw [hF] at this; cases this
          rw [PcL_t hF]
          refine st_ite_t (x := .bl true) (r1 := [some c, some (.lst (Prs (Ed ts))), some (.lst (PcD (PcL n (Ed ts) i))), none, none, none, some (.lst L), some (.int i), some (.tup (Is (Piece n (Ed ts) i))), none]) ?_ rfl (sts_nx ?_ rfl)
          · simp only [sts, st, ev, evs, evc, rd_zero, rd_succ, ok_bind, pure_ok, ofO_some, grd_true, List.set_cons_zero, List.set_cons_succ, getAll, putAll, setT, setTs, List.length_cons, List.length_nil, intOf, Bool.and_true, Bool.true_and, if_true, if_false, Bool.false_eq_true, Nat.zero_add, Nat.reduceAdd, Nat.reduceLT, decide_true, decide_false, true_and, and_true, Int.reduceAdd, Int.reduceLT, Int.reduceNeg, notin_PcD, hn, Bool.not_false]
          · have hg : grd (decide ((PcD (PcL n (Ed ts) i)).length < line)) = .ok () := grd_of (decide_eq_true (by rw [PcD_len]; show _ < 16777216; omega))
            simp only [sts, st, ev, evs, evc, rd_zero, rd_succ, ok_bind, pure_ok, ofO_some, grd_true, List.set_cons_zero, List.set_cons_succ, getAll, putAll, setT, setTs, List.length_cons, List.length_nil, intOf, Bool.and_true, Bool.true_and, if_true, if_false, Bool.false_eq_true, Nat.zero_add, Nat.reduceAdd, Nat.reduceLT, decide_true, decide_false, true_and, and_true, Int.reduceAdd, Int.reduceLT, Int.reduceNeg, isLst, atPath, mu, hg, PcD_snoc]
        | false =>
          have hy := hPm.mpr hF
          rw [PcL_f hF]
          refine st_ite_f (x := .bl false) (r1 := [some c, some (.lst (Prs (Ed ts))), some (.lst (PcD (PcL n (Ed ts) i))), none, none, none, some (.lst L), some (.int i), some (.tup (Is (Piece n (Ed ts) i))), none]) ?_ rfl rfl
          simp only [sts, st, ev, evs, evc, rd_zero, rd_succ, ok_bind, pure_ok, ofO_some, grd_true, List.set_cons_zero, List.set_cons_succ, getAll, putAll, setT, setTs, List.length_cons, List.length_nil, intOf, Bool.and_true, Bool.true_and, if_true, if_false, Bool.false_eq_true, Nat.zero_add, Nat.reduceAdd, Nat.reduceLT, decide_true, decide_false, true_and, and_true, Int.reduceAdd, Int.reduceLT, Int.reduceNeg, notin_PcD, hy, Bool.not_true]
  subst er
  rw [Is_len, St_len] at e3
  refine run_ok f_law_pieces (r0 := [some c, none, none, none, none, none, none, none, none, none]) (r := [some c, some (.lst (Prs (Ed ts))), some (.lst (PcD (PcL n (Ed ts) n))), none, none, none, some (.lst L), w7, w8, none]) rfl (sts_nx st1 (sts_nx st2 (sts_nx e3 (sts_ret ?_)))) rfl
  simp only [sts, st, ev, evs, evc, rd_zero, rd_succ, ok_bind, pure_ok, ofO_some, grd_true, List.set_cons_zero, List.set_cons_succ, getAll, putAll, setT, setTs, List.length_cons, List.length_nil, intOf, Bool.and_true, Bool.true_and, if_true, if_false, Bool.false_eq_true, Nat.zero_add, Nat.reduceAdd, Nat.reduceLT, decide_true, decide_false, true_and, and_true, Int.reduceAdd, Int.reduceLT, Int.reduceNeg, sorted_PcL (Nat.le_refl n)]
end
end C

set_option linter.all false
set_option maxHeartbeats 2000000
set_option maxRecDepth 100000
namespace C
open PySem (Str)
def fedB (p : List Int) (q : Int × Int × Int) : Bool := decide (q.2.2 ∈ p) && !decide (q.1 ∈ p)
theorem inT (x : Int) (ns : List Int) : cmpop .isin (.int x) (.tup (Is ns)) = .ok (decide (x ∈ ns)) := by
  simp only [cmpop, isin, plain, plains, plI, pls_Is, Bool.and_self, grd_true, ok_bind, pure_ok, memD_Is]
theorem notinT (x : Int) (ns : List Int) : cmpop .notin (.int x) (.tup (Is ns)) = .ok (!decide (x ∈ ns)) := by
  simp only [cmpop, isin, plain, plains, plI, pls_Is, Bool.and_self, grd_true, ok_bind, pure_ok, memD_Is]
theorem boolsD_Bs : ∀ fl : List Bool, boolsD (Bs fl) = .ok fl
  | [] => rfl
  | b :: fl => by
    show (do return b :: (← boolsD (Bs fl)) : Rs (List Bool)) = _
    rw [boolsD_Bs fl]; rfl
def gT (g : Int × Int × Int → Bool) : D → Option D
  | .tup [.int x, .int y, .int z] => if g (x, y, z) = true then some (.tup [.int x, .int y, .int z]) else none
  | _ => none
theorem gT_t {g : Int × Int × Int → Bool} {x y z : Int} (h : g (x, y, z) = true) : gT g (.tup [.int x, .int y, .int z]) = some (.tup [.int x, .int y, .int z]) := by simp only [gT, h, if_true]
theorem gT_f {g : Int × Int × Int → Bool} {x y z : Int} (h : g (x, y, z) = false) : gT g (.tup [.int x, .int y, .int z]) = none := by simp only [gT, h, Bool.false_eq_true, if_false]
theorem fm_gT (g : Int × Int × Int → Bool) : ∀ ns : List (Int × Int × Int), (Trs ns).filterMap (gT g) = Trs (ns.filter g)
  | [] => rfl
  | (x, y, z) :: r => by
    have ih := fm_gT g r
    unfold Trs at *
    simp only [List.map_cons, List.filterMap_cons, List.filter_cons]
    cases h : g (x, y, z) with
    | true => simp only [gT_t h, if_true, List.map_cons]; rw [ih]
    | false => simp only [gT_f h, Bool.false_eq_true, if_false]; rw [ih]
section
variable {n : Nat} {c : D} {fs : List Int} {ts : List (Int × Int × Int)}
theorem fed_ok (h : One n c fs ts) (p : List Int) : m_is_fed [c, .tup (Is p)] [] = .ok (.bl (ts.any (fedB p)), []) := by
  obtain ⟨r', e1, w, er⟩ := ev_lcF (P := p_is_fed) (rp := rpD) (t := .nm 2) (it := .idx (.var 0) (.int 2)) (cs := []) (e := .and (.cmp .isin (.idx (.var 2) (.int 2)) (.var 1)) (.cmp .notin (.idx (.var 2) (.int 0)) (.var 1)))
    (r := [some c, some (.tup (Is p)), none]) (r0 := [some c, some (.tup (Is p)), none]) (x := .tup (Trs ts)) (xs := Trs ts) (by simp only [sts, st, ev, evs, evc, rd_zero, rd_succ, ok_bind, pure_ok, ofO_some, grd_true, List.set_cons_zero, List.set_cons_succ, getAll, putAll, setT, setTs, List.length_cons, List.length_nil, intOf, Bool.and_true, Bool.true_and, if_true, if_false, Bool.false_eq_true, Nat.zero_add, Nat.reduceAdd, Nat.reduceLT, decide_true, decide_false, true_and, and_true, Int.reduceAdd, Int.reduceLT, Int.reduceNeg, h.c2]) rfl
    (fun d => some (match d with | .tup [.int x, .int y, .int z] => .bl (fedB p (x, y, z)) | _ => .non)) (fun r => ∃ w, r = [some c, some (.tup (Is p)), w]) ⟨none, rfl⟩ (by rw [Trs_len]; have := h.lt; show _ ≤ 16777216; omega) fun d r hd ⟨w, er⟩ => by
      subst er
      obtain ⟨x, y, z, _, rfl⟩ := Trs_mem hd
      refine ⟨[some c, some (.tup (Is p)), some (.tup [.int x, .int y, .int z])], by simp only [sts, st, ev, evs, evc, rd_zero, rd_succ, ok_bind, pure_ok, ofO_some, grd_true, List.set_cons_zero, List.set_cons_succ, getAll, putAll, setT, setTs, List.length_cons, List.length_nil, intOf, Bool.and_true, Bool.true_and, if_true, if_false, Bool.false_eq_true, Nat.zero_add, Nat.reduceAdd, Nat.reduceLT, decide_true, decide_false, true_and, and_true, Int.reduceAdd, Int.reduceLT, Int.reduceNeg, clr, Tg.slots], .inr ⟨[some c, some (.tup (Is p)), some (.tup [.int x, .int y, .int z])], .bl (fedB p (x, y, z)), [some c, some (.tup (Is p)), some (.tup [.int x, .int y, .int z])], rfl, ?_, rfl, ⟨_, rfl⟩⟩⟩
      unfold fedB
      by_cases h1 : z ∈ p
      · simp only [sts, st, ev, evs, evc, rd_zero, rd_succ, ok_bind, pure_ok, ofO_some, grd_true, List.set_cons_zero, List.set_cons_succ, getAll, putAll, setT, setTs, List.length_cons, List.length_nil, intOf, Bool.and_true, Bool.true_and, if_true, if_false, Bool.false_eq_true, Nat.zero_add, Nat.reduceAdd, Nat.reduceLT, decide_true, decide_false, true_and, and_true, Int.reduceAdd, Int.reduceLT, Int.reduceNeg, index, at0, at2, inT, notinT, truth, h1]
      · simp only [sts, st, ev, evs, evc, rd_zero, rd_succ, ok_bind, pure_ok, ofO_some, grd_true, List.set_cons_zero, List.set_cons_succ, getAll, putAll, setT, setTs, List.length_cons, List.length_nil, intOf, Bool.and_true, Bool.true_and, if_true, if_false, Bool.false_eq_true, Nat.zero_add, Nat.reduceAdd, Nat.reduceLT, decide_true, decide_false, true_and, and_true, Int.reduceAdd, Int.reduceLT, Int.reduceNeg, index, at0, at2, inT, notinT, truth, h1, Bool.false_and]
  subst er
  rw [List.filterMap_eq_map'] at e1
  have hm : (Trs ts).map (fun d => match d with | .tup [.int x, .int y, .int z] => D.bl (fedB p (x, y, z)) | _ => .non) = Bs (ts.map (fedB p)) := by
    unfold Trs Bs
    rw [List.map_map, List.map_map]
    rfl
  rw [hm] at e1
  have ha : bi rpD .any [.lst (Bs (ts.map (fedB p)))] = .ok (.bl (ts.any (fedB p))) := by
    simp only [bi, boolsD_Bs, ok_bind, pure_ok, List.any_map, Function.id_comp]
  refine run_ok f_is_fed (r0 := [some c, some (.tup (Is p)), none]) (r := [some c, some (.tup (Is p)), none]) rfl (sts_ret ?_) rfl
  generalize E.lc _ _ _ _ = z at e1 ⊢
  simp only [sts, st, ev, evs, evc, rd_zero, rd_succ, ok_bind, pure_ok, ofO_some, grd_true, List.set_cons_zero, List.set_cons_succ, getAll, putAll, setT, setTs, List.length_cons, List.length_nil, intOf, Bool.and_true, Bool.true_and, if_true, if_false, Bool.false_eq_true, Nat.zero_add, Nat.reduceAdd, Nat.reduceLT, decide_true, decide_false, true_and, and_true, Int.reduceAdd, Int.reduceLT, Int.reduceNeg, e1, ha]
  rfl
theorem law_fed_ok (h : One n c fs ts) (p : List Int) : m_law_is_fed [c, .tup (Is p)] [] = .ok (.bl (ts.any (fedB p)), []) := by
  obtain ⟨r', e1, w, er⟩ := ev_lcF (P := p_law_is_fed) (rp := rpD) (t := .nm 2) (it := .idx (.var 0) (.int 2)) (cs := [(.and (.cmp .isin (.idx (.var 2) (.int 2)) (.var 1)) (.cmp .notin (.idx (.var 2) (.int 0)) (.var 1)))]) (e := .var 2)
    (r := [some c, some (.tup (Is p)), none]) (r0 := [some c, some (.tup (Is p)), none]) (x := .tup (Trs ts)) (xs := Trs ts) (by simp only [sts, st, ev, evs, evc, rd_zero, rd_succ, ok_bind, pure_ok, ofO_some, grd_true, List.set_cons_zero, List.set_cons_succ, getAll, putAll, setT, setTs, List.length_cons, List.length_nil, intOf, Bool.and_true, Bool.true_and, if_true, if_false, Bool.false_eq_true, Nat.zero_add, Nat.reduceAdd, Nat.reduceLT, decide_true, decide_false, true_and, and_true, Int.reduceAdd, Int.reduceLT, Int.reduceNeg, h.c2]) rfl
    (gT (fedB p)) (fun r => ∃ w, r = [some c, some (.tup (Is p)), w]) ⟨none, rfl⟩ (by rw [Trs_len]; have := h.lt; show _ ≤ 16777216; omega) fun d r hd ⟨w, er⟩ => by
      subst er
      obtain ⟨x, y, z, _, rfl⟩ := Trs_mem hd
      refine ⟨[some c, some (.tup (Is p)), some (.tup [.int x, .int y, .int z])], by simp only [sts, st, ev, evs, evc, rd_zero, rd_succ, ok_bind, pure_ok, ofO_some, grd_true, List.set_cons_zero, List.set_cons_succ, getAll, putAll, setT, setTs, List.length_cons, List.length_nil, intOf, Bool.and_true, Bool.true_and, if_true, if_false, Bool.false_eq_true, Nat.zero_add, Nat.reduceAdd, Nat.reduceLT, decide_true, decide_false, true_and, and_true, Int.reduceAdd, Int.reduceLT, Int.reduceNeg, clr, Tg.slots], ?_⟩
      by_cases h1 : z ∈ p
      · by_cases h2 : x ∈ p
        · refine .inl ⟨[some c, some (.tup (Is p)), some (.tup [.int x, .int y, .int z])], ?_, gT_f (by simp [fedB, h2]), ⟨_, rfl⟩⟩
          simp only [sts, st, ev, evs, evc, rd_zero, rd_succ, ok_bind, pure_ok, ofO_some, grd_true, List.set_cons_zero, List.set_cons_succ, getAll, putAll, setT, setTs, List.length_cons, List.length_nil, intOf, Bool.and_true, Bool.true_and, if_true, if_false, Bool.false_eq_true, Nat.zero_add, Nat.reduceAdd, Nat.reduceLT, decide_true, decide_false, true_and, and_true, Int.reduceAdd, Int.reduceLT, Int.reduceNeg, index, at0, at2, inT, notinT, truth, h1, h2, Bool.not_true]
        · refine .inr ⟨[some c, some (.tup (Is p)), some (.tup [.int x, .int y, .int z])], .tup [.int x, .int y, .int z], [some c, some (.tup (Is p)), some (.tup [.int x, .int y, .int z])], ?_, rfl, gT_t (by simp [fedB, h1, h2]), ⟨_, rfl⟩⟩
          simp only [sts, st, ev, evs, evc, rd_zero, rd_succ, ok_bind, pure_ok, ofO_some, grd_true, List.set_cons_zero, List.set_cons_succ, getAll, putAll, setT, setTs, List.length_cons, List.length_nil, intOf, Bool.and_true, Bool.true_and, if_true, if_false, Bool.false_eq_true, Nat.zero_add, Nat.reduceAdd, Nat.reduceLT, decide_true, decide_false, true_and, and_true, Int.reduceAdd, Int.reduceLT, Int.reduceNeg, index, at0, at2, inT, notinT, truth, h1, h2, Bool.not_false]
      · refine .inl ⟨[some c, some (.tup (Is p)), some (.tup [.int x, .int y, .int z])], ?_, gT_f (by simp [fedB, h1]), ⟨_, rfl⟩⟩
        simp only [sts, st, ev, evs, evc, rd_zero, rd_succ, ok_bind, pure_ok, ofO_some, grd_true, List.set_cons_zero, List.set_cons_succ, getAll, putAll, setT, setTs, List.length_cons, List.length_nil, intOf, Bool.and_true, Bool.true_and, if_true, if_false, Bool.false_eq_true, Nat.zero_add, Nat.reduceAdd, Nat.reduceLT, decide_true, decide_false, true_and, and_true, Int.reduceAdd, Int.reduceLT, Int.reduceNeg, index, at0, at2, inT, notinT, truth, h1]
  subst er
  rw [fm_gT] at e1
  have hc : cmpop .ne (.lst (Trs (ts.filter (fedB p)))) (.lst []) = .ok (ts.any (fedB p)) := by
    have e : eqv (.lst (Trs (ts.filter (fedB p)))) (.lst []) = (ts.filter (fedB p)).isEmpty := by
      cases ts.filter (fedB p) <;> rfl
    have e2 : (!(ts.filter (fedB p)).isEmpty) = ts.any (fedB p) := by
      cases hq : ts.any (fedB p) with
      | true =>
        obtain ⟨q, hq1, hq2⟩ := List.any_eq_true.mp hq
        have : q ∈ ts.filter (fedB p) := List.mem_filter.mpr ⟨hq1, hq2⟩
        cases hh : ts.filter (fedB p) with
        | nil => rw [hh] at this; cases this
        | cons a l => rfl
      | false =>
        have : ts.filter (fedB p) = [] := List.filter_eq_nil_iff.mpr fun q hq1 hq2 => by
          have := List.any_eq_true.mpr ⟨q, hq1, hq2⟩
          rw [hq] at this; cases this
        rw [this]; rfl
    simp only [cmpop, plain, pl, pls_Trs, pls, Bool.and_self, grd_true, ok_bind, pure_ok, e, e2]
  refine run_ok f_law_is_fed (r0 := [some c, some (.tup (Is p)), none]) (r := [some c, some (.tup (Is p)), none]) rfl (sts_ret ?_) rfl
  generalize E.lc _ _ _ _ = z at e1 ⊢
  simp only [sts, st, ev, evs, evc, rd_zero, rd_succ, ok_bind, pure_ok, ofO_some, grd_true, List.set_cons_zero, List.set_cons_succ, getAll, putAll, setT, setTs, List.length_cons, List.length_nil, intOf, Bool.and_true, Bool.true_and, if_true, if_false, Bool.false_eq_true, Nat.zero_add, Nat.reduceAdd, Nat.reduceLT, decide_true, decide_false, true_and, and_true, Int.reduceAdd, Int.reduceLT, Int.reduceNeg, e1, hc]
  rfl
theorem One.sh (h : One n c fs ts) : Sh c 2000000 := by
  have n60 := h.n60; have lt := h.lt; have lf := h.lf
  rw [h.hc]
  have := sh_chart (n := (n : Int)) (fs := fs) (ts := ts) (sm_of (by omega)) (fun x hx => by obtain ⟨a, b⟩ := h.of x hx; exact sm_of (by omega)) fun q hq => by
    obtain ⟨⟨a1, a2⟩, ⟨b1, b2⟩, c1, c2⟩ := h.ot q hq
    exact ⟨sm_of (by omega), sm_of (by omega), sm_of (by omega)⟩
  exact ⟨this.p, this.s, this.n, Nat.le_trans this.r (by omega)⟩
theorem alike_bl (b : Bool) : m_law_alike [.bl b, .bl b] [] = .ok (.bl true, []) := by
  cases b
  · exact alike_ok rfl rfl rfl (by decide) rfl
  · exact alike_ok rfl rfl rfl (by decide) rfl
theorem alike_pcs (h : One n c fs ts) : m_law_alike [.lst (PcD (PcL n (Ed ts) n)), .lst (PcD (PcL n (Ed ts) n))] [] = .ok (.bl true, []) := by
  have n60 := h.n60
  obtain ⟨u1, u2, u3, u4, u5⟩ := Sh.lst (xs := PcD (PcL n (Ed ts) n)) (r := 40000) fun x hx => by
    obtain ⟨p, hp, rfl⟩ := PcD_mem hx
    obtain ⟨s, q, hs, e1, e2, o⟩ := PcL_of hp (Nat.le_refl n)
    have := sh_ints (xs := p) fun x hx => by obtain ⟨a, b⟩ := o x hx; exact sm_of (by omega)
    have l : p.length ≤ n := by
      rw [e2]
      unfold Piece
      exact Nat.le_trans (List.length_filter_le _ _) (by rw [St_len]; exact Nat.le_refl _)
    exact ⟨this.p, this.s, this.n, Nat.le_trans this.r (by omega)⟩
  have lp := PcL_len (n := n) (E := Ed ts) (i := n)
  refine alike_ok u1 u2 u3 (Nat.le_trans u5 ?_) u4
  rw [PcD_len]
  have := Nat.mul_le_mul_right 40002 lp
  omega
theorem repr_c (h : One n c fs ts) : bi rpD .repr [c] = .ok (.str (rpD c)) ∧ cmpop .ne (.str (rpD c)) (.str (rpD c)) = .ok false := by
  have s := h.sh
  have p10 := (pl_mono 9).1 c s.p
  have p11 := (pl_mono 10).1 c p10
  have p12 := (pl_mono 11).1 c p11
  refine ⟨?_, ?_⟩
  · have g : grd (reprOk c) = .ok () := grd_of (by unfold reprOk plain; rw [p12, s.s, decide_eq_true (Nat.le_trans s.r (by omega))]; rfl)
    simp only [bi, g, ok_bind, pure_ok]
  · simp only [cmpop, plain, rp_plain s.n, Bool.and_self, grd_true, ok_bind, pure_ok, eqv, beq_self_eq_true, Bool.not_true]
theorem PcD_perm {ds : List D} {L : List (List Int)} (h : ds.Perm (PcD L)) : ∀ d ∈ ds, ∃ p ∈ L, d = .tup (Is p) := fun d hd => PcD_mem (h.mem_iff.mp hd)
/-- one chart -/
theorem law_turn {k : Nat} {b : D} {x0 x2 x3 x5 x6 x7 x8 x9 : Option D} (h : One n c fs ts) (hb : Bag k b) (hk : k < 700000000) :
    ∃ b' y5 y6 y7 y8 y9, sts p_law rpD fuel [.par [5, 6] [(.call 15 [(.var 4)] []), (.bi .repr [(.var 4)])], .for_ (.nm 7) (.bi .range1 [(.int 2)]) [.asg (.nm 8) (.lk (.call 2 [(.var 4)] [])), .ite (.not (.bcall 8 [(.var 8), (.var 5)])) [.ret (.bl false)] [], .mcall .append 8 [] [(.tup [(.int 0)])], .mcall .reverse 8 [] []], .for_ (.nm 9) (.call 7 [(.var 5)] [1]) [.ite (.not (.call 8 [(.call 3 [(.var 4), (.var 9)] []), (.call 16 [(.var 4), (.var 9)] [])] [])) [.ret (.bl false)] []], .ite (.cmp .ne (.bi .repr [(.var 4)]) (.var 6)) [.ret (.bl false)] []] [x0, some b, x2, x3, some c, x5, x6, x7, x8, x9] = .ok (.nx [x0, some b', x2, x3, some c, y5, y6, y7, y8, y9]) ∧ Bag (k + 60) b' := by
  have n60 := h.n60
  have hP15 : p_law 15 = m_law_pieces := rfl
  have hP2 : p_law 2 = m_pieces_of := rfl
  have hP8 : p_law 8 = m_law_alike := rfl
  have hP7 : p_law 7 = m_law_mixed := rfl
  have hP3 : p_law 3 = m_is_fed := rfl
  have hP16 : p_law 16 = m_law_is_fed := rfl
  have ap := alike_pcs h
  have lpc := PcL_len (n := n) (E := Ed ts) (i := n)
  obtain ⟨rp1, rp2⟩ := repr_c h
  obtain ⟨L, hL⟩ : ∃ L, PcL n (Ed ts) n = L := ⟨_, rfl⟩
  have q1 := law_pieces_ok h
  have q2 := pieces_ok h
  rw [hL] at ap lpc q1 q2
  have st1 : st p_law rpD fuel (.par [5, 6] [(.call 15 [(.var 4)] []), (.bi .repr [(.var 4)])]) [x0, some b, x2, x3, some c, x5, x6, x7, x8, x9] = .ok (.nx [x0, some b, x2, x3, some c, some (.lst (PcD L)), some (.str (rpD c)), x7, x8, x9]) :=
    st_par2 (ev_call1 hP15 q1 rfl) (ev_bi1 (ev_var rfl) rp1) rfl
  have hr2 : ev p_law rpD (.bi .range1 [(.int 2)]) [x0, some b, x2, x3, some c, some (.lst (PcD L)), some (.str (rpD c)), x7, x8, x9] = .ok (.lst (rangeI 0 2), [x0, some b, x2, x3, some c, some (.lst (PcD L)), some (.str (rpD c)), x7, x8, x9]) := ev_bi1 (x := .int 2) rfl (bi_range1 (by omega) (by omega))
  obtain ⟨r1, e1, w7, w8, er⟩ := st_forI (P := p_law) (rp := rpD) (n := fuel) (t := .nm 7) (b := [.asg (.nm 8) (.lk (.call 2 [(.var 4)] [])), .ite (.not (.bcall 8 [(.var 8), (.var 5)])) [.ret (.bl false)] [], .mcall .append 8 [] [(.tup [(.int 0)])], .mcall .reverse 8 [] []]) hr2 rfl
    (fun i r => ∃ w7 w8, r = [x0, some b, x2, x3, some c, some (.lst (PcD L)), some (.str (rpD c)), w7, w8, x9]) ⟨x7, x8, rfl⟩ fun i d r ed ⟨w7, w8, er⟩ => by
      subst er
      refine ⟨[x0, some b, x2, x3, some c, some (.lst (PcD L)), some (.str (rpD c)), some d, w8, x9], by simp only [sts, st, ev, evs, evc, rd_zero, rd_succ, ok_bind, pure_ok, ofO_some, grd_true, List.set_cons_zero, List.set_cons_succ, getAll, putAll, setT, setTs, List.length_cons, List.length_nil, intOf, Bool.and_true, Bool.true_and, if_true, if_false, Bool.false_eq_true, Nat.zero_add, Nat.reduceAdd, Nat.reduceLT, decide_true, decide_false, true_and, and_true, Int.reduceAdd, Int.reduceLT, Int.reduceNeg], [x0, some b, x2, x3, some c, some (.lst (PcD L)), some (.str (rpD c)), some d, some (.lst (PcD L ++ [D.tup [.int 0]]).reverse), x9], sts_nx (r1 := [x0, some b, x2, x3, some c, some (.lst (PcD L)), some (.str (rpD c)), some d, some (.lst (PcD L)), x9]) ?_ (sts_nx (st_ite_f (x := .bl false) (r1 := [x0, some b, x2, x3, some c, some (.lst (PcD L)), some (.str (rpD c)), some d, some (.lst (PcD L)), x9]) ?_ rfl rfl) (sts_nx (r1 := [x0, some b, x2, x3, some c, some (.lst (PcD L)), some (.str (rpD c)), some d, some (.lst (PcD L ++ [D.tup [.int 0]])), x9]) ?_ (sts_nx ?_ rfl))), some d, some (.lst (PcD L ++ [D.tup [.int 0]]).reverse), rfl⟩
      · have e := ev_call1 (P := p_law) (i := 4) (r := [x0, some b, x2, x3, some c, some (.lst (PcD L)), some (.str (rpD c)), some d, w8, x9]) hP2 q2 rfl
        have g : grd (!isTS (.lst (PcD L))) = .ok () := rfl
        generalize E.call 2 _ _ = z at e ⊢
        simp only [sts, st, ev, evs, evc, rd_zero, rd_succ, ok_bind, pure_ok, ofO_some, grd_true, List.set_cons_zero, List.set_cons_succ, getAll, putAll, setT, setTs, List.length_cons, List.length_nil, intOf, Bool.and_true, Bool.true_and, if_true, if_false, Bool.false_eq_true, Nat.zero_add, Nat.reduceAdd, Nat.reduceLT, decide_true, decide_false, true_and, and_true, Int.reduceAdd, Int.reduceLT, Int.reduceNeg, e, g]
      · have g : grd (atom (.bl true)) = .ok () := rfl
        simp only [sts, st, ev, evs, evc, rd_zero, rd_succ, ok_bind, pure_ok, ofO_some, grd_true, List.set_cons_zero, List.set_cons_succ, getAll, putAll, setT, setTs, List.length_cons, List.length_nil, intOf, Bool.and_true, Bool.true_and, if_true, if_false, Bool.false_eq_true, Nat.zero_add, Nat.reduceAdd, Nat.reduceLT, decide_true, decide_false, true_and, and_true, Int.reduceAdd, Int.reduceLT, Int.reduceNeg, hP8, ap, g, truth, Bool.not_true]
      · have g : grd (decide ((PcD L).length < line)) = .ok () := grd_of (decide_eq_true (by rw [PcD_len]; show _ < 16777216; omega))
        simp only [sts, st, ev, evs, evc, rd_zero, rd_succ, ok_bind, pure_ok, ofO_some, grd_true, List.set_cons_zero, List.set_cons_succ, getAll, putAll, setT, setTs, List.length_cons, List.length_nil, intOf, Bool.and_true, Bool.true_and, if_true, if_false, Bool.false_eq_true, Nat.zero_add, Nat.reduceAdd, Nat.reduceLT, decide_true, decide_false, true_and, and_true, Int.reduceAdd, Int.reduceLT, Int.reduceNeg, isLst, atPath, mu, g]
      · simp only [sts, st, ev, evs, evc, rd_zero, rd_succ, ok_bind, pure_ok, ofO_some, grd_true, List.set_cons_zero, List.set_cons_succ, getAll, putAll, setT, setTs, List.length_cons, List.length_nil, intOf, Bool.and_true, Bool.true_and, if_true, if_false, Bool.false_eq_true, Nat.zero_add, Nat.reduceAdd, Nat.reduceLT, decide_true, decide_false, true_and, and_true, Int.reduceAdd, Int.reduceLT, Int.reduceNeg, isLst, atPath, mu]
  subst er
  obtain ⟨ys, b', e2, pm, hb'⟩ := mixed_ok (t := .lst (PcD L)) rfl hb (by rw [PcD_len]; omega) (by omega)
  rw [PcD_len] at hb'
  have hi : ev p_law rpD (.call 7 [(.var 5)] [1]) [x0, some b, x2, x3, some c, some (.lst (PcD L)), some (.str (rpD c)), w7, w8, x9] = .ok (.lst ys, [x0, some b', x2, x3, some c, some (.lst (PcD L)), some (.str (rpD c)), w7, w8, x9]) := by
    simp only [sts, st, ev, evs, evc, rd_zero, rd_succ, ok_bind, pure_ok, ofO_some, grd_true, List.set_cons_zero, List.set_cons_succ, getAll, putAll, setT, setTs, List.length_cons, List.length_nil, intOf, Bool.and_true, Bool.true_and, if_true, if_false, Bool.false_eq_true, Nat.zero_add, Nat.reduceAdd, Nat.reduceLT, decide_true, decide_false, true_and, and_true, Int.reduceAdd, Int.reduceLT, Int.reduceNeg, hP7, e2]
  obtain ⟨r3, e3, w9, er⟩ := st_forI (P := p_law) (rp := rpD) (n := fuel) (t := .nm 9) (b := [.ite (.not (.call 8 [(.call 3 [(.var 4), (.var 9)] []), (.call 16 [(.var 4), (.var 9)] [])] [])) [.ret (.bl false)] []]) hi rfl
    (fun i r => ∃ w9, r = [x0, some b', x2, x3, some c, some (.lst (PcD L)), some (.str (rpD c)), w7, w8, w9]) ⟨x9, rfl⟩ fun i d r ed ⟨w9, er⟩ => by
      subst er
      obtain ⟨p, hp, rfl⟩ := PcD_perm pm d (List.mem_of_getElem? ed)
      have a1 := fed_ok h p
      have a2 := law_fed_ok h p
      have a3 := alike_bl (ts.any (fedB p))
      refine ⟨[x0, some b', x2, x3, some c, some (.lst (PcD L)), some (.str (rpD c)), w7, w8, some (.tup (Is p))], by simp only [sts, st, ev, evs, evc, rd_zero, rd_succ, ok_bind, pure_ok, ofO_some, grd_true, List.set_cons_zero, List.set_cons_succ, getAll, putAll, setT, setTs, List.length_cons, List.length_nil, intOf, Bool.and_true, Bool.true_and, if_true, if_false, Bool.false_eq_true, Nat.zero_add, Nat.reduceAdd, Nat.reduceLT, decide_true, decide_false, true_and, and_true, Int.reduceAdd, Int.reduceLT, Int.reduceNeg], [x0, some b', x2, x3, some c, some (.lst (PcD L)), some (.str (rpD c)), w7, w8, some (.tup (Is p))], sts_nx (st_ite_f (x := .bl false) (r1 := [x0, some b', x2, x3, some c, some (.lst (PcD L)), some (.str (rpD c)), w7, w8, some (.tup (Is p))]) ?_ rfl rfl) rfl, some (.tup (Is p)), rfl⟩
      simp only [sts, st, ev, evs, evc, rd_zero, rd_succ, ok_bind, pure_ok, ofO_some, grd_true, List.set_cons_zero, List.set_cons_succ, getAll, putAll, setT, setTs, List.length_cons, List.length_nil, intOf, Bool.and_true, Bool.true_and, if_true, if_false, Bool.false_eq_true, Nat.zero_add, Nat.reduceAdd, Nat.reduceLT, decide_true, decide_false, true_and, and_true, Int.reduceAdd, Int.reduceLT, Int.reduceNeg, hP3, a1, hP16, a2, hP8, a3, truth, Bool.not_true]
  subst er
  refine ⟨b', some (.lst (PcD L)), some (.str (rpD c)), w7, w8, w9, sts_nx st1 (sts_nx e1 (sts_nx e3 (sts_nx (st_ite_f (x := .bl false) (r1 := [x0, some b', x2, x3, some c, some (.lst (PcD L)), some (.str (rpD c)), w7, w8, w9]) ?_ rfl rfl) rfl))), hb'.le (by omega)⟩
  simp only [sts, st, ev, evs, evc, rd_zero, rd_succ, ok_bind, pure_ok, ofO_some, grd_true, List.set_cons_zero, List.set_cons_succ, getAll, putAll, setT, setTs, List.length_cons, List.length_nil, intOf, Bool.and_true, Bool.true_and, if_true, if_false, Bool.false_eq_true, Nat.zero_add, Nat.reduceAdd, Nat.reduceLT, decide_true, decide_false, true_and, and_true, Int.reduceAdd, Int.reduceLT, Int.reduceNeg, rp1, rp2]
end
theorem one_of {most n : Nat} {c : D} {fs : List Int} {ts : List (Int × Int × Int)} (h : ChartOk most n c fs ts) (hm : most ≤ 60) : One n c fs ts := by
  obtain ⟨a1, a2, a3, a4, a5, a6, a7⟩ := h
  have nf : fs.Nodup := List.nodup_iff_pairwise_ne.mpr (a4.imp fun h => by omega)
  have lf := nodup_len n fs nf a5
  exact ⟨a1, a2, by omega, a5, fun q hq => ⟨(a6 q hq).1, (a6 q hq).2.1, (a6 q hq).2.2.1, by have := (a6 q hq).2.2.2; omega⟩, by omega, by omega⟩
def Charts (cs : List D) : Prop := ∀ d ∈ cs, ∃ n fs ts, One n d fs ts
theorem law_ok {ns : List Int} (hl : ns.length ≤ 63) : m_law [.lst (Is ns)] [] = .ok (.bl true, []) := by
  have hP4 : p_law 4 = m_law_bag := rfl
  have hP5 : p_law 5 = m_law_take := rfl
  have hP6 : p_law 6 = m_law_one := rfl
  have hP10 : p_law 10 = m_law_chart := rfl
  obtain ⟨b0, e0, hb0⟩ := bag_ok (ns := ns) rfl hl
  obtain ⟨b0', eb0⟩ : ∃ l, b0 = .lst l := by obtain ⟨a, s, p, cs, e, _⟩ := hb0; exact ⟨_, e⟩
  have st1 : st p_law rpD fuel (.asg (.nm 1) (.lk (.call 4 [(.var 0)] []))) [some (.lst (Is ns)), none, none, none, none, none, none, none, none, none] = .ok (.nx [some (.lst (Is ns)), some b0, none, none, none, none, none, none, none, none]) := by
    have g : grd (!isTS b0) = .ok () := by rw [eb0]; rfl
    simp only [sts, st, ev, evs, evc, rd_zero, rd_succ, ok_bind, pure_ok, ofO_some, grd_true, List.set_cons_zero, List.set_cons_succ, getAll, putAll, setT, setTs, List.length_cons, List.length_nil, intOf, Bool.and_true, Bool.true_and, if_true, if_false, Bool.false_eq_true, Nat.zero_add, Nat.reduceAdd, Nat.reduceLT, decide_true, decide_false, true_and, and_true, Int.reduceAdd, Int.reduceLT, Int.reduceNeg, hP4, e0, g]
  have hr : ev p_law rpD (.bi .range1 [(.int 3)]) [some (.lst (Is ns)), some b0, none, none, none, none, none, none, none, none] = .ok (.lst (rangeI 0 3), [some (.lst (Is ns)), some b0, none, none, none, none, none, none, none, none]) := ev_bi1 (x := .int 3) rfl (bi_range1 (by omega) (by omega))
  have l3 : (rangeI 0 3).length = 3 := rfl
  obtain ⟨cs, r1, e1, b1, w3, er, hl1, hc1, hb1⟩ := ev_lcI (P := p_law) (rp := rpD) (t := .nm 3) (cs := []) (e := .call 10 [(.call 6 [(.lst [(.int 5), (.int 4), (.int 7), (.int 3), (.int 12)])] [1]), (.int 3)] [1]) hr rfl
    (fun i acc r => ∃ b' w3, r = [some (.lst (Is ns)), some b', none, w3, none, none, none, none, none, none] ∧ acc.length = i ∧ Charts acc ∧ Bag (0 + 6001 * i) b') ⟨b0, none, rfl, rfl, fun d hd => by simp at hd, hb0⟩ fun i d acc r ed ⟨b1, w3, er, hl1, hc1, hb1⟩ => by
      subst er
      have hi := (List.getElem?_eq_some_iff.mp ed).1
      rw [l3] at hi
      obtain ⟨y, b2, e2, hy, hb2⟩ := one_ok (t := .lst [.int 5, .int 4, .int 7, .int 3, .int 12]) rfl hb1 (by simp) (by simp) (by omega)
      obtain ⟨m, rfl, m1, m2⟩ : ∃ m, y = .int m ∧ 1 ≤ m ∧ m ≤ 12 := by
        simp only [List.mem_cons, List.not_mem_nil, or_false] at hy
        rcases hy with rfl | rfl | rfl | rfl | rfl <;> exact ⟨_, rfl, by omega, by omega⟩
      obtain ⟨c, n, fs, ts, b3, e3, hc, hb3⟩ := chart_ok (most := m) (wide := 3) hb2 (by omega) (by omega) (by omega)
      refine ⟨[some (.lst (Is ns)), some b1, none, some d, none, none, none, none, none, none], by simp only [sts, st, ev, evs, evc, rd_zero, rd_succ, ok_bind, pure_ok, ofO_some, grd_true, List.set_cons_zero, List.set_cons_succ, getAll, putAll, setT, setTs, List.length_cons, List.length_nil, intOf, Bool.and_true, Bool.true_and, if_true, if_false, Bool.false_eq_true, Nat.zero_add, Nat.reduceAdd, Nat.reduceLT, decide_true, decide_false, true_and, and_true, Int.reduceAdd, Int.reduceLT, Int.reduceNeg, clr, Tg.slots], .inr ⟨[some (.lst (Is ns)), some b1, none, some d, none, none, none, none, none, none], c, [some (.lst (Is ns)), some b3, none, some d, none, none, none, none, none, none], rfl, ?_, by rw [hl1]; show i < 16777216; omega, b3, some d, rfl, by simp [hl1], fun x hx => ?_, hb3.le (by omega)⟩⟩
      · simp only [sts, st, ev, evs, evc, rd_zero, rd_succ, ok_bind, pure_ok, ofO_some, grd_true, List.set_cons_zero, List.set_cons_succ, getAll, putAll, setT, setTs, List.length_cons, List.length_nil, intOf, Bool.and_true, Bool.true_and, if_true, if_false, Bool.false_eq_true, Nat.zero_add, Nat.reduceAdd, Nat.reduceLT, decide_true, decide_false, true_and, and_true, Int.reduceAdd, Int.reduceLT, Int.reduceNeg, hP6, e2, hP10, e3]
      · rcases List.mem_append.mp hx with h | h
        · exact hc1 x h
        · simp at h; subst h; exact ⟨n, fs, ts, one_of hc (by omega)⟩
  subst er
  rw [l3] at hl1 hb1
  have st2 : st p_law rpD fuel (.asg (.nm 2) (.lc (.nm 3) (.bi .range1 [(.int 3)]) [] (.call 10 [(.call 6 [(.lst [(.int 5), (.int 4), (.int 7), (.int 3), (.int 12)])] [1]), (.int 3)] [1]))) [some (.lst (Is ns)), some b0, none, none, none, none, none, none, none, none] = .ok (.nx [some (.lst (Is ns)), some b1, some (.lst cs), none, none, none, none, none, none, none]) := by
    generalize E.lc _ _ _ _ = z at e1 ⊢
    simp only [sts, st, ev, evs, evc, rd_zero, rd_succ, ok_bind, pure_ok, ofO_some, grd_true, List.set_cons_zero, List.set_cons_succ, getAll, putAll, setT, setTs, List.length_cons, List.length_nil, intOf, Bool.and_true, Bool.true_and, if_true, if_false, Bool.false_eq_true, Nat.zero_add, Nat.reduceAdd, Nat.reduceLT, decide_true, decide_false, true_and, and_true, Int.reduceAdd, Int.reduceLT, Int.reduceNeg, e1, restE, Tg.slots, List.getElem?_cons_succ, List.getElem?_cons_zero, Option.getD_some]
  obtain ⟨v, b2, e2, v0, v1, hb2⟩ := take_ok hb1 (n := 6) (by omega) (by omega) (by omega)
  obtain ⟨cs2, b3, st3, hl2, hc2, hb3⟩ : ∃ cs2 b3, st p_law rpD fuel (.ite (.cmp .eq (.call 5 [(.int 6)] [1]) (.int 0)) [.mcall .append 2 [] [(.call 10 [(.int 60), (.int 4)] [1])]] []) [some (.lst (Is ns)), some b1, some (.lst cs), none, none, none, none, none, none, none] = .ok (.nx [some (.lst (Is ns)), some b3, some (.lst cs2), none, none, none, none, none, none, none]) ∧ cs2.length ≤ 4 ∧ Charts cs2 ∧ Bag 30000 b3 := by
    by_cases hv : v = 0
    · obtain ⟨c, n, fs, ts, b3, e3, hc, hb3⟩ := chart_ok (most := 60) (wide := 4) hb2 (by omega) (by omega) (by omega)
      refine ⟨cs ++ [c], b3, st_ite_t (x := .bl true) (r1 := [some (.lst (Is ns)), some b2, some (.lst cs), none, none, none, none, none, none, none]) ?_ rfl (sts_nx ?_ rfl), by simp [hl1], fun x hx => ?_, hb3.le (by omega)⟩
      · simp only [sts, st, ev, evs, evc, rd_zero, rd_succ, ok_bind, pure_ok, ofO_some, grd_true, List.set_cons_zero, List.set_cons_succ, getAll, putAll, setT, setTs, List.length_cons, List.length_nil, intOf, Bool.and_true, Bool.true_and, if_true, if_false, Bool.false_eq_true, Nat.zero_add, Nat.reduceAdd, Nat.reduceLT, decide_true, decide_false, true_and, and_true, Int.reduceAdd, Int.reduceLT, Int.reduceNeg, hP5, e2, eq_int, hv]
      · have g : grd (decide (cs.length < line)) = .ok () := grd_of (decide_eq_true (by rw [hl1]; show 3 < 16777216; omega))
        simp only [sts, st, ev, evs, evc, rd_zero, rd_succ, ok_bind, pure_ok, ofO_some, grd_true, List.set_cons_zero, List.set_cons_succ, getAll, putAll, setT, setTs, List.length_cons, List.length_nil, intOf, Bool.and_true, Bool.true_and, if_true, if_false, Bool.false_eq_true, Nat.zero_add, Nat.reduceAdd, Nat.reduceLT, decide_true, decide_false, true_and, and_true, Int.reduceAdd, Int.reduceLT, Int.reduceNeg, isLst, atPath, mu, hP10, e3, g]
      · rcases List.mem_append.mp hx with h | h
        · exact hc1 x h
        · simp at h; subst h; exact ⟨n, fs, ts, one_of hc (by decide)⟩
    · refine ⟨cs, b2, st_ite_f (x := .bl false) (r1 := [some (.lst (Is ns)), some b2, some (.lst cs), none, none, none, none, none, none, none]) ?_ rfl rfl, by omega, hc1, hb2.le (by omega)⟩
      simp only [sts, st, ev, evs, evc, rd_zero, rd_succ, ok_bind, pure_ok, ofO_some, grd_true, List.set_cons_zero, List.set_cons_succ, getAll, putAll, setT, setTs, List.length_cons, List.length_nil, intOf, Bool.and_true, Bool.true_and, if_true, if_false, Bool.false_eq_true, Nat.zero_add, Nat.reduceAdd, Nat.reduceLT, decide_true, decide_false, true_and, and_true, Int.reduceAdd, Int.reduceLT, Int.reduceNeg, hP5, e2, eq_int, hv]
  obtain ⟨ds, hds⟩ : ∃ ds, cs2 ++ cut cs2 none (some 1) = ds := ⟨_, rfl⟩
  have hcd : Charts ds := fun x hx => by
    rw [← hds] at hx
    rcases List.mem_append.mp hx with h | h
    · exact hc2 x h
    · exact hc2 x (cut_mem h)
  have lc := cut_len cs2 none (some 1)
  have lds : ds.length ≤ 8 := by rw [← hds, List.length_append]; omega
  have hit : ev p_law rpD (.bin .add (.var 2) (.slc (.var 2) [] [(.int 1)])) [some (.lst (Is ns)), some b3, some (.lst cs2), none, none, none, none, none, none, none] = .ok (.lst ds, [some (.lst (Is ns)), some b3, some (.lst cs2), none, none, none, none, none, none, none]) := by
    have g : grd (decide (cs2.length + (cut cs2 none (some 1)).length ≤ line)) = .ok () := grd_of (decide_eq_true (by show _ ≤ 16777216; omega))
    simp only [sts, st, ev, evs, evc, rd_zero, rd_succ, ok_bind, pure_ok, ofO_some, grd_true, List.set_cons_zero, List.set_cons_succ, getAll, putAll, setT, setTs, List.length_cons, List.length_nil, intOf, Bool.and_true, Bool.true_and, if_true, if_false, Bool.false_eq_true, Nat.zero_add, Nat.reduceAdd, Nat.reduceLT, decide_true, decide_false, true_and, and_true, Int.reduceAdd, Int.reduceLT, Int.reduceNeg, binop, index, slice, cmpop, truth, bi, intsD, List.head?_cons, List.head?_nil, setIx, isInt, mu, lstOf, g, hds]
  obtain ⟨r5, e5, b5, w4, w5, w6, w7, w8, w9, er, hb5⟩ := st_forI (P := p_law) (rp := rpD) (n := fuel) (t := .nm 4) (b := [.par [5, 6] [(.call 15 [(.var 4)] []), (.bi .repr [(.var 4)])], .for_ (.nm 7) (.bi .range1 [(.int 2)]) [.asg (.nm 8) (.lk (.call 2 [(.var 4)] [])), .ite (.not (.bcall 8 [(.var 8), (.var 5)])) [.ret (.bl false)] [], .mcall .append 8 [] [(.tup [(.int 0)])], .mcall .reverse 8 [] []], .for_ (.nm 9) (.call 7 [(.var 5)] [1]) [.ite (.not (.call 8 [(.call 3 [(.var 4), (.var 9)] []), (.call 16 [(.var 4), (.var 9)] [])] [])) [.ret (.bl false)] []], .ite (.cmp .ne (.bi .repr [(.var 4)]) (.var 6)) [.ret (.bl false)] []]) hit rfl
    (fun i r => ∃ b' w4 w5 w6 w7 w8 w9, r = [some (.lst (Is ns)), some b', some (.lst cs2), none, w4, w5, w6, w7, w8, w9] ∧ Bag (30000 + 60 * i) b') ⟨b3, none, none, none, none, none, none, rfl, hb3⟩ fun i d r ed ⟨b', w4, w5, w6, w7, w8, w9, er, hb'⟩ => by
      subst er
      have hi := (List.getElem?_eq_some_iff.mp ed).1
      obtain ⟨n, fs, ts, ho⟩ := hcd d (List.mem_of_getElem? ed)
      obtain ⟨b'', y5, y6, y7, y8, y9, e6, hb''⟩ := law_turn (x0 := some (.lst (Is ns))) (x2 := some (.lst cs2)) (x3 := none) (x5 := w5) (x6 := w6) (x7 := w7) (x8 := w8) (x9 := w9) ho hb' (by omega)
      exact ⟨[some (.lst (Is ns)), some b', some (.lst cs2), none, some d, w5, w6, w7, w8, w9], by simp only [sts, st, ev, evs, evc, rd_zero, rd_succ, ok_bind, pure_ok, ofO_some, grd_true, List.set_cons_zero, List.set_cons_succ, getAll, putAll, setT, setTs, List.length_cons, List.length_nil, intOf, Bool.and_true, Bool.true_and, if_true, if_false, Bool.false_eq_true, Nat.zero_add, Nat.reduceAdd, Nat.reduceLT, decide_true, decide_false, true_and, and_true, Int.reduceAdd, Int.reduceLT, Int.reduceNeg], _, e6, b'', some d, y5, y6, y7, y8, y9, rfl, hb''.le (by omega)⟩
  subst er
  refine run_ok f_law (r0 := [some (.lst (Is ns)), none, none, none, none, none, none, none, none, none]) (r := [some (.lst (Is ns)), some b5, some (.lst cs2), none, w4, w5, w6, w7, w8, w9]) rfl (sts_nx st1 (sts_nx st2 (sts_nx st3 (sts_nx e5 (sts_ret ?_))))) rfl
  simp only [sts, st, ev, evs, evc, rd_zero, rd_succ, ok_bind, pure_ok, ofO_some, grd_true, List.set_cons_zero, List.set_cons_succ, getAll, putAll, setT, setTs, List.length_cons, List.length_nil, intOf, Bool.and_true, Bool.true_and, if_true, if_false, Bool.false_eq_true, Nat.zero_add, Nat.reduceAdd, Nat.reduceLT, decide_true, decide_false, true_and, and_true, Int.reduceAdd, Int.reduceLT, Int.reduceNeg]
end C

set_option Elab.async false
set_option linter.all false
set_option maxRecDepth 100000
set_option maxHeartbeats 1000000
set_option maxHeartbeats 4000000
namespace C
open PySem PySem.Spec PyProof.Rows L2
def topS (i : Nat) : Stmt := PySem.Challenge.pw_homeletters_k18_pieces_and_feeding.main.body.getD i (.Pass ⟨0, 0, 0, 0⟩)
abbrev a_neighbours_of : Stmt := topS 1
theorem sc_neighbours_of : FnScope ["chart", "source_at", "target_at", "found", "stand", "step"] ["chart", "source_at", "target_at"] (defScope a_neighbours_of) := ⟨rfl, rfl, rfl, by decide +kernel, rfl, by decide +kernel, by decide +kernel⟩
theorem t_neighbours_of {P : Program} {w : World} {K : PySem.W.Frag} {mg : Str → Option Value} {base : Heap} {f : Addr} {fd : FuncData} (bl : ∀ x ∈ blN, mg x = none) (F : L2.Fun K "neighbours_of" "neighbours_of" a_neighbours_of f fd) :
    FnG P w K mg base CX0 1 f fd ["chart", "source_at", "target_at"] (spD ⟨K, P, w⟩ [0, 0, 0] 2 m_neighbours_of) :=
  fn_core2 f_neighbours_of p_neighbours_of F sc_neighbours_of rfl rfl bl fun cdv A outer s H E G B bo bn =>
 (s_cons (w_asgLcO G bo bn true [("stand", 4)] 3 (w_irange1 true G (w_cons (w_idx .b G (w_v .b 0) (w_int .b)) w_nil)) (fun _ _ _ _ _ => (w_nm G.blk 4)) (fun _ _ _ _ _ => c_nil) (fun _ _ _ _ _ => (w_lst (.own 1) w_nil)))
 (s_cons (w_for G bo bn (w_ival true (w_idx (.own 0) G (w_v .k 0) (w_int .b))) (w_nm G 5) fun B bo bn => (s_cons (w_mcV PySem.F.slot_list_append PySem.F.type_list_append mt_append mu_append G bo 4 3 (w_idx .b G (w_v .b 5) (w_v .b 1)) (w_cons (w_idx (.own 0) G (w_v .k 5) (w_v .b 2)) w_nil))
 s_nil))
 (s_cons (w_retMv bo bn 3)
 s_nil)))
abbrev a_reached_from : Stmt := topS 2
theorem sc_reached_from : FnScope ["neighbours", "stand", "found", "waiting", "other"] ["neighbours", "stand"] (defScope a_reached_from) := ⟨rfl, rfl, rfl, by decide +kernel, rfl, by decide +kernel, by decide +kernel⟩
theorem t_reached_from {P : Program} {w : World} {K : PySem.W.Frag} {mg : Str → Option Value} {base : Heap} {f : Addr} {fd : FuncData} (bl : ∀ x ∈ blN, mg x = none) (F : L2.Fun K "reached_from" "reached_from" a_reached_from f fd) :
    FnG P w K mg base CX0 1 f fd ["neighbours", "stand"] (spD ⟨K, P, w⟩ [0, 0] 1 m_reached_from) :=
  fn_core2 f_reached_from p_reached_from F sc_reached_from rfl rfl bl fun cdv A outer s H E G B bo bn =>
 (s_cons (w_asgK G bo bn 2 0 (d_lk (w_bin (.own 1) (op := .mul) (w_lst .k (w_cons (w_bl (.own 0)) w_nil)) (w_biB (m := .k) (ma := .b) (f := .len) G cr_len (w_cons (w_v .b 0) w_nil)))))
 (s_cons (w_set1 G bo 2 (w_bl (.own 0)) (w_v .b 1))
 (s_cons (w_asgK G bo bn 3 0 (w_lst (.own 1) (w_cons (w_v (.own 0) 1) w_nil)))
 (s_cons (w_while bo (w_tval (w_v .b 3)) (s_cons (w_for G bo bn (w_ival true (w_idx (.own 0) G (w_v (.own 0) 0) (w_pop .b 3))) (w_nm G 4) fun B bo bn => (s_cons (s_ite bo (t_not (w_tval (w_idx .b G (w_v .b 2) (w_v .b 4)))) (s_cons (w_set1 G bo 2 (w_bl (.own 0)) (w_v .b 4))
 (s_cons (w_mc PySem.F.slot_list_append PySem.F.type_list_append mt_append mu_append bo 3 (w_cons (w_v (.own 0) 4) w_nil))
 s_nil)) s_nil)
 s_nil))
 s_nil))
 (s_cons (w_retMv bo bn 2)
 s_nil)))))
abbrev a_pieces_of : Stmt := topS 3
theorem sc_pieces_of : FnScope ["chart", "ahead", "behind", "found", "done", "stand", "to", "back", "piece", "other"] ["chart"] (defScope a_pieces_of) := ⟨rfl, rfl, rfl, by decide +kernel, rfl, by decide +kernel, by decide +kernel⟩
theorem t_pieces_of {P : Program} {w : World} {K : PySem.W.Frag} {mg : Str → Option Value} {base : Heap} {f : Addr} {fd : FuncData} (bl : ∀ x ∈ blN, mg x = none) (c_f_neighbours_of : CalG P w K mg base 1 "neighbours_of" (spD ⟨K, P, w⟩ [0, 0, 0] 2 m_neighbours_of)) (c_f_reached_from : CalG P w K mg base 1 "reached_from" (spD ⟨K, P, w⟩ [0, 0] 1 m_reached_from)) (F : L2.Fun K "pieces_of" "pieces_of" a_pieces_of f fd) :
    FnG P w K mg base CX0 2 f fd ["chart"] (spD ⟨K, P, w⟩ [0] 1 m_pieces_of) :=
  fn_core2 f_pieces_of p_pieces_of F sc_pieces_of rfl rfl bl fun cdv A outer s H E G B bo bn =>
 (s_cons (w_par G bo bn 1 2 (w_call (P := p_pieces_of) (f := 0) (.own 0) G c_f_neighbours_of (w_ro (w_v (.own 0) 0) (w_ro (w_int (.own 0)) (w_ro (w_int (.own 0)) w_anil)))) (w_call (P := p_pieces_of) (f := 0) (.own 0) G c_f_neighbours_of (w_ro (w_v (.own 0) 0) (w_ro (w_int (.own 0)) (w_ro (w_int (.own 0)) w_anil)))))
 (s_cons (w_par G bo bn 3 4 (w_lst (.own 1) w_nil) (d_lk (w_bin (.own 1) (op := .mul) (w_lst .k (w_cons (w_bl (.own 0)) w_nil)) (w_idx .k G (w_v .k 0) (w_int .b)))))
 (s_cons (w_for G bo bn (w_irange1 true G (w_cons (w_idx .b G (w_v .b 0) (w_int .b)) w_nil)) (w_nm G 5) fun B bo bn => (s_cons (s_ite bo (t_not (w_tval (w_idx .b G (w_v .b 4) (w_v .b 5)))) (s_cons (w_parT G bo bn 6 7 (w_call (P := p_pieces_of) (f := 1) (.own 0) G c_f_reached_from (w_ro (w_v (.own 0) 1) (w_ro (w_v (.own 0) 5) w_anil))) (w_call (P := p_pieces_of) (f := 1) (.own 0) G c_f_reached_from (w_ro (w_v (.own 0) 2) (w_ro (w_v (.own 0) 5) w_anil))))
 (s_cons (w_asg G bo 8 (w_biT (m := (.own 0)) (ma := .k) (f := .tuple) G (cr_tuple rfl) (w_cons (w_lc .k G true [("other", 9)] (w_irange1 true G (w_cons (w_idx .b G (w_v .b 0) (w_int .b)) w_nil)) (fun _ _ _ _ _ => (w_nm G.blk 9)) (fun _ _ _ _ _ => (c_one (PW.pt (t_and (w_tval (w_idx .b G.blk (w_v .b 6) (w_v .b 9))) (w_tone (w_tval (w_idx .b G.blk (w_v .b 7) (w_v .b 9)))))))) (fun _ _ _ _ _ => (w_v (.own 0) 9))) w_nil)))
 (s_cons (w_for G bo bn (w_ival true (w_v (.own 0) 8)) (w_nm G 9) fun B bo bn => (s_cons (w_set1 G bo 4 (w_bl (.own 0)) (w_v .b 9))
 s_nil))
 (s_cons (w_mc PySem.F.slot_list_append PySem.F.type_list_append mt_append mu_append bo 3 (w_cons (w_v (.own 0) 8) w_nil))
 s_nil)))) s_nil)
 s_nil))
 (s_cons (w_retMv bo bn 3)
 s_nil))))
abbrev a_is_fed : Stmt := topS 4
theorem sc_is_fed : FnScope ["chart", "piece", "step"] ["chart", "piece"] (defScope a_is_fed) := ⟨rfl, rfl, rfl, by decide +kernel, rfl, by decide +kernel, by decide +kernel⟩
theorem t_is_fed {P : Program} {w : World} {K : PySem.W.Frag} {mg : Str → Option Value} {base : Heap} {f : Addr} {fd : FuncData} (bl : ∀ x ∈ blN, mg x = none) (F : L2.Fun K "is_fed" "is_fed" a_is_fed f fd) :
    FnG P w K mg base CX0 1 f fd ["chart", "piece"] (spD ⟨K, P, w⟩ [0, 0] 2 m_is_fed) :=
  fn_core2 f_is_fed p_is_fed F sc_is_fed rfl rfl bl fun cdv A outer s H E G B bo bn =>
 (s_cons (s_ret bo (w_biB (m := (.own 2)) (ma := .b) (f := .any) G (cr_any_ G.hc) (w_cons (w_lc .b G true [("step", 2)] (w_ival true (w_idx (.own 0) G (w_v .k 0) (w_int .b))) (fun _ _ _ _ _ => (w_nm G.blk 2)) (fun _ _ _ _ _ => c_nil) (fun _ _ _ _ _ => (d_and (w_cmp (.own 0) G.blk (op := .isin) (w_idx .b G.blk (w_v .b 2) (w_int .b)) (w_v .b 1)) (d_one (w_cmp (.own 0) G.blk (op := .notin) (w_idx .b G.blk (w_v .b 2) (w_int .b)) (w_v .b 1)))))) w_nil)))
 s_nil)
abbrev a_law_bag : Stmt := topS 6
theorem sc_law_bag : FnScope ["_law_script", "_law_cell"] ["_law_script"] (defScope a_law_bag) := ⟨rfl, rfl, rfl, by decide +kernel, rfl, by decide +kernel, by decide +kernel⟩
theorem t_law_bag {P : Program} {w : World} {K : PySem.W.Frag} {mg : Str → Option Value} {base : Heap} {f : Addr} {fd : FuncData} (bl : ∀ x ∈ blN, mg x = none) (F : L2.Fun K "_law_bag" "_law_bag" a_law_bag f fd) :
    FnG P w K mg base CX0 1 f fd ["_law_script"] (spD ⟨K, P, w⟩ [0] 1 m_law_bag) :=
  fn_core2 f_law_bag p_law_bag F sc_law_bag rfl rfl bl fun cdv A outer s H E G B bo bn =>
 (s_cons (s_ret bo (w_lst (.own 1) (w_cons (w_int (.own 0)) (w_cons (w_int (.own 0)) (w_cons (w_int (.own 0)) (w_cons (w_lc (.own 0) G true [("_law_cell", 1)] (w_ival true (w_slc (.own 0) (w_v .k 0) o_none (o_some (w_int .b)))) (fun _ _ _ _ _ => (w_nm G.blk 1)) (fun _ _ _ _ _ => c_nil) (fun _ _ _ _ _ => (w_biB (m := (.own 0)) (ma := .b) (f := .abs) G.blk cr_abs (w_cons (w_v .b 1) w_nil)))) w_nil))))))
 s_nil)
abbrev a_law_take : Stmt := topS 7
theorem sc_law_take : FnScope ["_law_bag_here", "_law_many", "_law_cell", "_law_stirred", "_law_value", "_law_begin", "_law_second"] ["_law_bag_here", "_law_many"] (defScope a_law_take) := ⟨rfl, rfl, rfl, by decide +kernel, rfl, by decide +kernel, by decide +kernel⟩
theorem t_law_take {P : Program} {w : World} {K : PySem.W.Frag} {mg : Str → Option Value} {base : Heap} {f : Addr} {fd : FuncData} (bl : ∀ x ∈ blN, mg x = none) (F : L2.Fun K "_law_take" "_law_take" a_law_take f fd) :
    FnG P w K mg base CX0 1 f fd ["_law_bag_here", "_law_many"] (spD ⟨K, P, w⟩ [1, 0] 0 m_law_take) :=
  fn_core2 f_law_take p_law_take F sc_law_take rfl rfl bl fun cdv A outer s H E G B bo bn =>
 (s_cons (s_ite bo (w_tcmp G (op := .eq) (w_idx .b G (w_v .b 0) (w_int .b)) (w_int .b)) (s_cons (w_asg G bo 2 (w_idx (.own 0) G (w_bin .k (op := .add) (w_slc .k (w_idx .k G (w_v .k 0) (w_int .b)) (o_some (w_idx .b G (w_v .b 0) (w_int .b))) o_none) (w_lst .k (w_cons (w_int (.own 0)) w_nil))) (w_int .b)))
 (s_cons (w_aug1 G bo 0 (op := .add) (w_int .b) (w_int (.own 0)))
 (s_cons (s_ite bo (w_tcmp G (op := .ge) (w_v .b 2) (w_bin .b (op := .pow) (w_int .k) (w_int .k))) (s_cons (w_set1 G bo 0 (w_v (.own 0) 2) (w_int .b))
 s_nil) s_nil)
 (s_cons (w_asg G bo 3 (w_bin (.own 0) (op := .add) (w_bin .k (op := .add) (w_bin .k (op := .mul) (w_idx .k G (w_v .k 0) (w_int .b)) (w_int .k)) (w_bin .k (op := .mod) (w_biT (m := .k) (ma := .b) (f := .int) G cr_int (w_cons (w_v .b 2) w_nil)) (w_int .k))) (w_bin .k (op := .mul) (w_int .k) (w_idx .k G (w_v .k 0) (w_int .b)))))
 (s_cons (w_set1 G bo 0 (w_bin (.own 0) (op := .mod) (w_biT (m := .k) (ma := .b) (f := .int) G cr_int (w_cons (w_v .b 3) w_nil)) (w_int .k)) (w_int .b))
 s_nil))))) s_nil)
 (s_cons (s_ite bo (w_tcmp G (op := .gt) (w_idx .b G (w_v .b 0) (w_int .b)) (w_int .b)) (s_cons (w_asg G bo 4 (w_bin (.own 0) (op := .mod) (w_biT (m := .k) (ma := .b) (f := .int) G cr_int (w_cons (w_idx .b G (w_v .b 0) (w_int .b)) w_nil)) (w_v .k 1)))
 (s_cons (w_set1 G bo 0 (w_bin (.own 0) (op := .fdiv) (w_biT (m := .k) (ma := .b) (f := .int) G cr_int (w_cons (w_idx .b G (w_v .b 0) (w_int .b)) w_nil)) (w_v .k 1)) (w_int .b))
 (s_cons (s_ret bo (w_v (.own 0) 4))
 s_nil))) s_nil)
 (s_cons (w_asg G bo 5 (w_bin (.own 0) (op := .mod) (w_biT (m := .k) (ma := .b) (f := .int) G cr_int (w_cons (w_bin .b (op := .mul) (w_bin .k (op := .add) (w_idx .k G (w_v .k 0) (w_int .b)) (w_int .k)) (w_int .k)) w_nil)) (w_int .k)))
 (s_cons (w_asg G bo 6 (w_bin (.own 0) (op := .mod) (w_biT (m := .k) (ma := .b) (f := .int) G cr_int (w_cons (w_bin .b (op := .mul) (w_bin .k (op := .mod) (w_biT (m := .k) (ma := .b) (f := .int) G cr_int (w_cons (w_bin .b (op := .mul) (w_v .k 5) (w_v .k 5)) w_nil)) (w_int .k)) (w_int .k)) w_nil)) (w_int .k)))
 (s_cons (s_ret bo (w_bin (.own 0) (op := .mod) (w_biT (m := .k) (ma := .b) (f := .int) G cr_int (w_cons (w_bin .b (op := .fdiv) (w_v .k 6) (w_int .k)) w_nil)) (w_v .k 1)))
 s_nil)))))
abbrev a_law_one : Stmt := topS 8
theorem sc_law_one : FnScope ["_law_bag_here", "_law_things"] ["_law_bag_here", "_law_things"] (defScope a_law_one) := ⟨rfl, rfl, rfl, by decide +kernel, rfl, by decide +kernel, by decide +kernel⟩
theorem t_law_one {P : Program} {w : World} {K : PySem.W.Frag} {mg : Str → Option Value} {base : Heap} {f : Addr} {fd : FuncData} (bl : ∀ x ∈ blN, mg x = none) (c_f_law_take : CalG P w K mg base 1 "_law_take" (spD ⟨K, P, w⟩ [1, 0] 0 m_law_take)) (F : L2.Fun K "_law_one" "_law_one" a_law_one f fd) :
    FnG P w K mg base CX0 2 f fd ["_law_bag_here", "_law_things"] (spD ⟨K, P, w⟩ [1, 0] 0 m_law_one) :=
  fn_core2 f_law_one p_law_one F sc_law_one rfl rfl bl fun cdv A outer s H E G B bo bn =>
 (s_cons (s_ret bo (w_idx (.own 0) G (w_v (.own 0) 1) (w_call (P := p_law_one) (f := 5) .b G c_f_law_take (w_io 0 0 (w_ro (w_biB (m := (.own 0)) (ma := .b) (f := .len) G cr_len (w_cons (w_v .b 1) w_nil)) w_anil)))))
 s_nil)
abbrev a_law_mixed : Stmt := topS 9
theorem sc_law_mixed : FnScope ["_law_bag_here", "_law_things", "_law_found", "_law_thing"] ["_law_bag_here", "_law_things"] (defScope a_law_mixed) := ⟨rfl, rfl, rfl, by decide +kernel, rfl, by decide +kernel, by decide +kernel⟩
theorem t_law_mixed {P : Program} {w : World} {K : PySem.W.Frag} {mg : Str → Option Value} {base : Heap} {f : Addr} {fd : FuncData} (bl : ∀ x ∈ blN, mg x = none) (c_f_law_take : CalG P w K mg base 1 "_law_take" (spD ⟨K, P, w⟩ [1, 0] 0 m_law_take)) (F : L2.Fun K "_law_mixed" "_law_mixed" a_law_mixed f fd) :
    FnG P w K mg base CX0 2 f fd ["_law_bag_here", "_law_things"] (spD ⟨K, P, w⟩ [1, 0] 1 m_law_mixed) :=
  fn_core2 f_law_mixed p_law_mixed F sc_law_mixed rfl rfl bl fun cdv A outer s H E G B bo bn =>
 (s_cons (w_asgK G bo bn 2 0 (w_lst (.own 1) w_nil))
 (s_cons (w_for G bo bn (w_ival true (w_v (.own 0) 1)) (w_nm G 3) fun B bo bn => (s_cons (w_mc PySem.F.slot_list_insert PySem.F.type_list_insert mt_insert mu_insert bo 2 (w_cons (w_call (P := p_law_mixed) (f := 5) (.own 0) G c_f_law_take (w_io 0 0 (w_ro (w_bin (.own 0) (op := .add) (w_biB (m := .k) (ma := .b) (f := .len) G cr_len (w_cons (w_v .b 2) w_nil)) (w_int .k)) w_anil))) (w_cons (w_v (.own 0) 3) w_nil)))
 s_nil))
 (s_cons (w_retMv bo bn 2)
 s_nil)))
abbrev a_law_alike : Stmt := topS 10
theorem sc_law_alike : FnScope ["_law_found", "_law_due"] ["_law_found", "_law_due"] (defScope a_law_alike) := ⟨rfl, rfl, rfl, by decide +kernel, rfl, by decide +kernel, by decide +kernel⟩
theorem t_law_alike {P : Program} {w : World} {K : PySem.W.Frag} {mg : Str → Option Value} {base : Heap} {f : Addr} {fd : FuncData} (bl : ∀ x ∈ blN, mg x = none) (F : L2.Fun K "_law_alike" "_law_alike" a_law_alike f fd) :
    FnG P w K mg base CX0 1 f fd ["_law_found", "_law_due"] (spD ⟨K, P, w⟩ [0, 0] 0 m_law_alike) :=
  fn_core2 f_law_alike p_law_alike F sc_law_alike rfl rfl bl fun cdv A outer s H E G B bo bn =>
 (s_cons (s_ret bo (d_and (w_cmp (.own 0) G (op := .eq) (w_v .b 0) (w_v .b 1)) (d_one (w_cmp (.own 0) G (op := .eq) (w_biB (m := .b) (ma := .b) (f := .repr) G (cr_repr G.hg G.u20) (w_cons (w_v .b 0) w_nil)) (w_biB (m := .b) (ma := .b) (f := .repr) G (cr_repr G.hg G.u20) (w_cons (w_v .b 1) w_nil))))))
 s_nil)
abbrev a_law_flat : Stmt := topS 11
theorem sc_law_flat : FnScope ["_law_rows", "_law_found", "_law_row"] ["_law_rows"] (defScope a_law_flat) := ⟨rfl, rfl, rfl, by decide +kernel, rfl, by decide +kernel, by decide +kernel⟩
theorem t_law_flat {P : Program} {w : World} {K : PySem.W.Frag} {mg : Str → Option Value} {base : Heap} {f : Addr} {fd : FuncData} (bl : ∀ x ∈ blN, mg x = none) (F : L2.Fun K "_law_flat" "_law_flat" a_law_flat f fd) :
    FnG P w K mg base CX0 1 f fd ["_law_rows"] (spD ⟨K, P, w⟩ [0] 1 m_law_flat) :=
  fn_core2 f_law_flat p_law_flat F sc_law_flat rfl rfl bl fun cdv A outer s H E G B bo bn =>
 (s_cons (w_asgK G bo bn 1 0 (w_lst (.own 1) w_nil))
 (s_cons (w_for G bo bn (w_ival true (w_v (.own 0) 0)) (w_nm G 2) fun B bo bn => (s_cons (w_mc PySem.F.slot_list_extend PySem.F.type_list_extend mt_ext mu_extend bo 1 (w_cons (w_v .k 2) w_nil))
 s_nil))
 (s_cons (w_retMv bo bn 1)
 s_nil)))
abbrev a_law_narrow : Stmt := topS 14
theorem sc_law_narrow : FnScope ["_law_pairs", "_law_wide", "_law_found", "_law_pair", "_law_one_here"] ["_law_pairs", "_law_wide"] (defScope a_law_narrow) := ⟨rfl, rfl, rfl, by decide +kernel, rfl, by decide +kernel, by decide +kernel⟩
theorem t_law_narrow {P : Program} {w : World} {K : PySem.W.Frag} {mg : Str → Option Value} {base : Heap} {f : Addr} {fd : FuncData} (bl : ∀ x ∈ blN, mg x = none) (F : L2.Fun K "_law_narrow" "_law_narrow" a_law_narrow f fd) :
    FnG P w K mg base CX0 1 f fd ["_law_pairs", "_law_wide"] (spD ⟨K, P, w⟩ [0, 0] 1 m_law_narrow) :=
  fn_core2 f_law_narrow p_law_narrow F sc_law_narrow rfl rfl bl fun cdv A outer s H E G B bo bn =>
 (s_cons (w_asgK G bo bn 2 0 (w_lst (.own 1) w_nil))
 (s_cons (w_for G bo bn (w_ival true (w_v (.own 0) 0)) (w_nm G 3) fun B bo bn => (s_cons (s_ite bo (w_tcmp G (op := .lt) (w_biB (m := .b) (ma := .b) (f := .len) G cr_len (w_cons (w_lc .b G false [("_law_one_here", 4)] (w_ival false (w_v .k 2)) (fun _ _ _ _ _ => (w_nm G.blk 4)) (fun _ _ _ _ _ => (c_one (w_tcmp G.blk (op := .eq) (w_idx .b G.blk (w_v .b 4) (w_int .b)) (w_idx .b G.blk (w_v .b 3) (w_int .b))))) (fun _ _ _ _ _ => (w_v (.own 0) 4))) w_nil)) (w_v .b 1)) (s_cons (w_mc PySem.F.slot_list_append PySem.F.type_list_append mt_append mu_append bo 2 (w_cons (w_v (.own 0) 3) w_nil))
 s_nil) s_nil)
 s_nil))
 (s_cons (w_retMv bo bn 2)
 s_nil)))
abbrev a_law_planted : Stmt := topS 13
theorem sc_law_planted : FnScope ["_law_bag_here", "_law_count", "_law_wide", "_law_way", "_law_stands", "_law_some", "_law_stand", "_law_many", "_law_k", "_law_cut", "_law_rings", "_law_found", "_law_ring"] ["_law_bag_here", "_law_count", "_law_wide"] (defScope a_law_planted) := ⟨rfl, rfl, rfl, by decide +kernel, rfl, by decide +kernel, by decide +kernel⟩
theorem t_law_planted {P : Program} {w : World} {K : PySem.W.Frag} {mg : Str → Option Value} {base : Heap} {f : Addr} {fd : FuncData} (bl : ∀ x ∈ blN, mg x = none) (c_f_law_take : CalG P w K mg base 1 "_law_take" (spD ⟨K, P, w⟩ [1, 0] 0 m_law_take)) (c_f_law_one : CalG P w K mg base 2 "_law_one" (spD ⟨K, P, w⟩ [1, 0] 0 m_law_one)) (c_f_law_flat : CalG P w K mg base 1 "_law_flat" (spD ⟨K, P, w⟩ [0] 1 m_law_flat)) (c_f_law_mixed : CalG P w K mg base 2 "_law_mixed" (spD ⟨K, P, w⟩ [1, 0] 1 m_law_mixed)) (F : L2.Fun K "_law_planted" "_law_planted" a_law_planted f fd) :
    FnG P w K mg base CX0 3 f fd ["_law_bag_here", "_law_count", "_law_wide"] (spD ⟨K, P, w⟩ [1, 0, 0] 0 m_law_planted) :=
  fn_core2 f_law_planted p_law_planted F sc_law_planted rfl rfl bl fun cdv A outer s H E G B bo bn =>
 (s_cons (w_parT G bo bn 3 4 (w_call (P := p_law_planted) (f := 5) (.own 0) G c_f_law_take (w_io 0 0 (w_ro (w_int (.own 0)) w_anil))) (w_listRg1 (.own 0) G (w_v .b 1)))
 (s_cons (s_ite bo (w_tcmp G (op := .lt) (w_v .b 3) (w_int .b)) (s_cons (w_asgLc G bo true [("_law_stand", 6)] 5 (w_ival true (w_v (.own 0) 4)) (fun _ _ _ _ _ => (w_nm G.blk 6)) (fun _ _ _ _ _ => c_nil) (fun _ _ _ _ _ => (w_tup (.own 0) (w_cons (w_v (.own 0) 6) (w_cons (w_call (P := p_law_planted) (f := 6) (.own 0) G.blk c_f_law_one (w_io 0 0 (w_ro (w_lst (.own 0) (w_cons (w_int (.own 0)) (w_cons (w_int (.own 0)) (w_cons (w_int (.own 0)) (w_cons (w_int (.own 0)) (w_cons (w_v (.own 0) 2) w_nil)))))) w_anil))) w_nil)))))
 (s_cons (s_ret bo (w_call (P := p_law_planted) (f := 9) (.own 0) G c_f_law_flat (w_ro (w_lc (.own 0) G true [("_law_stand", 6), ("_law_many", 7)] (w_ival true (w_v (.own 0) 5)) (fun _ _ _ _ _ => (w_ttup G.blk (w_tcons (w_nm G.blk 6) (w_tcons (w_nm G.blk 7) w_tnil)))) (fun _ _ _ _ _ => c_nil) (fun _ _ _ _ _ => (w_lc (.own 0) G.blk true [("_law_k", 8)] (w_irange1 true G.blk (w_cons (w_v .b 7) w_nil)) (fun _ _ _ _ _ => (w_nm G.blk.blk 8)) (fun _ _ _ _ _ => c_nil) (fun _ _ _ _ _ => (w_tup (.own 0) (w_cons (w_v (.own 0) 6) (w_cons (w_call (P := p_law_planted) (f := 6) (.own 0) G.blk.blk c_f_law_one (w_io 0 0 (w_ro (w_v (.own 0) 4) w_anil))) w_nil))))))) w_anil)))
 s_nil)) s_nil)
 (s_cons (s_ite bo (w_tcmp G (op := .eq) (w_v .b 3) (w_int .b)) (s_cons (s_ret bo (w_bin (.own 0) (op := .add) (w_lc (.own 0) G true [("_law_stand", 6)] (w_ival true (w_slc (.own 0) (w_v .k 4) (o_some (w_int .b)) o_none)) (fun _ _ _ _ _ => (w_nm G.blk 6)) (fun _ _ _ _ _ => c_nil) (fun _ _ _ _ _ => (w_tup (.own 0) (w_cons (w_v (.own 0) 6) (w_cons (w_call (P := p_law_planted) (f := 5) (.own 0) G.blk c_f_law_take (w_io 0 0 (w_ro (w_v (.own 0) 6) w_anil))) w_nil))))) (w_lst .k (w_cons (w_tup (.own 0) (w_cons (w_int (.own 0)) (w_cons (w_call (P := p_law_planted) (f := 6) (.own 0) G c_f_law_one (w_io 0 0 (w_ro (w_v (.own 0) 4) w_anil))) w_nil))) w_nil))))
 s_nil) s_nil)
 (s_cons (s_ite bo (w_tcmp G (op := .eq) (w_v .b 3) (w_int .b)) (s_cons (s_ret bo (w_listZip (.own 0) G (pa_k (w_cons (w_v (.own 0) 4) (w_cons (w_call (P := p_law_planted) (f := 7) (.own 0) G c_f_law_mixed (w_io 0 0 (w_ro (w_v (.own 0) 4) w_anil))) w_nil)))))
 s_nil) s_nil)
 (s_cons (w_parT G bo bn 9 7 (w_bin (.own 0) (op := .add) (w_int (.own 0)) (w_call (P := p_law_planted) (f := 5) .k G c_f_law_take (w_io 0 0 (w_ro (w_v (.own 0) 1) w_anil)))) (w_bin (.own 0) (op := .add) (w_int (.own 0)) (w_call (P := p_law_planted) (f := 5) .k G c_f_law_take (w_io 0 0 (w_ro (w_biB (m := (.own 0)) (ma := .b) (f := .min2) G (cr_min2 G.hc) (w_cons (w_v .b 2) (w_cons (w_int .b) w_nil))) w_anil)))))
 (s_cons (w_asg G bo 10 (w_lst (.own 0) (w_cons (w_slc (.own 0) (w_v .k 4) o_none (o_some (w_v .b 9))) (w_cons (w_slc (.own 0) (w_v .k 4) (o_some (w_v .b 9)) o_none) w_nil))))
 (s_cons (w_asg G bo 11 (w_call (P := p_law_planted) (f := 9) (.own 0) G c_f_law_flat (w_ro (w_lc (.own 0) G true [("_law_ring", 12)] (w_ival true (w_v (.own 0) 10)) (fun _ _ _ _ _ => (w_nm G.blk 12)) (fun _ _ _ _ _ => c_nil) (fun _ _ _ _ _ => (w_bin (.own 0) (op := .mul) (w_listZip .k G.blk (w_cons (w_v .k 12) (w_cons (w_bin .k (op := .add) (w_slc .k (w_v .k 12) (o_some (w_int .b)) o_none) (w_slc .k (w_v .k 12) o_none (o_some (w_int .b)))) w_nil))) (d_ife (w_tcmp G.blk (op := .eq) (w_v .b 3) (w_int .b)) (w_v .k 7) (w_int .k))))) w_anil)))
 (s_cons (s_ite bo (PW.pt (t_and (w_tcmp G (op := .lt) (w_v .b 9) (w_v .b 1)) (w_tone (w_tcmp G (op := .gt) (w_call (P := p_law_planted) (f := 5) .b G c_f_law_take (w_io 0 0 (w_ro (w_int (.own 0)) w_anil))) (w_int .b))))) (s_cons (w_asg G bo 11 (w_bin (.own 0) (op := .add) (w_lst .k (w_cons (w_tup (.own 0) (w_cons (w_call (P := p_law_planted) (f := 6) (.own 0) G c_f_law_one (w_io 0 0 (w_ro (w_idx (.own 0) G (w_v .k 10) (w_int .b)) w_anil))) (w_cons (w_call (P := p_law_planted) (f := 6) (.own 0) G c_f_law_one (w_io 0 0 (w_ro (w_idx (.own 0) G (w_v .k 10) (w_int .b)) w_anil))) w_nil))) w_nil)) (w_v .k 11)))
 s_nil) s_nil)
 (s_cons (s_ret bo (w_v (.own 0) 11))
 s_nil)))))))))
abbrev a_law_come_to : Stmt := topS 15
theorem sc_law_come_to : FnScope ["_law_firsts", "_law_pairs", "_law_seen", "_law_turn", "_law_more", "_law_source", "_law_target"] ["_law_firsts", "_law_pairs"] (defScope a_law_come_to) := ⟨rfl, rfl, rfl, by decide +kernel, rfl, by decide +kernel, by decide +kernel⟩
theorem t_law_come_to {P : Program} {w : World} {K : PySem.W.Frag} {mg : Str → Option Value} {base : Heap} {f : Addr} {fd : FuncData} (bl : ∀ x ∈ blN, mg x = none) (F : L2.Fun K "_law_come_to" "_law_come_to" a_law_come_to f fd) :
    FnG P w K mg base CX0 1 f fd ["_law_firsts", "_law_pairs"] (spD ⟨K, P, w⟩ [0, 0] 1 m_law_come_to) :=
  fn_core2 f_law_come_to p_law_come_to F sc_law_come_to rfl rfl bl fun cdv A outer s H E G B bo bn =>
 (s_cons (w_asg G bo 2 (w_biB (m := (.own 0)) (ma := .k) (f := .sorted) G (cr_sorted_ rfl rfl G.hc G.u20) (w_cons (w_biT (m := .k) (ma := .b) (f := .set) G (cr_set_ G.hc) (w_cons (w_v .b 0) w_nil)) w_nil)))
 (s_cons (w_for G bo bn (w_irange1 true G (w_cons (w_bin .b (op := .add) (w_biB (m := .k) (ma := .b) (f := .len) G cr_len (w_cons (w_v .b 1) w_nil)) (w_int .k)) w_nil)) (w_nm G 3) fun B bo bn => (s_cons (w_asg G bo 4 (w_biB (m := (.own 0)) (ma := .k) (f := .sorted) G (cr_sorted_ rfl rfl G.hc G.u20) (w_cons (w_biT (m := .k) (ma := .b) (f := .set) G (cr_set_ G.hc) (w_cons (w_lc .b G true [("_law_source", 5), ("_law_target", 6)] (w_ival true (w_v (.own 0) 1)) (fun _ _ _ _ _ => (w_ttup G.blk (w_tcons (w_nm G.blk 5) (w_tcons (w_nm G.blk 6) w_tnil)))) (fun _ _ _ _ _ => (c_one (w_tcmp G.blk (op := .isin) (w_v .b 5) (w_v .b 2)))) (fun _ _ _ _ _ => (w_v (.own 0) 6))) w_nil)) w_nil)))
 (s_cons (w_asgLc G bo true [("_law_target", 6)] 4 (w_ival true (w_v (.own 0) 4)) (fun _ _ _ _ _ => (w_nm G.blk 6)) (fun _ _ _ _ _ => (c_one (w_tcmp G.blk (op := .notin) (w_v .b 6) (w_v .b 2)))) (fun _ _ _ _ _ => (w_v (.own 0) 6)))
 (s_cons (s_ite bo (w_tcmp G (op := .eq) (w_v .b 4) (w_lst .b w_nil)) (s_cons (s_ret bo (w_biB (m := (.own 1)) (ma := .k) (f := .sorted) G (cr_sorted_ rfl rfl G.hc G.u20) (w_cons (w_v .k 2) w_nil)))
 s_nil) s_nil)
 (s_cons (w_asg G bo 2 (w_bin (.own 0) (op := .add) (w_v .k 2) (w_v .k 4)))
 s_nil)))))
 (s_cons (s_ret bo (w_biB (m := (.own 1)) (ma := .k) (f := .sorted) G (cr_sorted_ rfl rfl G.hc G.u20) (w_cons (w_v .k 2) w_nil)))
 s_nil)))
abbrev a_law_numbered : Stmt := topS 16
theorem sc_law_numbered : FnScope ["_law_pairs", "_law_counts", "_law_found", "_law_source", "_law_target", "_law_number"] ["_law_pairs"] (defScope a_law_numbered) := ⟨rfl, rfl, rfl, by decide +kernel, rfl, by decide +kernel, by decide +kernel⟩
theorem t_law_numbered {P : Program} {w : World} {K : PySem.W.Frag} {mg : Str → Option Value} {base : Heap} {f : Addr} {fd : FuncData} (bl : ∀ x ∈ blN, mg x = none) (F : L2.Fun K "_law_numbered" "_law_numbered" a_law_numbered f fd) :
    FnG P w K mg base CX0 1 f fd ["_law_pairs"] (spD ⟨K, P, w⟩ [0] 0 m_law_numbered) :=
  fn_core2 f_law_numbered p_law_numbered F sc_law_numbered rfl rfl bl fun cdv A outer s H E G B bo bn =>
 (s_cons (w_par G bo bn 1 2 (w_dnewK (.own 1)) (w_lst (.own 1) w_nil))
 (s_cons (w_for G bo bn (w_ival true (w_v (.own 0) 0)) (w_ttup G (w_tcons (w_nm G 3) (w_tcons (w_nm G 4) w_tnil))) fun B bo bn => (s_cons (w_asg G bo 5 (w_get2 (.own 0) G (w_v .k 1) (w_v (.own 0) 3) (w_int (.own 0))))
 (s_cons (w_mc PySem.F.slot_list_append PySem.F.type_list_append mt_append mu_append bo 2 (w_cons (w_tup (.own 0) (w_cons (w_v (.own 0) 3) (w_cons (w_v (.own 0) 5) (w_cons (w_v (.own 0) 4) w_nil)))) w_nil))
 (s_cons (w_set1 G bo 1 (w_bin (.own 0) (op := .add) (w_v .k 5) (w_int .k)) (w_v .b 3))
 s_nil))))
 (s_cons (s_ret bo (w_biT (m := (.own 0)) (ma := .k) (f := .tuple) G (cr_tuple rfl) (w_cons (w_biB (m := .k) (ma := .k) (f := .sorted) G (cr_sorted_ rfl rfl G.hc G.u20) (w_cons (w_v .k 2) w_nil)) w_nil)))
 s_nil)))
abbrev a_law_chart : Stmt := topS 12
theorem sc_law_chart : FnScope ["_law_bag_here", "_law_most", "_law_wide", "_law_count", "_law_stands", "_law_firsts", "_law_pairs", "_law_more", "_law_k", "_law_turn", "_law_seen", "_law_lost", "_law_stand", "_law_free", "_law_pair", "_law_names", "_law_source", "_law_target"] ["_law_bag_here", "_law_most", "_law_wide"] (defScope a_law_chart) := ⟨rfl, rfl, rfl, by decide +kernel, rfl, by decide +kernel, by decide +kernel⟩
theorem t_law_chart {P : Program} {w : World} {K : PySem.W.Frag} {mg : Str → Option Value} {base : Heap} {f : Addr} {fd : FuncData} (bl : ∀ x ∈ blN, mg x = none) (c_f_law_take : CalG P w K mg base 1 "_law_take" (spD ⟨K, P, w⟩ [1, 0] 0 m_law_take)) (c_f_law_one : CalG P w K mg base 2 "_law_one" (spD ⟨K, P, w⟩ [1, 0] 0 m_law_one)) (c_f_law_mixed : CalG P w K mg base 2 "_law_mixed" (spD ⟨K, P, w⟩ [1, 0] 1 m_law_mixed)) (c_f_law_planted : CalG P w K mg base 3 "_law_planted" (spD ⟨K, P, w⟩ [1, 0, 0] 0 m_law_planted)) (c_f_law_narrow : CalG P w K mg base 1 "_law_narrow" (spD ⟨K, P, w⟩ [0, 0] 1 m_law_narrow)) (c_f_law_come_to : CalG P w K mg base 1 "_law_come_to" (spD ⟨K, P, w⟩ [0, 0] 1 m_law_come_to)) (c_f_law_numbered : CalG P w K mg base 1 "_law_numbered" (spD ⟨K, P, w⟩ [0] 0 m_law_numbered)) (F : L2.Fun K "_law_chart" "_law_chart" a_law_chart f fd) :
    FnG P w K mg base CX0 4 f fd ["_law_bag_here", "_law_most", "_law_wide"] (spD ⟨K, P, w⟩ [1, 0, 0] 0 m_law_chart) :=
  fn_core2 f_law_chart p_law_chart F sc_law_chart rfl rfl bl fun cdv A outer s H E G B bo bn =>
 (s_cons (w_asg G bo 3 (w_bin (.own 0) (op := .add) (w_int (.own 0)) (w_call (P := p_law_chart) (f := 5) .k G c_f_law_take (w_io 0 0 (w_ro (w_v (.own 0) 1) w_anil)))))
 (s_cons (w_asg G bo 4 (w_listRg1 (.own 0) G (w_v .b 3)))
 (s_cons (w_parT G bo bn 5 6 (w_slc (.own 0) (w_call (P := p_law_chart) (f := 7) (.own 0) G c_f_law_mixed (w_io 0 0 (w_ro (w_v (.own 0) 4) w_anil))) o_none (o_some (w_call (P := p_law_chart) (f := 6) .b G c_f_law_one (w_io 0 0 (w_ro (w_lst (.own 0) (w_cons (w_int (.own 0)) (w_cons (w_int (.own 0)) (w_cons (w_int (.own 0)) (w_cons (w_int (.own 0)) w_nil))))) w_anil))))) (w_call (P := p_law_chart) (f := 11) (.own 0) G c_f_law_planted (w_io 0 0 (w_ro (w_v (.own 0) 3) (w_ro (w_v (.own 0) 2) w_anil)))))
 (s_cons (w_asgLc G bo true [("_law_k", 8)] 7 (w_irange1 true G (w_cons (w_call (P := p_law_chart) (f := 6) .b G c_f_law_one (w_io 0 0 (w_ro (w_lst (.own 0) (w_cons (w_int (.own 0)) (w_cons (w_int (.own 0)) (w_cons (w_int (.own 0)) (w_cons (w_int (.own 0)) w_nil))))) w_anil))) w_nil)) (fun _ _ _ _ _ => (w_nm G.blk 8)) (fun _ _ _ _ _ => c_nil) (fun _ _ _ _ _ => (w_tup (.own 0) (w_cons (w_call (P := p_law_chart) (f := 6) (.own 0) G.blk c_f_law_one (w_io 0 0 (w_ro (w_v (.own 0) 4) w_anil))) (w_cons (w_call (P := p_law_chart) (f := 6) (.own 0) G.blk c_f_law_one (w_io 0 0 (w_ro (w_v (.own 0) 4) w_anil))) w_nil)))))
 (s_cons (w_asg G bo 6 (w_call (P := p_law_chart) (f := 12) (.own 0) G c_f_law_narrow (w_ro (w_bin (.own 0) (op := .add) (w_v .k 6) (w_v .k 7)) (w_ro (w_v (.own 0) 2) w_anil))))
 (s_cons (w_for G bo bn (w_irange1 true G (w_cons (w_v .b 3) w_nil)) (w_nm G 9) fun B bo bn => (s_cons (w_asg G bo 10 (w_call (P := p_law_chart) (f := 13) (.own 0) G c_f_law_come_to (w_ro (w_v (.own 0) 5) (w_ro (w_v (.own 0) 6) w_anil))))
 (s_cons (w_asgLc G bo true [("_law_stand", 12)] 11 (w_ival true (w_v (.own 0) 4)) (fun _ _ _ _ _ => (w_nm G.blk 12)) (fun _ _ _ _ _ => (c_one (w_tcmp G.blk (op := .notin) (w_v .b 12) (w_v .b 10)))) (fun _ _ _ _ _ => (w_v (.own 0) 12)))
 (s_cons (w_asgLc G bo true [("_law_stand", 12)] 13 (w_ival true (w_v (.own 0) 10)) (fun _ _ _ _ _ => (w_nm G.blk 12)) (fun _ _ _ _ _ => (c_one (w_tcmp G.blk (op := .lt) (w_biB (m := .b) (ma := .b) (f := .len) G.blk cr_len (w_cons (w_lc .b G.blk true [("_law_pair", 14)] (w_ival true (w_v (.own 0) 6)) (fun _ _ _ _ _ => (w_nm G.blk.blk 14)) (fun _ _ _ _ _ => (c_one (w_tcmp G.blk.blk (op := .eq) (w_idx .b G.blk.blk (w_v .b 14) (w_int .b)) (w_v .b 12)))) (fun _ _ _ _ _ => (w_v (.own 0) 14))) w_nil)) (w_v .b 2)))) (fun _ _ _ _ _ => (w_v (.own 0) 12)))
 (s_cons (s_ite bo (PW.pt (t_and (w_tcmp G (op := .ne) (w_v .b 11) (w_lst .b w_nil)) (w_tone (PW.pt (t_or (w_tcmp G (op := .eq) (w_v .b 13) (w_lst .b w_nil)) (w_tone (w_tcmp G (op := .eq) (w_call (P := p_law_chart) (f := 5) .b G c_f_law_take (w_io 0 0 (w_ro (w_int (.own 0)) w_anil))) (w_int .b)))))))) (s_cons (w_asg G bo 5 (w_bin (.own 0) (op := .add) (w_v .k 5) (w_lst .k (w_cons (w_idx (.own 0) G (w_v .k 11) (w_int .b)) w_nil))))
 s_nil) (s_cons (s_ite bo (w_tcmp G (op := .ne) (w_v .b 11) (w_lst .b w_nil)) (s_cons (w_asg G bo 6 (w_bin (.own 0) (op := .add) (w_v (.own 0) 6) (w_lst .k (w_cons (w_tup (.own 0) (w_cons (w_call (P := p_law_chart) (f := 6) (.own 0) G c_f_law_one (w_io 0 0 (w_ro (w_v (.own 0) 13) w_anil))) (w_cons (w_idx (.own 0) G (w_v .k 11) (w_int .b)) w_nil))) w_nil))))
 s_nil) s_nil)
 s_nil))
 s_nil)))))
 (s_cons (w_asg G bo 15 (d_ife (w_tcmp G (op := .gt) (w_call (P := p_law_chart) (f := 5) .b G c_f_law_take (w_io 0 0 (w_ro (w_int (.own 0)) w_anil))) (w_int .b)) (w_call (P := p_law_chart) (f := 7) (.own 0) G c_f_law_mixed (w_io 0 0 (w_ro (w_v (.own 0) 4) w_anil))) (w_v (.own 0) 4)))
 (s_cons (w_asg G bo 6 (w_lc (.own 0) G true [("_law_source", 16), ("_law_target", 17)] (w_ival true (w_call (P := p_law_chart) (f := 7) (.own 0) G c_f_law_mixed (w_io 0 0 (w_ro (w_v (.own 0) 6) w_anil)))) (fun _ _ _ _ _ => (w_ttup G.blk (w_tcons (w_nm G.blk 16) (w_tcons (w_nm G.blk 17) w_tnil)))) (fun _ _ _ _ _ => c_nil) (fun _ _ _ _ _ => (w_tup (.own 0) (w_cons (w_idx (.own 0) G.blk (w_v .k 15) (w_v .b 16)) (w_cons (w_idx (.own 0) G.blk (w_v .k 15) (w_v .b 17)) w_nil))))))
 (s_cons (s_ret bo (w_tup (.own 0) (w_cons (w_v (.own 0) 3) (w_cons (w_biT (m := (.own 0)) (ma := .k) (f := .tuple) G (cr_tuple rfl) (w_cons (w_biB (m := .k) (ma := .k) (f := .sorted) G (cr_sorted_ rfl rfl G.hc G.u20) (w_cons (w_lc .k G true [("_law_stand", 12)] (w_ival true (w_v (.own 0) 5)) (fun _ _ _ _ _ => (w_nm G.blk 12)) (fun _ _ _ _ _ => c_nil) (fun _ _ _ _ _ => (w_idx (.own 0) G.blk (w_v .k 15) (w_v .b 12)))) w_nil)) w_nil)) (w_cons (w_call (P := p_law_chart) (f := 14) (.own 0) G c_f_law_numbered (w_ro (w_v (.own 0) 6) w_anil)) w_nil)))))
 s_nil)))))))))
abbrev a_law_pieces : Stmt := topS 17
theorem sc_law_pieces : FnScope ["_law_chart_here", "_law_pairs", "_law_found", "_law_source", "_law_number", "_law_target", "_law_reach", "_law_stand", "_law_piece", "_law_one_here"] ["_law_chart_here"] (defScope a_law_pieces) := ⟨rfl, rfl, rfl, by decide +kernel, rfl, by decide +kernel, by decide +kernel⟩
theorem t_law_pieces {P : Program} {w : World} {K : PySem.W.Frag} {mg : Str → Option Value} {base : Heap} {f : Addr} {fd : FuncData} (bl : ∀ x ∈ blN, mg x = none) (c_f_law_come_to : CalG P w K mg base 1 "_law_come_to" (spD ⟨K, P, w⟩ [0, 0] 1 m_law_come_to)) (F : L2.Fun K "_law_pieces" "_law_pieces" a_law_pieces f fd) :
    FnG P w K mg base CX0 2 f fd ["_law_chart_here"] (spD ⟨K, P, w⟩ [0] 1 m_law_pieces) :=
  fn_core2 f_law_pieces p_law_pieces F sc_law_pieces rfl rfl bl fun cdv A outer s H E G B bo bn =>
 (s_cons (w_parT G bo bn 1 2 (w_lc (.own 0) G true [("_law_source", 3), ("_law_number", 4), ("_law_target", 5)] (w_ival true (w_idx (.own 0) G (w_v .k 0) (w_int .b))) (fun _ _ _ _ _ => (w_ttup G.blk (w_tcons (w_nm G.blk 3) (w_tcons (w_nm G.blk 4) (w_tcons (w_nm G.blk 5) w_tnil))))) (fun _ _ _ _ _ => c_nil) (fun _ _ _ _ _ => (w_tup (.own 0) (w_cons (w_v (.own 0) 3) (w_cons (w_v (.own 0) 5) w_nil))))) (w_lst (.own 1) w_nil))
 (s_cons (w_asg G bo 6 (w_lc (.own 0) G true [("_law_stand", 7)] (w_irange1 true G (w_cons (w_idx .b G (w_v .b 0) (w_int .b)) w_nil)) (fun _ _ _ _ _ => (w_nm G.blk 7)) (fun _ _ _ _ _ => c_nil) (fun _ _ _ _ _ => (w_call (P := p_law_pieces) (f := 13) (.own 0) G.blk c_f_law_come_to (w_ro (w_lst (.own 0) (w_cons (w_v (.own 0) 7) w_nil)) (w_ro (w_v (.own 0) 1) w_anil))))))
 (s_cons (w_for G bo bn (w_irange1 true G (w_cons (w_idx .b G (w_v .b 0) (w_int .b)) w_nil)) (w_nm G 7) fun B bo bn => (s_cons (w_asg G bo 8 (w_biT (m := (.own 0)) (ma := .k) (f := .tuple) G (cr_tuple rfl) (w_cons (w_lc .k G true [("_law_one_here", 9)] (w_irange1 true G (w_cons (w_idx .b G (w_v .b 0) (w_int .b)) w_nil)) (fun _ _ _ _ _ => (w_nm G.blk 9)) (fun _ _ _ _ _ => (c_one (PW.pt (t_and (w_tcmp G.blk (op := .isin) (w_v .b 9) (w_idx .b G.blk (w_v .b 6) (w_v .b 7))) (w_tone (w_tcmp G.blk (op := .isin) (w_v .b 7) (w_idx .b G.blk (w_v .b 6) (w_v .b 9)))))))) (fun _ _ _ _ _ => (w_v (.own 0) 9))) w_nil)))
 (s_cons (s_ite bo (w_tcmp G (op := .notin) (w_v .b 8) (w_v .b 2)) (s_cons (w_mc PySem.F.slot_list_append PySem.F.type_list_append mt_append mu_append bo 2 (w_cons (w_v (.own 0) 8) w_nil))
 s_nil) s_nil)
 s_nil)))
 (s_cons (s_ret bo (w_biB (m := (.own 1)) (ma := .k) (f := .sorted) G (cr_sorted_ rfl rfl G.hc G.u20) (w_cons (w_v .k 2) w_nil)))
 s_nil))))
abbrev a_law_is_fed : Stmt := topS 18
theorem sc_law_is_fed : FnScope ["_law_chart_here", "_law_piece", "_law_step"] ["_law_chart_here", "_law_piece"] (defScope a_law_is_fed) := ⟨rfl, rfl, rfl, by decide +kernel, rfl, by decide +kernel, by decide +kernel⟩
theorem t_law_is_fed {P : Program} {w : World} {K : PySem.W.Frag} {mg : Str → Option Value} {base : Heap} {f : Addr} {fd : FuncData} (bl : ∀ x ∈ blN, mg x = none) (F : L2.Fun K "_law_is_fed" "_law_is_fed" a_law_is_fed f fd) :
    FnG P w K mg base CX0 1 f fd ["_law_chart_here", "_law_piece"] (spD ⟨K, P, w⟩ [0, 0] 2 m_law_is_fed) :=
  fn_core2 f_law_is_fed p_law_is_fed F sc_law_is_fed rfl rfl bl fun cdv A outer s H E G B bo bn =>
 (s_cons (s_ret bo (w_cmp (.own 2) G (op := .ne) (w_lc .b G true [("_law_step", 2)] (w_ival true (w_idx (.own 0) G (w_v .k 0) (w_int .b))) (fun _ _ _ _ _ => (w_nm G.blk 2)) (fun _ _ _ _ _ => (c_one (PW.pt (t_and (w_tcmp G.blk (op := .isin) (w_idx .b G.blk (w_v .b 2) (w_int .b)) (w_v .b 1)) (w_tone (w_tcmp G.blk (op := .notin) (w_idx .b G.blk (w_v .b 2) (w_int .b)) (w_v .b 1))))))) (fun _ _ _ _ _ => (w_v (.own 0) 2))) (w_lst .b w_nil)))
 s_nil)
abbrev a_law : Stmt := topS 19
theorem sc_law : FnScope ["_law_script", "_law_bag_here", "_law_charts", "_law_k", "_law_chart_here", "_law_pieces_here", "_law_shown", "_law_again", "_law_told", "_law_piece"] ["_law_script"] (defScope a_law) := ⟨rfl, rfl, rfl, by decide +kernel, rfl, by decide +kernel, by decide +kernel⟩
theorem t_law {P : Program} {w : World} {K : PySem.W.Frag} {mg : Str → Option Value} {base : Heap} {f : Addr} {fd : FuncData} (bl : ∀ x ∈ blN, mg x = none) (c_f_law_bag : CalG P w K mg base 1 "_law_bag" (spD ⟨K, P, w⟩ [0] 1 m_law_bag)) (c_f_law_chart : CalG P w K mg base 4 "_law_chart" (spD ⟨K, P, w⟩ [1, 0, 0] 0 m_law_chart)) (c_f_law_one : CalG P w K mg base 2 "_law_one" (spD ⟨K, P, w⟩ [1, 0] 0 m_law_one)) (c_f_law_take : CalG P w K mg base 1 "_law_take" (spD ⟨K, P, w⟩ [1, 0] 0 m_law_take)) (c_f_law_pieces : CalG P w K mg base 2 "_law_pieces" (spD ⟨K, P, w⟩ [0] 1 m_law_pieces)) (c_f_pieces_of : CalG P w K mg base 2 "pieces_of" (spD ⟨K, P, w⟩ [0] 1 m_pieces_of)) (c_f_law_alike : CalG P w K mg base 1 "_law_alike" (spD ⟨K, P, w⟩ [0, 0] 0 m_law_alike)) (c_f_law_mixed : CalG P w K mg base 2 "_law_mixed" (spD ⟨K, P, w⟩ [1, 0] 1 m_law_mixed)) (c_f_is_fed : CalG P w K mg base 1 "is_fed" (spD ⟨K, P, w⟩ [0, 0] 2 m_is_fed)) (c_f_law_is_fed : CalG P w K mg base 1 "_law_is_fed" (spD ⟨K, P, w⟩ [0, 0] 2 m_law_is_fed)) (F : L2.Fun K "law" "law" a_law f fd) :
    FnG P w K mg base CX0 5 f fd ["_law_script"] (spD ⟨K, P, w⟩ [0] 2 m_law) :=
  fn_core2 f_law p_law F sc_law rfl rfl bl fun cdv A outer s H E G B bo bn =>
 (s_cons (w_asgK G bo bn 1 0 (d_lk (w_call (P := p_law) (f := 4) (.own 1) G c_f_law_bag (w_ro (w_v (.own 0) 0) w_anil))))
 (s_cons (w_asgLcK G bo bn true [("_law_k", 3)] 2 (w_irange1 true G (w_cons (w_int .b) w_nil)) (fun _ _ _ _ _ => (w_nm G.blk 3)) (fun _ _ _ _ _ => c_nil) (fun _ _ _ _ _ => (w_call (P := p_law) (f := 10) (.own 0) G.blk c_f_law_chart (w_io 0 1 (w_ro (w_call (P := p_law) (f := 6) (.own 0) G.blk c_f_law_one (w_io 0 1 (w_ro (w_lst (.own 0) (w_cons (w_int (.own 0)) (w_cons (w_int (.own 0)) (w_cons (w_int (.own 0)) (w_cons (w_int (.own 0)) (w_cons (w_int (.own 0)) w_nil)))))) w_anil))) (w_ro (w_int (.own 0)) w_anil))))))
 (s_cons (s_ite bo (w_tcmp G (op := .eq) (w_call (P := p_law) (f := 5) .b G c_f_law_take (w_io 0 1 (w_ro (w_int (.own 0)) w_anil))) (w_int .b)) (s_cons (w_mc PySem.F.slot_list_append PySem.F.type_list_append mt_append mu_append bo 2 (w_cons (w_call (P := p_law) (f := 10) (.own 0) G c_f_law_chart (w_io 0 1 (w_ro (w_int (.own 0)) (w_ro (w_int (.own 0)) w_anil)))) w_nil))
 s_nil) s_nil)
 (s_cons (w_for G bo bn (w_ival true (w_bin (.own 0) (op := .add) (w_v .k 2) (w_slc .k (w_v .k 2) o_none (o_some (w_int .b))))) (w_nm G 4) fun B bo bn => (s_cons (w_par G bo bn 5 6 (w_call (P := p_law) (f := 15) (.own 0) G c_f_law_pieces (w_ro (w_v (.own 0) 4) w_anil)) (w_biB (m := (.own 0)) (ma := .b) (f := .repr) G (cr_repr G.hg G.u20) (w_cons (w_v .b 4) w_nil)))
 (s_cons (w_for G bo bn (w_irange1 true G (w_cons (w_int .b) w_nil)) (w_nm G 7) fun B bo bn => (s_cons (w_asgK G bo bn 8 0 (d_lk (w_call (P := p_law) (f := 2) (.own 1) G c_f_pieces_of (w_ro (w_v (.own 0) 4) w_anil))))
 (s_cons (s_ite bo (t_not (w_tval (w_bcall (P := p_law) (f := 8) .b G c_f_law_alike (w_cons (w_v .b 8) (w_cons (w_v .b 5) w_nil))))) (s_cons (s_ret bo (w_bl (.own 2)))
 s_nil) s_nil)
 (s_cons (w_mc PySem.F.slot_list_append PySem.F.type_list_append mt_append mu_append bo 8 (w_cons (w_tup (.own 0) (w_cons (w_int (.own 0)) w_nil)) w_nil))
 (s_cons (w_mc0 PySem.F.slot_list_reverse PySem.F.type_list_reverse mt_reverse mu_reverse bo 8)
 s_nil)))))
 (s_cons (w_for G bo bn (w_ival true (w_call (P := p_law) (f := 7) (.own 0) G c_f_law_mixed (w_io 0 1 (w_ro (w_v (.own 0) 5) w_anil)))) (w_nm G 9) fun B bo bn => (s_cons (s_ite bo (t_not (w_tval (w_call (P := p_law) (f := 8) .b G c_f_law_alike (w_ro (w_call (P := p_law) (f := 3) (.own 0) G c_f_is_fed (w_ro (w_v (.own 0) 4) (w_ro (w_v (.own 0) 9) w_anil))) (w_ro (w_call (P := p_law) (f := 16) (.own 0) G c_f_law_is_fed (w_ro (w_v (.own 0) 4) (w_ro (w_v (.own 0) 9) w_anil))) w_anil))))) (s_cons (s_ret bo (w_bl (.own 2)))
 s_nil) s_nil)
 s_nil))
 (s_cons (s_ite bo (w_tcmp G (op := .ne) (w_biB (m := .b) (ma := .b) (f := .repr) G (cr_repr G.hg G.u20) (w_cons (w_v .b 4) w_nil)) (w_v .b 6)) (s_cons (s_ret bo (w_bl (.own 2)))
 s_nil) s_nil)
 s_nil)))))
 (s_cons (s_ret bo (w_bl (.own 2)))
 s_nil)))))
theorem all_law {P : Program} {w : World} {K : PySem.W.Frag} {h : Heap} {mg : Str → Option Value} {fa : Addr} (X : K.In h) (G : h.Ns mainGlobals mg) (hfa : mg "law" = some (.ref fa))
    (d_neighbours_of : Df K "neighbours_of" a_neighbours_of)
    (d_reached_from : Df K "reached_from" a_reached_from)
    (d_pieces_of : Df K "pieces_of" a_pieces_of)
    (d_is_fed : Df K "is_fed" a_is_fed)
    (d_law_bag : Df K "_law_bag" a_law_bag)
    (d_law_take : Df K "_law_take" a_law_take)
    (d_law_one : Df K "_law_one" a_law_one)
    (d_law_mixed : Df K "_law_mixed" a_law_mixed)
    (d_law_alike : Df K "_law_alike" a_law_alike)
    (d_law_flat : Df K "_law_flat" a_law_flat)
    (d_law_narrow : Df K "_law_narrow" a_law_narrow)
    (d_law_planted : Df K "_law_planted" a_law_planted)
    (d_law_come_to : Df K "_law_come_to" a_law_come_to)
    (d_law_numbered : Df K "_law_numbered" a_law_numbered)
    (d_law_chart : Df K "_law_chart" a_law_chart)
    (d_law_pieces : Df K "_law_pieces" a_law_pieces)
    (d_law_is_fed : Df K "_law_is_fed" a_law_is_fed)
    (d_law : Df K "law" a_law)
    (z : (blN.all fun x => decide (PySem.W.nsIn K mainGlobals x = some none)) = true) :
    ∃ fd : FuncData, (∀ (s : Shared) (u : Value), BindsTo s fd ⟨[u], []⟩ [("_law_script", u)]) ∧ ∀ base : Heap, K.In base → base.Ns mainGlobals mg → FnG P w K mg base CX0 5 fa fd ["_law_script"] (spD ⟨K, P, w⟩ [0] 2 m_law) := by
  have bl : ∀ x ∈ blN, mg x = none := fun x hx => PySem.W.mg_none_of X G (of_decide_eq_true (List.all_eq_true.mp z x hx))
  obtain ⟨f, fd, F, a⟩ := d_law
  obtain rfl : fa = f := by have e := hfa.symm.trans (PySem.W.mg_of X G a); cases e; rfl
  refine ⟨fd, fun s u => ?_, fun base _ _ => ?_⟩
  · obtain ⟨oc, od, kV, doc, pm, an, cdv, ct, osl, rfl, lk, hcd⟩ := F.ex
    exact .of_eq rfl
  · have c_f_neighbours_of : CalG P w K mg base 1 "neighbours_of" (spD ⟨K, P, w⟩ [0, 0, 0] 2 m_neighbours_of) := d_neighbours_of.cal X G (ps := ["chart", "source_at", "target_at"]) (fun _ _ _ _ _ _ us hl => match us, hl with | [_, _, _], _ => rfl) fun f fd F => t_neighbours_of bl  F
    have c_f_reached_from : CalG P w K mg base 1 "reached_from" (spD ⟨K, P, w⟩ [0, 0] 1 m_reached_from) := d_reached_from.cal X G (ps := ["neighbours", "stand"]) (fun _ _ _ _ _ _ us hl => match us, hl with | [_, _], _ => rfl) fun f fd F => t_reached_from bl  F
    have c_f_pieces_of : CalG P w K mg base 2 "pieces_of" (spD ⟨K, P, w⟩ [0] 1 m_pieces_of) := d_pieces_of.cal X G (ps := ["chart"]) (fun _ _ _ _ _ _ us hl => match us, hl with | [_], _ => rfl) fun f fd F => t_pieces_of bl c_f_neighbours_of c_f_reached_from F
    have c_f_is_fed : CalG P w K mg base 1 "is_fed" (spD ⟨K, P, w⟩ [0, 0] 2 m_is_fed) := d_is_fed.cal X G (ps := ["chart", "piece"]) (fun _ _ _ _ _ _ us hl => match us, hl with | [_, _], _ => rfl) fun f fd F => t_is_fed bl  F
    have c_f_law_bag : CalG P w K mg base 1 "_law_bag" (spD ⟨K, P, w⟩ [0] 1 m_law_bag) := d_law_bag.cal X G (ps := ["_law_script"]) (fun _ _ _ _ _ _ us hl => match us, hl with | [_], _ => rfl) fun f fd F => t_law_bag bl  F
    have c_f_law_take : CalG P w K mg base 1 "_law_take" (spD ⟨K, P, w⟩ [1, 0] 0 m_law_take) := d_law_take.cal X G (ps := ["_law_bag_here", "_law_many"]) (fun _ _ _ _ _ _ us hl => match us, hl with | [_, _], _ => rfl) fun f fd F => t_law_take bl  F
    have c_f_law_one : CalG P w K mg base 2 "_law_one" (spD ⟨K, P, w⟩ [1, 0] 0 m_law_one) := d_law_one.cal X G (ps := ["_law_bag_here", "_law_things"]) (fun _ _ _ _ _ _ us hl => match us, hl with | [_, _], _ => rfl) fun f fd F => t_law_one bl c_f_law_take F
    have c_f_law_mixed : CalG P w K mg base 2 "_law_mixed" (spD ⟨K, P, w⟩ [1, 0] 1 m_law_mixed) := d_law_mixed.cal X G (ps := ["_law_bag_here", "_law_things"]) (fun _ _ _ _ _ _ us hl => match us, hl with | [_, _], _ => rfl) fun f fd F => t_law_mixed bl c_f_law_take F
    have c_f_law_alike : CalG P w K mg base 1 "_law_alike" (spD ⟨K, P, w⟩ [0, 0] 0 m_law_alike) := d_law_alike.cal X G (ps := ["_law_found", "_law_due"]) (fun _ _ _ _ _ _ us hl => match us, hl with | [_, _], _ => rfl) fun f fd F => t_law_alike bl  F
    have c_f_law_flat : CalG P w K mg base 1 "_law_flat" (spD ⟨K, P, w⟩ [0] 1 m_law_flat) := d_law_flat.cal X G (ps := ["_law_rows"]) (fun _ _ _ _ _ _ us hl => match us, hl with | [_], _ => rfl) fun f fd F => t_law_flat bl  F
    have c_f_law_narrow : CalG P w K mg base 1 "_law_narrow" (spD ⟨K, P, w⟩ [0, 0] 1 m_law_narrow) := d_law_narrow.cal X G (ps := ["_law_pairs", "_law_wide"]) (fun _ _ _ _ _ _ us hl => match us, hl with | [_, _], _ => rfl) fun f fd F => t_law_narrow bl  F
    have c_f_law_planted : CalG P w K mg base 3 "_law_planted" (spD ⟨K, P, w⟩ [1, 0, 0] 0 m_law_planted) := d_law_planted.cal X G (ps := ["_law_bag_here", "_law_count", "_law_wide"]) (fun _ _ _ _ _ _ us hl => match us, hl with | [_, _, _], _ => rfl) fun f fd F => t_law_planted bl c_f_law_take c_f_law_one c_f_law_flat c_f_law_mixed F
    have c_f_law_come_to : CalG P w K mg base 1 "_law_come_to" (spD ⟨K, P, w⟩ [0, 0] 1 m_law_come_to) := d_law_come_to.cal X G (ps := ["_law_firsts", "_law_pairs"]) (fun _ _ _ _ _ _ us hl => match us, hl with | [_, _], _ => rfl) fun f fd F => t_law_come_to bl  F
    have c_f_law_numbered : CalG P w K mg base 1 "_law_numbered" (spD ⟨K, P, w⟩ [0] 0 m_law_numbered) := d_law_numbered.cal X G (ps := ["_law_pairs"]) (fun _ _ _ _ _ _ us hl => match us, hl with | [_], _ => rfl) fun f fd F => t_law_numbered bl  F
    have c_f_law_chart : CalG P w K mg base 4 "_law_chart" (spD ⟨K, P, w⟩ [1, 0, 0] 0 m_law_chart) := d_law_chart.cal X G (ps := ["_law_bag_here", "_law_most", "_law_wide"]) (fun _ _ _ _ _ _ us hl => match us, hl with | [_, _, _], _ => rfl) fun f fd F => t_law_chart bl c_f_law_take c_f_law_one c_f_law_mixed c_f_law_planted c_f_law_narrow c_f_law_come_to c_f_law_numbered F
    have c_f_law_pieces : CalG P w K mg base 2 "_law_pieces" (spD ⟨K, P, w⟩ [0] 1 m_law_pieces) := d_law_pieces.cal X G (ps := ["_law_chart_here"]) (fun _ _ _ _ _ _ us hl => match us, hl with | [_], _ => rfl) fun f fd F => t_law_pieces bl c_f_law_come_to F
    have c_f_law_is_fed : CalG P w K mg base 1 "_law_is_fed" (spD ⟨K, P, w⟩ [0, 0] 2 m_law_is_fed) := d_law_is_fed.cal X G (ps := ["_law_chart_here", "_law_piece"]) (fun _ _ _ _ _ _ us hl => match us, hl with | [_, _], _ => rfl) fun f fd F => t_law_is_fed bl  F
    exact t_law bl c_f_law_bag c_f_law_chart c_f_law_one c_f_law_take c_f_law_pieces c_f_pieces_of c_f_law_alike c_f_law_mixed c_f_is_fed c_f_law_is_fed F
theorem law_end {ns : List Int} (hl : ns.length ≤ 63) (_ : ∀ z ∈ ns, Builtin.Int.intBits z ≤ 1048576) : m_law [.lst (ns.map D.int)] [] = .ok (.bl true, []) := law_ok hl
end C

open PySem PySem.W PyProof.Rows
set_option maxHeartbeats 0 in
theorem PySem.Challenge.cw_homeletters_k18_pieces_and_feeding_holds : PySem.Challenge.rw_homeletters_k18_pieces_and_feeding.Holds := by
  w_on; o_law; k_head; (case hw => w_witness2)
  k_fill
  refine C.head_walk (l := PySem.Challenge.rw_homeletters_k18_pieces_and_feeding) (n := 63) (k := 5) (x := "_law_script") (m := C.m_law) rfl (by decide) rfl ⟨rfl, by decide, by decide⟩ (fun w h Y => PySem.W.kIn_of Y) (fun w => by rfl) ?F (fun ns hl hb => C.law_end hl hb)
  case F =>
    intro w mg fa h KX G hmg
    refine' C.all_law KX G hmg (C.df_mk ?a0 ?l0 ?c0 ?k0) (C.df_mk ?a1 ?l1 ?c1 ?k1) (C.df_mk ?a2 ?l2 ?c2 ?k2) (C.df_mk ?a3 ?l3 ?c3 ?k3) (C.df_mk ?a4 ?l4 ?c4 ?k4) (C.df_mk ?a5 ?l5 ?c5 ?k5) (C.df_mk ?a6 ?l6 ?c6 ?k6) (C.df_mk ?a7 ?l7 ?c7 ?k7) (C.df_mk ?a8 ?l8 ?c8 ?k8) (C.df_mk ?a9 ?l9 ?c9 ?k9) (C.df_mk ?a10 ?l10 ?c10 ?k10) (C.df_mk ?a11 ?l11 ?c11 ?k11) (C.df_mk ?a12 ?l12 ?c12 ?k12) (C.df_mk ?a13 ?l13 ?c13 ?k13) (C.df_mk ?a14 ?l14 ?c14 ?k14) (C.df_mk ?a15 ?l15 ?c15 ?k15) (C.df_mk ?a16 ?l16 ?c16 ?k16) (C.df_mk ?a17 ?l17 ?c17 ?k17) ?z
    (case z => rfl)
    (case a0 => k_is); (case l0 => k_is); (case c0 => k_is); (case k0 => k_is)
    (case a1 => k_is); (case l1 => k_is); (case c1 => k_is); (case k1 => k_is)
    (case a2 => k_is); (case l2 => k_is); (case c2 => k_is); (case k2 => k_is)
    (case a3 => k_is); (case l3 => k_is); (case c3 => k_is); (case k3 => k_is)
    (case a4 => k_is); (case l4 => k_is); (case c4 => k_is); (case k4 => k_is)
    (case a5 => k_is); (case l5 => k_is); (case c5 => k_is); (case k5 => k_is)
    (case a6 => k_is); (case l6 => k_is); (case c6 => k_is); (case k6 => k_is)
    (case a7 => k_is); (case l7 => k_is); (case c7 => k_is); (case k7 => k_is)
    (case a8 => k_is); (case l8 => k_is); (case c8 => k_is); (case k8 => k_is)
    (case a9 => k_is); (case l9 => k_is); (case c9 => k_is); (case k9 => k_is)
    (case a10 => k_is); (case l10 => k_is); (case c10 => k_is); (case k10 => k_is)
    (case a11 => k_is); (case l11 => k_is); (case c11 => k_is); (case k11 => k_is)
    (case a12 => k_is); (case l12 => k_is); (case c12 => k_is); (case k12 => k_is)
    (case a13 => k_is); (case l13 => k_is); (case c13 => k_is); (case k13 => k_is)
    (case a14 => k_is); (case l14 => k_is); (case c14 => k_is); (case k14 => k_is)
    (case a15 => k_is); (case l15 => k_is); (case c15 => k_is); (case k15 => k_is)
    (case a16 => k_is); (case l16 => k_is); (case c16 => k_is); (case k16 => k_is)
    (case a17 => k_is); (case l17 => k_is); (case c17 => k_is); (case k17 => k_is)
