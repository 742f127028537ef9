import PyProof.Rows.All
import Wide.All
import OpenK.AllK
import Wide.FinOn
import HandS.ForMost
import PySem.PyData
import PySem.Str
import HandS.Conv
import HandS.Deep
import HandS.TupAny
import HandS.TupMul
import HandS.Rev
import HandS.Zip
import HandS.Style
import HandS.IsInst
import HandS.Walk
import KE.KDictKeyed
import HandS.Dict
import HandS.Wide
import HandS.SetFor
import HandS.TupLe
import KE.KTupSum
import HandS.TupLen
import KE.GoesEnum
import KE.GoesZip
import KE.GoesMore
import HandS.SortOrd
import HandS.SortKw
import HandS.Keys
import KE.DataFind
import KE.DataMinMax
import KE.SortData
import HandS.Strs
import HandS.TupSets
import KE.KDictDisplayH
import KE.KDictWalk
import KE.KDictSum
import KE.KDictCopyH
import KE.KDictPairs
import KE.KStateDown
import PyProof.Rows.Range3
import PyProof.WalksMore
import PyProof.SumAny
import KE.SortKeyHeap
import HandS.Codes
import PySem.Challenge.RW_countdoors_k33_known_times_and_sums
set_option Elab.async false
set_option linter.all false
set_option maxRecDepth 100000
namespace PV
open PySem
abbrev D := PyData
/-- the script: it is never changed, and only asked for its length and its items -/
abbrev script (ns : List Int) : D := .dict [(.none, .list (ns.map .int))]
inductive Cell where
  | lst (ds : List D) | dct (kvs : List (D × D))
inductive Mode where
  | own | ref | lock
  deriving DecidableEq
inductive Slot where
  | d (x : D) | m (k : Mode) (c : Cell)
abbrev Sg := List (Option Slot)
/-- what an expression gives: data; the object of a slot; a new object -/
inductive W where
  | d (x : D) | own (i : Nat) | new (c : Cell)
/-- an argument -/
inductive A where
  | d (x : D) | m (c : Cell)
/-- what an operation reads -/
inductive RV where
  | d (x : D) | dct (kvs : List (D × D))
inductive Op1 where
  | neg | not | len | tuple | list | sorted | sum | max | min | abs | int | str | rev | sortedset | lenset | sortedlen | dict
  | sorted_keys | max_values | list_keys | sorted_values | sum_values | list_values
  deriving DecidableEq
inductive Op2 where
  | add | sub | mul | fdiv | mod | pow | eq | ne | lt | le | gt | ge | isin | notin | is_ | isnot | ix | index | count | max2 | min2 | sumr | sums
  deriving DecidableEq
inductive Ty where
  | int | bool | tuple | str | list
  deriving DecidableEq
inductive ItK where
  | val | range1 | range2 | range3 | enum | zip | keys | values | range4
  deriving DecidableEq
inductive RngK where
  | list_ | tuple_
  deriving DecidableEq
inductive Tgt where
  | name (i : Nat) | tnil | tcons (a b : Tgt)
inductive E where
  | nil | cons (a b : E)
  | var (i : Nat) | con (d : D) | glob (x : String) (d : D)
  | op1 (f : Op1) (a : E) | op2 (f : Op2) (a b : E)
  | and_ (a b : E) | or_ (a b : E) | ite (c a b : E)
  | chain (f g : Op2) (a b c : E)
  | tup (es : E) | lst (es : E) | dict0 | dict1 (k v : E)
  | slice (a lo hi : E)
  | get (d k z : E)
  | isin1 (a : E) (t : Ty) | isin2 (a : E) (t u : Ty)
  | rng (r : RngK) (k : ItK) (a b : E)
  | call (f : String) (args : E)
  | comp (elt : E) (t : Tgt) (k : ItK) (a b : E) (c : E)
  | pop (i : Nat)
  | meth (f : Op2) (a b : E)
inductive S where
  | skip | seq (a b : S) | ifs (c : E) (a b : S) | whl (c : E) (b : S) | for_ (t : Tgt) (k : ItK) (a b : E) (body : S)
  | set (i : Nat) (e : E) | setTup (is : List Nat) (es : E) | unpack (t : Tgt) (e : E)
  | setIx (i : Nat) (k e : E) | setIx2 (i : Nat) (k : E) (j : Nat) (l : E) (a b : E)
  | aug (i : Nat) (f : Op2) (e : E) | augIx (i : Nat) (k : E) (f : Op2) (e : E)
  | app (i : Nat) (e : E) | drop (e : E) | ret (e : E) | brk | raise
  | setMix (ts : List (Nat × E)) (es : E)
/-- how a parameter is taken: as data; an object that may be changed; an object that is only read -/
inductive PM where
  | val | ref | peek
  deriving DecidableEq
structure Def where
  n : Nat
  refs : List PM
  body : S
inductive Out where
  | nx | brk | ret (w : W)
mutual
def eqD : D → D → Bool
  | .none, .none => true
  | .bool a, .bool b => a == b
  | .bool a, .int b => (if a then 1 else 0) == b
  | .int a, .bool b => a == (if b then 1 else 0)
  | .int a, .int b => a == b
  | .str a, .str b => a == b
  | .list a, .list b => eqDs a b
  | .tuple a, .tuple b => eqDs a b
  | _, _ => false
def eqDs : List D → List D → Bool
  | [], [] => true
  | x :: xs, y :: ys => eqD x y && eqDs xs ys
  | _, _ => false
end
mutual
def okD : D → Nat → Bool
  | .none, _ => true
  | .bool _, _ => true
  | .int _, _ => true
  | .str _, _ => true
  | .list _, 0 => false
  | .tuple _, 0 => false
  | .list xs, n + 1 => okDs xs n
  | .tuple xs, n + 1 => okDs xs n
  | .dict _, _ => false
def okDs : List D → Nat → Bool
  | [], _ => true
  | x :: xs, n => okD x n && okDs xs n
end
abbrev ok (d : D) : Bool := okD d 60
abbrev oks (ds : List D) : Bool := okDs ds 60
mutual
def ltD : D → D → Bool
  | .int a, .int b => decide (a < b)
  | .tuple a, .tuple b => ltDs a b
  | _, _ => false
def ltDs : List D → List D → Bool
  | [], [] => false
  | [], _ :: _ => true
  | _ :: _, [] => false
  | x :: xs, y :: ys => if eqD x y then ltDs xs ys else ltD x y
end
mutual
def cmpOk : D → D → Bool
  | .int _, .int _ => true
  | .tuple a, .tuple b => cmpOks a b
  | _, _ => false
def cmpOks : List D → List D → Bool
  | x :: xs, y :: ys => cmpOk x y && cmpOks xs ys
  | _, _ => true
end
/-- a stable sort by insertion: x goes behind all that are not greater -/
def insD (lt : D → D → Bool) (x : D) : List D → List D
  | [] => [x]
  | y :: ys => if lt x y then x :: y :: ys else y :: insD lt x ys
def sortD (lt : D → D → Bool) (xs : List D) : List D := xs.foldl (fun acc x => insD lt x acc) []
abbrev ltB : D → D → Bool := ltD
/-- all pairs can be compared -/
def cmpAll (xs : List D) : Bool := okDs xs 20 && xs.all fun x => xs.all fun y => cmpOk x y
def lenD : D → Nat
  | .tuple xs => xs.length
  | .list xs => xs.length
  | _ => 0
def isSeq : D → Bool
  | .tuple _ => true
  | .list _ => true
  | _ => false
def isInt : D → Bool
  | .int _ => true
  | _ => false
def intOf : D → Int
  | .int i => i
  | _ => 0
def sumI (ds : List D) : Int := ds.foldl (fun a d => a + intOf d) 0
def seqOf : D → Option (List D)
  | .tuple xs => some xs
  | .list xs => some xs
  | _ => none
def lenLine : Nat := 2 ^ 24
def dfind (kvs : List (D × D)) (k : D) : Option D := (kvs.find? fun p => eqD p.1 k).map (·.2)
def dput (kvs : List (D × D)) (k v : D) : List (D × D) :=
  if kvs.any (fun p => eqD p.1 k) then kvs.map (fun p => if eqD p.1 k then (p.1, v) else p) else kvs ++ [(k, v)]
mutual
def keyIn : D → Nat → Bool
  | .int _, _ => true
  | .bool _, _ => true
  | .tuple xs, n + 1 => keyIns xs n
  | _, _ => false
def keyIns : List D → Nat → Bool
  | [], _ => true
  | x :: xs, n => keyIn x n && keyIns xs n
end
/-- what may be a key: a tuple of ints, bools and such tuples -/
def keyOk : D → Bool
  | .tuple xs => keyIns xs 7
  | _ => false
def atI (xs : List D) (i : Int) : Option D :=
  if 0 ≤ i then xs[i.toNat]? else if 0 ≤ i + xs.length then xs[(i + xs.length).toNat]? else none
/-- how big numbers may be where it matters -/
def bigLine : Nat := 2 ^ 4096
def small (i : Int) : Bool := i.natAbs < bigLine
def mulOk (i j : Int) : Bool := i.natAbs < 2 ^ 64 || j.natAbs < 2 ^ 64 || (small i && small j)
def clip (n : Nat) (i : Int) : Nat := if i < 0 then (i + n).toNat else min i.toNat n
/-- xs[lo:hi] -/
def cutD (xs : List D) (lo hi : Option Int) : List D :=
  let a := match lo with | none => 0 | some i => clip xs.length i
  let b := match hi with | none => xs.length | some i => clip xs.length i
  (xs.drop a).take (b - a)
def isNone : D → Bool
  | .none => true
  | _ => false
def least (lt : D → D → Bool) : List D → Option D
  | [] => none
  | x :: xs => some (xs.foldl (fun b y => if lt y b then y else b) x)
def greatest (lt : D → D → Bool) : List D → Option D
  | [] => none
  | x :: xs => some (xs.foldl (fun b y => if lt b y then y else b) x)
def rep (n : Nat) (xs : List D) : List D := (List.replicate n xs).flatten
def pairOf : D → Option (D × D)
  | .tuple [a, b] => some (a, b)
  | _ => none
def pairsOf : List D → Option (List (D × D))
  | [] => some []
  | x :: xs => do let p ← pairOf x; let r ← pairsOf xs; pure (p :: r)
def a1_neg : RV → Option W
  | .d (.int i) => some (.d (.int (-i)))
  | _ => none
def a1_not : RV → Option W
  | .d (.bool b) => some (.d (.bool (!b)))
  | _ => none
def a1_len : RV → Option W
  | .d (.tuple xs) => some (.d (.int xs.length))
  | .d (.list xs) => some (.d (.int xs.length))
  | .d (.str x) => some (.d (.int x.length))
  | .dct kvs => if kvs.length ≤ 16777216 then some (.d (.int kvs.length)) else none
  | .d (.dict [(.none, .list xs)]) => some (.d (.int xs.length))
  | _ => none
def a1_tuple : RV → Option W
  | .d (.tuple xs) => some (.d (.tuple xs))
  | .d (.list xs) => some (.d (.tuple xs))
  | _ => none
def a1_list : RV → Option W
  | .d (.tuple xs) => some (.new (.lst xs))
  | .d (.list xs) => some (.new (.lst xs))
  | .dct kvs => if kvs.length ≤ 16777216 then some (.new (.lst (kvs.map (·.1)))) else none
  | _ => none
def a1_sorted : RV → Option W
  | .d (.tuple xs) => if cmpAll xs then some (.new (.lst (sortD ltB xs))) else none
  | .d (.list xs) => if cmpAll xs then some (.new (.lst (sortD ltB xs))) else none
  | _ => none
/-- an ascending list of unlike ints, with x -/
def insU (x : Int) : List Int → List Int
  | [] => [x]
  | y :: ys => if x < y then x :: y :: ys else if x = y then y :: ys else y :: insU x ys
def setI (ns : List Int) : List Int := ns.foldl (fun a x => insU x a) []
def smallI : D → Bool
  | .int i => decide (0 ≤ i) && decide (i < 64)
  | _ => false
/-- a tuple of small ints -/
def isIntTup : D → Bool
  | .tuple xs => xs.all smallI
  | _ => false
def dedup : List D → List D
  | [] => []
  | x :: xs => if xs.any (eqD x) then dedup xs else x :: dedup xs
def sortedSet (xs : List D) : Option W :=
  if xs.all isInt && decide (xs.length < 64) then some (.new (.lst ((setI (xs.map intOf)).map .int)))
  else if xs.all isIntTup && decide (xs.length < 64) then some (.new (.lst (sortD ltB (dedup xs)))) else none
def a1_sortedset : RV → Option W
  | .d (.tuple xs) => sortedSet xs
  | .d (.list xs) => sortedSet xs
  | _ => none
def lenSet (xs : List D) : Option W := if xs.all isInt && decide (xs.length < 64) then some (.d (.int (setI (xs.map intOf)).length)) else none
def a1_lenset : RV → Option W
  | .d (.tuple xs) => lenSet xs
  | .d (.list xs) => lenSet xs
  | _ => none
def a1_sortedlen : RV → Option W
  | .d (.list xs) => if xs.all isSeq then some (.new (.lst (sortD (fun a b => decide (lenD a < lenD b)) xs))) else none
  | _ => none
def a1_sum : RV → Option W
  | .d (.list xs) => if xs.all isInt then some (.d (.int (sumI xs))) else none
  | .d (.tuple xs) => if xs.all isInt then some (.d (.int (sumI xs))) else none
  | _ => none
def a1_max : RV → Option W
  | .d (.list xs) => if cmpAll xs then (greatest ltB xs).map W.d else none
  | .d (.tuple xs) => if cmpAll xs then (greatest ltB xs).map W.d else none
  | _ => none
def a1_min : RV → Option W
  | .d (.list xs) => if cmpAll xs then (least ltB xs).map W.d else none
  | .d (.tuple xs) => if cmpAll xs then (least ltB xs).map W.d else none
  | _ => none
def a1_abs : RV → Option W
  | .d (.int i) => some (.d (.int (if i < 0 then -i else i)))
  | _ => none
def a1_int : RV → Option W
  | .d (.int i) => some (.d (.int i))
  | .d (.bool b) => some (.d (.int (if b then 1 else 0)))
  | _ => none
def a1_rev : RV → Option W
  | .d (.list xs) => some (.new (.lst xs.reverse))
  | .d (.tuple xs) => some (.d (.tuple xs.reverse))
  | _ => none
def dictOf (xs : List D) : Option W := match pairsOf xs with
  | some ps => if ps.all (fun p => keyOk p.1) && decide (ps.length ≤ 16777216) then some (.new (.dct (ps.foldl (fun m p => dput m p.1 p.2) []))) else none
  | none => none
def a1_dict : RV → Option W
  | .d (.tuple xs) => dictOf xs
  | .d (.list xs) => dictOf xs
  | _ => none
def a1_list_keys : RV → Option W
  | .dct kvs => some (.new (.lst (kvs.map (·.1))))
  | _ => none
def a1_list_values : RV → Option W
  | .dct kvs => some (.new (.lst (kvs.map (·.2))))
  | _ => none
def a1_sorted_keys : RV → Option W
  | .dct kvs => if cmpAll (kvs.map (·.1)) && decide (kvs.length ≤ 16777216) then some (.new (.lst (sortD ltB (kvs.map (·.1))))) else none
  | _ => none
def a1_sorted_values : RV → Option W
  | .dct kvs => if cmpAll (kvs.map (·.2)) then some (.new (.lst (sortD ltB (kvs.map (·.2))))) else none
  | _ => none
def a1_max_values : RV → Option W
  | .dct kvs => if cmpAll (kvs.map (·.2)) then (greatest ltB (kvs.map (·.2))).map W.d else none
  | _ => none
def a1_sum_values : RV → Option W
  | .dct kvs => if (kvs.map (·.2)).all isInt then some (.d (.int (sumI (kvs.map (·.2))))) else none
  | _ => none
def ap1 : Op1 → RV → Option W
  | .neg => a1_neg
  | .not => a1_not
  | .len => a1_len
  | .tuple => a1_tuple
  | .list => a1_list
  | .sorted => a1_sorted
  | .sortedset => a1_sortedset
  | .lenset => a1_lenset
  | .sortedlen => a1_sortedlen
  | .sum => a1_sum
  | .max => a1_max
  | .min => a1_min
  | .abs => a1_abs
  | .int => a1_int
  | .rev => a1_rev
  | .dict => a1_dict
  | .list_keys => a1_list_keys
  | .list_values => a1_list_values
  | .sorted_keys => a1_sorted_keys
  | .sorted_values => a1_sorted_values
  | .max_values => a1_max_values
  | .sum_values => a1_sum_values
  | _ => fun _ => none
def a2_add : RV → RV → Option W
  | .d (.int i), .d (.int j) => some (.d (.int (i + j)))
  | .d (.tuple a), .d (.tuple b) => if a.length + b.length ≤ lenLine then some (.d (.tuple (a ++ b))) else none
  | .d (.list a), .d (.list b) => if a.length + b.length ≤ lenLine then some (.new (.lst (a ++ b))) else none
  | _, _ => none
def a2_sub : RV → RV → Option W
  | .d (.int i), .d (.int j) => some (.d (.int (i - j)))
  | _, _ => none
def a2_mul : RV → RV → Option W
  | .d (.int i), .d (.int j) => if mulOk i j then some (.d (.int (i * j))) else none
  | .d (.list a), .d (.int j) => if j < 2 ^ 62 ∧ -(2 ^ 62) < j ∧ a.length * j.toNat ≤ lenLine then some (.new (.lst (rep j.toNat a))) else none
  | .d (.tuple (x :: xs)), .d (.int j) => if 1 ≤ j ∧ j ≤ 1000 ∧ (x :: xs).length ≤ 1000 then some (.d (.tuple (rep j.toNat (x :: xs)))) else none
  | _, _ => none
def a2_fdiv : RV → RV → Option W
  | .d (.int i), .d (.int j) => if j ≠ 0 ∧ (j.natAbs < 2 ^ 30 ∨ (0 < j ∧ small j = true)) then some (.d (.int (i.fdiv j))) else none
  | _, _ => none
def a2_mod : RV → RV → Option W
  | .d (.int i), .d (.int j) => if j ≠ 0 then some (.d (.int (i.fmod j))) else none
  | _, _ => none
def a2_pow : RV → RV → Option W
  | .d (.int i), .d (.int j) => if 0 ≤ j ∧ j ≤ 1000 ∧ i.natAbs < 2 ^ 64 then some (.d (.int (i ^ j.toNat))) else none
  | _, _ => none
def a2_eq : RV → RV → Option W
  | .d a, .d b => if ok a && ok b then some (.d (.bool (eqD a b))) else none
  | _, _ => none
def a2_ne : RV → RV → Option W
  | .d a, .d b => if ok a && ok b then some (.d (.bool (!eqD a b))) else none
  | _, _ => none
def a2_lt : RV → RV → Option W
  | .d (.int i), .d (.int j) => some (.d (.bool (decide (i < j))))
  | .d (.tuple a), .d (.tuple b) => if okDs a 20 && okDs b 20 && cmpOks a b then some (.d (.bool (ltDs a b))) else none
  | _, _ => none
def a2_gt : RV → RV → Option W
  | .d (.int i), .d (.int j) => some (.d (.bool (decide (j < i))))
  | .d (.tuple a), .d (.tuple b) => if okDs a 20 && okDs b 20 && cmpOks a b then some (.d (.bool (ltDs b a))) else none
  | _, _ => none
def a2_le : RV → RV → Option W
  | .d (.int i), .d (.int j) => some (.d (.bool (decide (i ≤ j))))
  | .d (.tuple a), .d (.tuple b) => if okDs a 20 && okDs b 20 && cmpOks a b then some (.d (.bool (!ltDs b a))) else none
  | _, _ => none
def a2_ge : RV → RV → Option W
  | .d (.int i), .d (.int j) => some (.d (.bool (decide (j ≤ i))))
  | .d (.tuple a), .d (.tuple b) => if okDs a 20 && okDs b 20 && cmpOks a b then some (.d (.bool (!ltDs a b))) else none
  | _, _ => none
def a2_isin : RV → RV → Option W
  | .d a, .d (.list xs) => if ok a && oks xs then some (.d (.bool (xs.any (eqD · a)))) else none
  | .d a, .d (.tuple xs) => if ok a && oks xs then some (.d (.bool (xs.any (eqD · a)))) else none
  | .d k, .dct kvs => if keyOk k then some (.d (.bool (kvs.any fun p => eqD p.1 k))) else none
  | _, _ => none
def a2_notin : RV → RV → Option W
  | .d a, .d (.list xs) => if ok a && oks xs then some (.d (.bool (!xs.any (eqD · a)))) else none
  | .d a, .d (.tuple xs) => if ok a && oks xs then some (.d (.bool (!xs.any (eqD · a)))) else none
  | .d k, .dct kvs => if keyOk k then some (.d (.bool (!kvs.any fun p => eqD p.1 k))) else none
  | _, _ => none
def a2_is_ : RV → RV → Option W
  | .d a, .d .none => some (.d (.bool (isNone a)))
  | .d (.bool a), .d (.bool b) => some (.d (.bool (a == b)))
  | _, _ => none
def a2_isnot : RV → RV → Option W
  | .d a, .d .none => some (.d (.bool (!isNone a)))
  | .d (.bool a), .d (.bool b) => some (.d (.bool (!(a == b))))
  | _, _ => none
def a2_ix : RV → RV → Option W
  | .d (.list xs), .d (.int i) => (atI xs i).map W.d
  | .d (.tuple xs), .d (.int i) => (atI xs i).map W.d
  | .d (.dict [(.none, .list xs)]), .d (.int i) => (atI xs i).map W.d
  | .dct kvs, .d k => if keyOk k then (dfind kvs k).map W.d else none
  | _, _ => none
def a2_index : RV → RV → Option W
  | .d (.list xs), .d x => if ok x && oks xs then (xs.findIdx? (eqD · x)).map fun (n : Nat) => W.d (.int (n : Int)) else none
  | .d (.tuple xs), .d x => if ok x && oks xs then (xs.findIdx? (eqD · x)).map fun (n : Nat) => W.d (.int (n : Int)) else none
  | _, _ => none
def a2_count : RV → RV → Option W
  | .d (.list xs), .d x => if ok x && oks xs then some (.d (.int (xs.countP (eqD · x)))) else none
  | .d (.tuple xs), .d x => if ok x && oks xs then some (.d (.int (xs.countP (eqD · x)))) else none
  | _, _ => none
def a2_max2 : RV → RV → Option W
  | .d (.int i), .d (.int j) => some (.d (.int (if j > i then j else i)))
  | _, _ => none
def a2_min2 : RV → RV → Option W
  | .d (.int i), .d (.int j) => some (.d (.int (if j < i then j else i)))
  | _, _ => none
/-- the sum of a, a + 1, .. -/
def sumTo (a : Int) : Nat → Int
  | 0 => 0
  | n + 1 => sumTo a n + (a + (n : Int) * 1)
def a2_sumr : RV → RV → Option W
  | .d (.int i), .d (.int j) => if 0 ≤ i ∧ i ≤ 1000 ∧ 0 ≤ j ∧ j ≤ 1000 then some (.d (.int (sumTo i (j - i).toNat))) else none
  | _, _ => none
def addD : D → D → D
  | .int i, .int j => .int (i + j)
  | _, _ => .none
/-- [x + y for x in a for y in b], of ints -/
def a2_sums : RV → RV → Option W
  | .d (.list a), .d (.list b) => if a.all isInt && b.all isInt && decide (a.length * b.length < 1000) then some (.new (.lst (a.flatMap fun x => b.map fun y => addD x y))) else none
  | _, _ => none
def ap2 : Op2 → RV → RV → Option W
  | .add => a2_add
  | .sub => a2_sub
  | .mul => a2_mul
  | .fdiv => a2_fdiv
  | .mod => a2_mod
  | .pow => a2_pow
  | .eq => a2_eq
  | .ne => a2_ne
  | .lt => a2_lt
  | .gt => a2_gt
  | .le => a2_le
  | .ge => a2_ge
  | .isin => a2_isin
  | .notin => a2_notin
  | .is_ => a2_is_
  | .isnot => a2_isnot
  | .ix => a2_ix
  | .index => a2_index
  | .count => a2_count
  | .max2 => a2_max2
  | .min2 => a2_min2
  | .sumr => a2_sumr
  | .sums => a2_sums
def isDict : D → Bool
  | .dict [] => false
  | .dict _ => true
  | _ => false
def tyB : Ty → D → Bool
  | .int, .int _ => true
  | .int, .bool _ => true
  | .bool, .bool _ => true
  | .tuple, .tuple _ => true
  | .list, .list _ => true
  | .str, .str _ => true
  | _, _ => false
def cellRV : Cell → RV
  | .lst ds => .d (.list ds)
  | .dct kvs => .dct kvs
/-- what stands behind a W now -/
def val (s : Sg) : W → Option RV
  | .d x => some (.d x)
  | .new c => some (cellRV c)
  | .own i => match s[i]? with
    | some (some (.m _ c)) => some (cellRV c)
    | _ => none
/-- as data that may be kept: a list of a slot is not changed any more -/
def toD (s : Sg) : W → Option (D × Sg)
  | .d x => some (x, s)
  | .new (.lst ds) => some (.list ds, s)
  | .new (.dct _) => none
  | .own i => match s[i]? with
    | some (some (.m .own (.lst ds))) => some (.list ds, s.set i (some (.d (.list ds))))
    | _ => none
/-- stored into slot i -/
def put (s : Sg) (i : Nat) (w : W) : Option Sg :=
  match s[i]? with
  | some (some (.m .ref _)) => none
  | some (some (.m .lock _)) => none
  | none => none
  | some _ => match w with
    | .d x => some (s.set i (some (.d x)))
    | .new c => some (s.set i (some (.m .own c)))
    | .own j => match s[j]? with
      | some (some (.m .own c)) => some ((s.set j none).set i (some (.m .own c)))
      | _ => none
def asB : W → Option Bool
  | .d (.bool b) => some b
  | _ => none
def asI : RV → Option Int
  | .d (.int i) => some i
  | _ => none
/-- targets: names, tuples of such; items are data -/
def bindT : Tgt → D → Sg → Option Sg
  | .name i, x, s => put s i (.d x)
  | .tnil, .tuple [], s => some s
  | .tcons a b, .tuple (x :: xs), s => do let s ← bindT a x s; bindT b (.tuple xs) s
  | _, _, _ => none
def Tgt.slots : Tgt → List Nat
  | .name i => [i]
  | .tnil => []
  | .tcons a b => a.slots ++ b.slots
def wipe (s : Sg) : List Nat → Sg
  | [] => s
  | i :: is => (wipe s is).set i none
/-- the slots is of old again -/
def back (s old : Sg) : List Nat → Sg
  | [] => s
  | i :: is => (back s old is).set i (old[i]?.getD none)
def enumD (xs : List D) : Nat → List D
  | i => match xs with
    | [] => []
    | x :: r => .tuple [.int i, x] :: enumD r (i + 1)
def zipD : List D → List D → List D
  | x :: xs, y :: ys => .tuple [x, y] :: zipD xs ys
  | _, _ => []
def rangeD (lo : Int) (n : Nat) : List D := (List.range n).map fun (k : Nat) => .int (lo + (k : Int))
def rangeDown (hi : Int) (n : Nat) : List D := (List.range n).map fun (k : Nat) => .int (hi - (k : Int))
def rangeTwo (lo : Int) (n : Nat) : List D := (List.range n).map fun (k : Nat) => .int (lo + (k : Int) * 2)
def rv1 : RV → Option (List D)
  | .d (.list xs) => some xs
  | .d (.tuple xs) => some xs
  | _ => none
def rangeLine : Int := 2 ^ 24
def walkL : ItK → RV → RV → Option (List D)
  | .val, r, _ => rv1 r
  | .range1, .d (.int n), _ => if n ≤ rangeLine ∧ -rangeLine ≤ n then some (rangeD 0 n.toNat) else none
  | .range2, .d (.int a), .d (.int b) => if -rangeLine ≤ a ∧ a ≤ rangeLine ∧ b ≤ rangeLine ∧ -rangeLine ≤ b then some (rangeD a (b - a).toNat) else none
  | .range3, .d (.int a), .d (.int b) => if -rangeLine ≤ a ∧ a ≤ rangeLine ∧ b ≤ rangeLine ∧ -rangeLine ≤ b then some (rangeDown a (a - b).toNat) else none
  | .range4, .d (.int a), .d (.int b) => if -rangeLine ≤ a ∧ a ≤ rangeLine ∧ b ≤ rangeLine ∧ -rangeLine ≤ b then some (rangeTwo a ((b - a + 1) / 2).toNat) else none
  | .enum, .d x, _ => (seqOf x).map fun xs => enumD xs 0
  | .zip, .d (.list x), .d (.list y) => some (zipD x y)
  | .zip, .d (.tuple x), .d (.tuple y) => some (zipD x y)
  | .zip, .d (.list x), .d (.tuple y) => some (zipD x y)
  | .zip, .d (.tuple x), .d (.list y) => some (zipD x y)
  | .keys, .dct kvs, _ => some (kvs.map (·.1))
  | .values, .dct kvs, _ => some (kvs.map (·.2))
  | _, _, _ => none
def ItK.two : ItK → Bool
  | .range2 => true
  | .range3 => true
  | .range4 => true
  | .zip => true
  | _ => false
/-- the slot's object is not changed while it is walked -/
def lockW (s : Sg) : W → Option Sg
  | .own i => match s[i]? with
    | some (some (.m _ c)) => some (s.set i (some (.m .lock c)))
    | _ => none
  | _ => some s
def modeOf (s : Sg) : W → Mode
  | .own i => match s[i]? with
    | some (some (.m k _)) => k
    | _ => .lock
  | _ => .lock
def unlock (s : Sg) (k : Mode) : W → Option Sg
  | .own i => match s[i]? with
    | some (some (.m .lock c)) => some (s.set i (some (.m k c)))
    | _ => none
  | _ => some s
def compGo (f : Sg → Option (W × Sg)) (c : Sg → Option (Bool × Sg)) (t : Tgt) : List D → Sg → Option (List D × Sg)
  | [], s => some ([], s)
  | x :: xs, s => do
    let s ← bindT t x (wipe s t.slots)
    let (b, s) ← c s
    if b then do
      let (w, s) ← f s
      let (y, s) ← toD s w
      let (ys, s) ← compGo f c t xs s
      pure (y :: ys, s)
    else compGo f c t xs s
/-- the slots that stand among them -/
def ownsOf : List W → List Nat
  | [] => []
  | .own i :: ws => i :: ownsOf ws
  | _ :: ws => ownsOf ws
/-- the arguments as a def takes them; the slots whose objects it may change -/
def argsOf (s : Sg) : List PM → List W → Option (List A × List (Option Nat) × Sg)
  | [], [] => some ([], [], s)
  | .val :: rs, w :: ws => do
    let (x, s) ← toD s w
    let (as, is, s) ← argsOf s rs ws
    pure (.d x :: as, is, s)
  | .peek :: rs, .d x :: ws => do
    let (as, is, s) ← argsOf s rs ws
    pure (.d x :: as, is, s)
  | .peek :: rs, .new c :: ws => do
    let (as, is, s) ← argsOf s rs ws
    pure (.m c :: as, is, s)
  | .peek :: rs, .own i :: ws => match s[i]? with
    | some (some (.m _ c)) => do
      let (as, is, s) ← argsOf s rs ws
      pure (.m c :: as, is, s)
    | _ => none
  | .ref :: rs, .new c :: ws => do
    let (as, is, s) ← argsOf s rs ws
    pure (.m c :: as, none :: is, s)
  | .ref :: rs, .own i :: ws => match s[i]? with
    | some (some (.m .own c)) => do
      let (as, is, s) ← argsOf s rs ws
      pure (.m c :: as, some i :: is, s)
    | some (some (.m .ref c)) => do
      let (as, is, s) ← argsOf s rs ws
      pure (.m c :: as, some i :: is, s)
    | _ => none
  | _, _ => none
def handBack (s : Sg) : List (Option Nat) → List Cell → Option Sg
  | [], [] => some s
  | none :: is, _ :: cs => handBack s is cs
  | some i :: is, c :: cs => match s[i]? with
    | some (some (.m k _)) => handBack (s.set i (some (.m k c))) is cs
    | _ => none
  | _, _ => none
def twoE (two : Bool) (f : Sg → Option (W × Sg)) (s : Sg) : Option (W × Sg) := if two then f s else some (.d .none, s)
def okLen (xs : List D) : Option Unit := if xs.length ≤ lenLine then some () else none
def rngW : RngK → List D → W
  | .list_, xs => .new (.lst xs)
  | .tuple_, xs => .d (.tuple xs)
def okOwns (ws : List W) : Option Unit := if (ownsOf ws).Nodup then some () else none
def rngL : ItK → RV → RV → Option (List D)
  | .range1, r, p => walkL .range1 r p
  | .range2, r, p => walkL .range2 r p
  | .range3, r, p => walkL .range3 r p
  | _, _, _ => none
/-- both lists or both tuples -/
def okDct : RV → Option Unit
  | .dct _ => some ()
  | _ => none
def asDct : RV → Option (List (D × D))
  | .dct kvs => some kvs
  | _ => none
def sameK : RV → RV → Option Unit
  | .d (.list _), .d (.list _) => some ()
  | .d (.tuple _), .d (.tuple _) => some ()
  | _, _ => none
def E.isNil : E → Bool
  | .nil => true
  | _ => false
/-- a missing or an int part of a slice -/
def partE (nil : Bool) (f : Sg → Option (W × Sg)) (s : Sg) : Option (Option Int × Sg) :=
  if nil then some (none, s) else do
    let (w, s) ← f s
    let r ← val s w
    let i ← asI r
    pure (some i, s)
/-- a test; nil: none -/
def testE (nil : Bool) (f : Sg → Option (W × Sg)) (s : Sg) : Option (Bool × Sg) :=
  if nil then some (true, s) else do
    let (w, s) ← f s
    let k ← asB w
    pure (k, s)
abbrev CF := String → List A → Option (W × List Cell)
abbrev SigF := String → Option (List PM)
section
variable (sig : SigF) (cf : CF)
mutual
def ev : E → Sg → Option (W × Sg)
  | .nil, _ => none
  | .cons _ _, _ => none
  | .var i, s => match s[i]? with
    | some (some (.d x)) => some (.d x, s)
    | some (some (.m _ _)) => some (.own i, s)
    | _ => none
  | .con d, s => some (.d d, s)
  | .glob _ d, s => some (.d d, s)
  | .op1 f a, s => do
    let (w, s) ← ev a s
    let r ← val s w
    let x ← ap1 f r
    pure (x, s)
  | .op2 f a b, s => do
    let (w, s) ← ev a s
    let (u, s) ← ev b s
    let r ← val s w
    let q ← val s u
    let x ← ap2 f r q
    pure (x, s)
  | .and_ a b, s => do
    let (w, s) ← ev a s
    let k ← asB w
    if k then ev b s else pure (.d (.bool false), s)
  | .or_ a b, s => do
    let (w, s) ← ev a s
    let k ← asB w
    if k then pure (.d (.bool true), s) else ev b s
  | .ite c a b, s => do
    let (w, s) ← ev c s
    let k ← asB w
    if k then ev a s else ev b s
  | .chain f g a b c, s => do
    let (w, s) ← ev a s
    let (u, s) ← ev b s
    let r ← val s w
    let q ← val s u
    let x ← ap2 f r q
    let k ← asB x
    if k then do
      let (v, s) ← ev c s
      let q ← val s u
      let p ← val s v
      let y ← ap2 g q p
      pure (y, s)
    else pure (.d (.bool false), s)
  | .tup es, s => do
    let (xs, s) ← evsD es s
    pure (.d (.tuple xs), s)
  | .lst es, s => do
    let (xs, s) ← evsD es s
    pure (.new (.lst xs), s)
  | .dict0, s => some (.new (.dct []), s)
  | .dict1 k v, s => do
    let (w, s) ← ev k s
    let (x, s) ← toD s w
    let (u, s) ← ev v s
    let (y, s) ← toD s u
    if keyOk x then pure (.new (.dct [(x, y)]), s) else none
  | .slice a lo hi, s => do
    let (w, s) ← ev a s
    let (l, s) ← partE lo.isNil (fun s => ev lo s) s
    let (h, s) ← partE hi.isNil (fun s => ev hi s) s
    let r ← val s w
    match r with
    | .d (.list xs) => pure (.new (.lst (cutD xs l h)), s)
    | .d (.tuple xs) => pure (.d (.tuple (cutD xs l h)), s)
    | _ => none
  | .get d k z, s => do
    let (w, s) ← ev d s
    let r0 ← val s w
    let _ ← okDct r0
    let (u, s) ← ev k s
    let (x, s) ← toD s u
    let (v, s) ← ev z s
    let (y, s) ← toD s v
    let r ← val s w
    let kvs ← asDct r
    if keyOk x then pure (.d ((dfind kvs x).getD y), s) else none
  | .isin1 a t, s => do
    let (w, s) ← ev a s
    let r ← val s w
    match r with
    | .d x => if isDict x then none else pure (.d (.bool (tyB t x)), s)
    | _ => none
  | .isin2 a t u, s => do
    let (w, s) ← ev a s
    let r ← val s w
    match r with
    | .d x => if isDict x then none else pure (.d (.bool (tyB t x || tyB u x)), s)
    | _ => none
  | .rng q k a b, s => do
    let (w, s) ← ev a s
    let (u, s) ← twoE k.two (fun s => ev b s) s
    let r ← val s w
    let p ← val s u
    let xs ← rngL k r p
    let _ ← okLen xs
    pure (rngW q xs, s)
  | .call f args, s => do
    let (ws, s) ← evs args s
    let rs ← sig f
    let _ ← okOwns ws
    let (as, is, s) ← argsOf s rs ws
    let (w, cs) ← cf f as
    let s ← handBack s is cs
    pure (w, s)
  | .comp elt t k a b c, s => do
    let (w, s) ← ev a s
    let (u, s) ← twoE k.two (fun s => ev b s) s
    let r ← val s w
    let p ← val s u
    let xs ← walkL k r p
    let _ ← okLen xs
    let s1 ← lockW s w
    let s2 ← lockW s1 u
    let (ys, s3) ← compGo (fun s => ev elt s) (fun s => testE c.isNil (fun s => ev c s) s) t xs s2
    let s4 ← unlock (back s3 s2 t.slots) (modeOf s1 u) u
    let s5 ← unlock s4 (modeOf s w) w
    pure (.new (.lst ys), s5)
  | .pop i, s => match s[i]? with
    | some (some (.m k (.lst ds))) => if k = .lock then none else match ds.getLast? with
      | some x => some (.d x, s.set i (some (.m k (.lst ds.dropLast))))
      | none => none
    | _ => none
  | .meth f a b, s => do
    let (w, s) ← ev a s
    let r ← val s w
    let (u, s) ← ev b s
    let r' ← val s w
    let q ← val s u
    let _ ← sameK r r'
    let x ← ap2 f r' q
    pure (x, s)
def evs : E → Sg → Option (List W × Sg)
  | .nil, s => some ([], s)
  | .cons a b, s => do
    let (w, s) ← ev a s
    let (ws, s) ← evs b s
    pure (w :: ws, s)
  | _, _ => none
def evsD : E → Sg → Option (List D × Sg)
  | .nil, s => some ([], s)
  | .cons a b, s => do
    let (w, s) ← ev a s
    let (x, s) ← toD s w
    let (xs, s) ← evsD b s
    pure (x :: xs, s)
  | _, _ => none
end
/-- a test -/
def evC (c : E) (s : Sg) : Option (Bool × Sg) := testE c.isNil (ev sig cf c) s
def FUEL : Nat := 1000000
def whileGo (c : Sg → Option (Bool × Sg)) (b : Sg → Option (Out × Sg)) : Nat → Sg → Option (Out × Sg)
  | 0, _ => none
  | n + 1, s => do
    let (k, s) ← c s
    if k then do
      let (o, s) ← b s
      match o with
      | .nx => whileGo c b n s
      | .brk => pure (.nx, s)
      | .ret w => pure (.ret w, s)
    else pure (.nx, s)
def forGo (b : Sg → Option (Out × Sg)) (t : Tgt) : List D → Sg → Option (Out × Sg)
  | [], s => some (.nx, s)
  | x :: xs, s => do
    let s ← bindT t x s
    let (o, s) ← b s
    match o with
    | .nx => forGo b t xs s
    | .brk => pure (.nx, s)
    | .ret w => pure (.ret w, s)
def okSlot (s : Sg) (i : Nat) : Option Unit := match s[i]? with
  | some (some (.m _ _)) => some ()
  | _ => none
def okSlotL (s : Sg) (i : Nat) : Option Unit := match s[i]? with
  | some (some (.m _ (.lst _))) => some ()
  | _ => none
def ixPos (n : Nat) (j : Int) : Option Nat := if 0 ≤ j + n ∧ j < n then some (if 0 ≤ j then j.toNat else (j + n).toNat) else none
/-- slot i's object with k ↦ v -/
def putIx (s : Sg) (i : Nat) (k v : D) : Option Sg :=
  match s[i]? with
  | some (some (.m q (.lst ds))) => if q = .lock then none else match k with
    | .int j => (ixPos ds.length j).map fun n => s.set i (some (.m q (.lst (ds.set n v))))
    | _ => none
  | some (some (.m q (.dct kvs))) => if q = .lock then none else
      if keyOk k ∧ kvs.length < lenLine then some (s.set i (some (.m q (.dct (dput kvs k v))))) else none
  | _ => none
def getIx (s : Sg) (i : Nat) (k : D) : Option D :=
  match s[i]? with
  | some (some (.m _ (.lst ds))) => match k with
    | .int j => atI ds j
    | _ => none
  | _ => none
def appTo (s : Sg) (i : Nat) (v : D) : Option Sg :=
  match s[i]? with
  | some (some (.m q (.lst ds))) => if q = .lock then none else if ds.length < lenLine then some (s.set i (some (.m q (.lst (ds ++ [v]))))) else none
  | _ => none
/-- several names at once: new objects stay the slots' own -/
def newOnly (s : Sg) : List W → Option (List W × Sg)
  | [] => some ([], s)
  | .own i :: ws => do
    let (x, s) ← toD s (.own i)
    let (ws, s) ← newOnly s ws
    pure (.d x :: ws, s)
  | w :: ws => do
    let (ws, s) ← newOnly s ws
    pure (w :: ws, s)
def putWs (s : Sg) : List Nat → List W → Option Sg
  | [], [] => some s
  | i :: is, w :: ws => do let s ← put s i w; putWs s is ws
  | _, _ => none
/-- i op= d: ints and lists -/
def augV (f : Op2) (a b : RV) : Option W := match f with
  | .add => match a, b with
    | .d (.int _), .d (.int _) => ap2 f a b
    | _, _ => none
  | .sub => ap2 f a b
  | .mul => match a, b with
    | .d (.int _), .d (.int _) => ap2 f a b
    | _, _ => none
  | _ => none
/-- a name (no key), or a place of a slot's object, takes x -/
def asg1 (i : Nat) (k : E) (x : D) (s : Sg) : Option Sg :=
  if k.isNil then put s i (.d x) else do
    let _ ← okSlot s i
    let (u, s) ← ev sig cf k s
    let (y, s) ← toD s u
    putIx s i y x
def asgAll : List (Nat × E) → List D → Sg → Option Sg
  | [], [], s => some s
  | t :: ts, x :: xs, s => do
    let s ← asg1 sig cf t.1 t.2 x s
    asgAll ts xs s
  | _, _, _ => none
def ex : S → Sg → Option (Out × Sg)
  | .skip, s => some (.nx, s)
  | .seq a b, s => do
    let (o, s) ← ex a s
    match o with
    | .nx => ex b s
    | o => pure (o, s)
  | .ifs c a b, s => do
    let (k, s) ← evC sig cf c s
    if k then ex a s else ex b s
  | .whl c b, s => whileGo (fun s => evC sig cf c s) (fun s => ex b s) FUEL s
  | .for_ t k a b body, s => do
    let (w, s) ← ev sig cf a s
    let (u, s) ← twoE k.two (ev sig cf b) s
    let r ← val s w
    let p ← val s u
    let xs ← walkL k r p
    let s1 ← lockW s w
    let s2 ← lockW s1 u
    let (o, s3) ← forGo (fun s => ex body s) t xs s2
    let s4 ← unlock s3 (modeOf s1 u) u
    let s5 ← unlock s4 (modeOf s w) w
    pure (o, s5)
  | .set i e, s => do
    let (w, s) ← ev sig cf e s
    let s ← put s i w
    pure (.nx, s)
  | .setTup is es, s => do
    let (ws, s) ← evs sig cf es s
    let (ws, s) ← newOnly s ws
    let s ← putWs s is ws
    pure (.nx, s)
  | .unpack t e, s => do
    let (w, s) ← ev sig cf e s
    let (x, s) ← toD s w
    let s ← bindT t x s
    pure (.nx, s)
  | .setIx i k e, s => do
    let (w, s) ← ev sig cf e s
    let (v, s) ← toD s w
    let _ ← okSlot s i
    let (u, s) ← ev sig cf k s
    let (x, s) ← toD s u
    let s ← putIx s i x v
    pure (.nx, s)
  | .setIx2 i k j l a b, s => do
    let (w, s) ← ev sig cf a s
    let (v, s) ← toD s w
    let (w, s) ← ev sig cf b s
    let (v', s) ← toD s w
    let _ ← okSlot s i
    let _ ← okSlot s j
    let (u, s) ← ev sig cf k s
    let (x, s) ← toD s u
    let s ← putIx s i x v
    let (u, s) ← ev sig cf l s
    let (y, s) ← toD s u
    let s ← putIx s j y v'
    pure (.nx, s)
  | .aug i f e, s => do
    let (w, s) ← ev sig cf (.var i) s
    let r ← val s w
    let (u, s) ← ev sig cf e s
    let q ← val s u
    let x ← augV f r q
    let s ← put s i x
    pure (.nx, s)
  | .augIx i k f e, s => do
    let _ ← okSlot s i
    let (u, s) ← ev sig cf k s
    let (x, s) ← toD s u
    let old ← getIx s i x
    let (w, s) ← ev sig cf e s
    let q ← val s w
    let y ← augV f (.d old) q
    match y with
    | .d v => do
      let s ← putIx s i x v
      pure (.nx, s)
    | _ => none
  | .app i e, s => do
    let _ ← okSlotL s i
    let (w, s) ← ev sig cf e s
    let (v, s) ← toD s w
    let s ← appTo s i v
    pure (.nx, s)
  | .drop e, s => do
    let (_, s) ← ev sig cf e s
    pure (.nx, s)
  | .ret e, s => do
    let (w, s) ← ev sig cf e s
    pure (.ret w, s)
  | .brk, s => some (.brk, s)
  | .raise, _ => none
  | .setMix ts es, s => do
    let (xs, s) ← evsD sig cf es s
    let s ← asgAll sig cf ts xs s
    pure (.nx, s)
end
def slotsOf : List PM → List A → Option Sg
  | [], [] => some []
  | .val :: rs, .d x :: as => do let r ← slotsOf rs as; pure (some (.d x) :: r)
  | .peek :: rs, .d x :: as => do let r ← slotsOf rs as; pure (some (.d x) :: r)
  | .peek :: rs, .m c :: as => do let r ← slotsOf rs as; pure (some (.m .lock c) :: r)
  | .ref :: rs, .m c :: as => do let r ← slotsOf rs as; pure (some (.m .ref c) :: r)
  | _, _ => none
def finW (s : Sg) : W → Option W
  | .d x => some (.d x)
  | .new c => some (.new c)
  | .own i => match s[i]? with
    | some (some (.m .own c)) => some (.new c)
    | _ => none
/-- the objects of the changed parameters behind the call -/
def outs (s : Sg) : List PM → Nat → Option (List Cell)
  | [], _ => some []
  | .ref :: rs, i => match s[i]? with
    | some (some (.m .ref c)) => do
      let cs ← outs s rs (i + 1)
      pure (c :: cs)
    | _ => none
  | _ :: rs, i => outs s rs (i + 1)
def outW : Out → Option W
  | .nx => some (.d .none)
  | .ret w => some w
  | .brk => none
def callN (P : String → Option Def) : Nat → CF
  | 0, _, _ => none
  | k + 1, f, as => do
    let d ← P f
    let s0 ← slotsOf d.refs as
    let (o, s) ← ex (fun f => (P f).map (·.refs)) (callN P k) d.body (s0 ++ List.replicate (d.n - as.length) none)
    let w ← outW o
    let w ← finW s w
    let cs ← outs s d.refs 0
    pure (w, cs)
end PV
namespace PV
open PySem PySem.Spec PyProof.Rows L2
abbrev tupO (its : List Value) : Obj := { cls := .type "tuple", data := .seq its.toArray }
/-- a new tuple -/
def NewT (Q : VK) (H : Hp) (xs : List V) : Prop := ∀ p o, H p = none → o.dict = none → Q (.ref p) (upd H p (.frz o (.tup xs)))
/-- a tuple whose object has no dict -/
def TupAt (H : Hp) (a : Addr) (xs : List V) : Prop := ∃ o, H a = some (.frz o (.tup xs)) ∧ o.dict = none
theorem TupAt.sq {K : PySem.W.Frag} {H : Hp} {a : Addr} {xs : List V} (h : TupAt H a xs) : SqT K H a xs := by
  obtain ⟨o, e, _⟩ := h
  exact .inl (.inr ⟨o, e⟩)
theorem TupAt.keep {H H' : Hp} {a : Addr} {xs : List V} (h : TupAt H a xs) (k : ∀ o, H a = some o → H' a = some o) : TupAt H' a xs := by
  obtain ⟨o, e, d⟩ := h
  exact ⟨o, k _ e, d⟩
theorem TupAt.one {H : Hp} {a : Addr} {xs ys : List V} (h : TupAt H a xs) (g : TupAt H a ys) : xs = ys := by
  obtain ⟨o, e, d⟩ := h
  obtain ⟨o', e', d'⟩ := g
  rw [e] at e'
  injection e' with e'
  injection e' with _ e'
  injection e' with e'
theorem TupAt.notlst {H : Hp} {a : Addr} {xs ys : List V} (h : TupAt H a xs) (g : H a = some (.lst ys)) : False := by
  obtain ⟨o, e, d⟩ := h
  rw [e] at g
  cases g
theorem tupAt_new {H : Hp} {a : Addr} {o : Obj} {xs : List V} (d : o.dict = none) : TupAt (upd H a (.frz o (.tup xs))) a xs := ⟨o, upd_same, d⟩
section
variable {X : Cx} {pins : List (Addr × Obj)} {σ : L2.St} {H : Hp} {s : Shared} {Q : VK} {xs : List V} {its : List Value}
theorem newOk {P : Program} {w : World} {h : Heap} {p : Addr} (e : h.get? p = some (tupO its)) (r : Vals xs its) (z : xs.length ≤ sizeLine) : ObjOk P w H h p (.frz (tupO its) (.tup xs)) :=
  ⟨e, z, its, r, tupO its, e, rfl, _, rfl⟩
theorem newT (I : Inv X pins σ H s) (r : Vals xs its) (z : xs.length ≤ sizeLine) (q : NewT Q H xs) : EP X pins σ Q (.ref s.heap.objs.size) { s with heap := s.heap.push (tupO its) } := by
  have J : Inv X pins σ (upd H s.heap.objs.size (.frz (tupO its) (.tup xs))) { s with heap := s.heap.push (tupO its), toks := s.toks } :=
    I.laid (fun _ _ u => Heap.get?_push_of_some _ u) (Nat.le_refl _) (newOk (Heap.get?_push_size _ rfl) r z)
  exact ⟨.ref _, _, J, rfl, q _ _ (I.hok.fresh (Nat.le_refl _)) rfl⟩
def tTupF (t : TA) : TE := fun σ H Q => t σ H fun xs H1 => xs.length ≤ sizeLine ∧ NewT Q H1 xs
theorem pe_tupF {es : List Expr} {t : TA} {j : Nat} {pos : Pos} (h : PA X es t) : PE X (.Tuple es j pos) (tTupF t) :=
  ⟨fun pins s σ H _ I hq => wpAny_Tuple_spliced (thn (h.run pos pins s σ H _ I hq) fun _ _ ⟨_, _, I1, r, z, q⟩ => ⟨r.length ▸ z, newT I1 r z q⟩)⟩
theorem c_tupleF : CallR X (.type "tuple") (fun xs H Q => ∃ p ys, xs = [.ref p] ∧ ((SqL X.K H p ys ∧ NewT Q H ys) ∨ (SqT X.K H p ys ∧ Q (.ref p) H))) := by
  intro pins s σ H xs us Q I r ⟨p, ys, e, h⟩
  subst e
  obtain ⟨u, eu, ru⟩ := vals1 r
  subst eu
  cases ru
  cases h with
  | inl h =>
    obtain ⟨its, rv, pl, hz⟩ := I.list h.1
    have hl : its.toArray.size ≤ sizeLine := by rw [List.size_toArray, ← rv.length]; exact hz
    exact call_tuple_list pl.isList (fun h' kp => newT (s := { s with heap := h' }) (I.kept (t' := s.toks) kp) rv hz h.2) hl
  | inr h =>
    obtain ⟨its, rv, pl, hz⟩ := I.tuple h.1
    exact call_tuple_same pl ⟨.ref p, H, I, rfl, h.2⟩
theorem op_catF : OpR X (binaryOp .Add) (fun x y H Q => ∃ a b xs ys, x = .ref a ∧ y = .ref b ∧ SqT X.K H a xs ∧ SqT X.K H b ys ∧ xs.length + ys.length ≤ sizeLine ∧
    (xs = [] → Q (.ref b) H) ∧ (xs ≠ [] → ys = [] → Q (.ref a) H) ∧ (xs ≠ [] → ys ≠ [] → NewT Q H (xs ++ ys))) := by
  intro pins s σ H x y v u Q I rx ry ⟨a, b, xs, ys, e1, e2, ha, hb, hz, q0, q1, q2⟩
  by_cases hx : xs = []
  · exact op_catA pins s σ H x y v u Q I rx ry ⟨a, b, xs, ys, e1, e2, ha, hb, hz, q0, q1, fun z => absurd hx z⟩
  · by_cases hy : ys = []
    · exact op_catA pins s σ H x y v u Q I rx ry ⟨a, b, xs, ys, e1, e2, ha, hb, hz, q0, q1, fun _ z => absurd hy z⟩
    · subst e1 e2
      cases rx
      cases ry
      obtain ⟨i1, v1, p1, _⟩ := I.tuple ha
      obtain ⟨i2, v2, p2, _⟩ := I.tuple hb
      have hz' : i1.length + i2.length ≤ sizeLine := by rw [← v1.length, ← v2.length]; exact hz
      exact HT.cat_tup p1 p2 (fun z => hx (v1.nil_iff.mp z)) (fun z => absurd (v2.nil_iff.mp z) hy) (fun _ => newT I (v1.append v2) (by rw [List.length_append]; exact hz) (q2 hx hy)) hz'
theorem sl_tupF : SlR X (fun x lo hi H Q => ∃ a xs, x = .ref a ∧ SqT X.K H a xs ∧ (HT.sIx xs.length 0 lo = 0 ∧ HT.sIx xs.length xs.length hi = xs.length → Q (.ref a) H) ∧
    (¬ (HT.sIx xs.length 0 lo = 0 ∧ HT.sIx xs.length xs.length hi = xs.length) → NewT Q H (cutV xs lo hi))) := by
  intro pins s σ H x v vl vu lo hi sl Q I rx hs pl pu ⟨a, xs, e, hx, q1, q2⟩
  by_cases hw : HT.sIx xs.length 0 lo = 0 ∧ HT.sIx xs.length xs.length hi = xs.length
  · exact sl_tupA pins s σ H x v vl vu lo hi sl Q I rx hs pl pu ⟨a, xs, e, hx, q1, fun z => absurd hw z⟩
  · subst e
    cases rx
    obtain ⟨its, rv, pt, hz⟩ := I.tuple hx
    have hn : its.toArray.size = xs.length := by rw [List.size_toArray]; exact rv.length.symm
    refine ⟨"tuple", _, PyProof.Rows.slot_tuple_getitem.lookup, pt.typeIs, HT.getItem_tuple_cut pt hs pl pu (by rw [hn]; exact hw) ?_ (by rw [hn]; exact hz)⟩
    rw [hn]
    exact newT I ((rv.drop _).take _) (Nat.le_trans (cutV_length xs lo hi) hz) (q2 hw)
theorem op_repF : OpR X (binaryOp .Mult) (fun x y H Q => ∃ l k xs, x = .ref l ∧ y = .int k ∧ SqT X.K H l xs ∧ xs ≠ [] ∧ 2 ≤ k ∧ k ≤ 1000 ∧ xs.length ≤ 1000 ∧ NewT Q H (List.replicate k.toNat xs).flatten) := by
  intro pins s σ H x y v u Q I rx ry ⟨l, k, xs, e1, e2, hT, hne, h1, h2, hz, q⟩
  subst e1 e2
  cases rx
  obtain ⟨t, eu⟩ := ry
  subst eu
  obtain ⟨its, rv, pt, _⟩ := I.tuple hT
  obtain ⟨⟨cc, dd, dt, sl⟩, hl, hc, n, hd⟩ := pt
  replace hc : cc = .type "tuple" := hc
  replace hd : dt = .seq its.toArray n := hd
  subst hc hd
  have hn : its.length = xs.length := rv.length.symm
  have ha : its.toArray.size = xs.length := by rw [List.size_toArray, hn]
  have he : its.toArray.isEmpty = false := by
    cases hq : its with
    | cons _ _ => rfl
    | nil => rw [hq] at hn; exact absurd (List.eq_nil_of_length_eq_zero hn.symm) hne
  have hb : ((xs.length : Nat) : Int) * k ≤ 1000000 := by
    have : ((xs.length : Nat) : Int) * k ≤ 1000 * k := Int.mul_le_mul_of_nonneg_right (by omega) (by omega)
    omega
  have hf : k.toNat * xs.length ≤ 1000000 := Nat.le_trans (Nat.mul_le_mul (show k.toNat ≤ 1000 by omega) hz) (by decide)
  have fl : (List.replicate k.toNat its).flatten.length ≤ sizeLine := by rw [PyProof.Rows.lm_len_rep_flat, hn, sizeLine_eq]; omega
  have g0 : (decide (k < -(2 ^ 63)) || decide (k ≥ 2 ^ 63)) = false := by rw [decide_eq_false (by omega), decide_eq_false (by omega)]; rfl
  have g1 : (its.toArray.isEmpty || k == 1) = false := by rw [he, Bool.false_or]; exact beq_eq_false_iff_ne.mpr (by omega)
  have g2 : (decide (k ≤ 0) || its.toArray.isEmpty) = false := by rw [he, Bool.or_false]; exact decide_eq_false (by omega)
  have g3 : Builtin.Tuple.tupleTooMany (((its.toArray.size : Nat) : Int) * k) = false := by
    rw [ha]
    unfold Builtin.Tuple.tupleTooMany
    exact decide_eq_false (by rw [sizeLine_eq]; omega)
  have hm : ((its.toArray.size : Nat) : Int) * k ≤ 1000000 := by rw [ha]; exact hb
  have post : EP X pins σ Q (.ref s.heap.objs.size) { s with heap := s.heap.push (tupO (List.replicate k.toNat its).flatten) } :=
    newT I (rv.rep k.toNat) (by rw [PyProof.Rows.lm_len_rep_flat, sizeLine_eq]; omega) q
  exact wpAny_binaryOp_repeat_ref (T := "tuple") (U := "int") (by decide) ⟨_, hl, rfl⟩ (fun s' => typeIs_int s' k t) noFill_tuple_mul F.fills_int_mul F.slot_int_rmul repeat_tuple F.slot_int_index.lookup
    (call_meets F.slot_int_rmul (typeIs_int s k t) F.entry_int_rmul (F.args_int_rmul_2 _ _) (int_rmul_tuple k t l its.toArray n dd sl) ⟨hl, rfl, ⟨_, hl, rfl⟩, call_meets F.slot_tuple_mul ⟨_, hl, rfl⟩ F.entry_tuple_mul (F.args_tuple_mul_2 _ _) (tuple_mulW l its.toArray n dd sl k t g0 g1 g2 (by omega) g3 (by rw [size_rep, List.size_toArray]; exact fl)) ⟨hl, by rw [size_rep]; exact post⟩⟩)
def tTupRgF (te : L2.St → Hp → (Int → Int → Hp → Prop) → Prop) : TE := fun σ H Q => te σ H fun a b H1 => RgOk a b ∧ NewT Q H1 (rgV a b)
theorem pe_tupRgF {e : Expr} {te : L2.St → Hp → (Int → Int → Hp → Prop) → Prop} {p pos : Pos} (hc : X.calm = true) (hg : Gl X "tuple") (hm : X.mg "tuple" = none) (he : PRg X e te) (na : starEach [e] X.env = (false, eval e X.env) :: starEach [] X.env := by rfl) : PE X (.Call (.Name "tuple" p) [e] [] pos) (tTupRgF te) := by
  refine ⟨fun pins s σ H Q I h => Call_ (ld_blt I hg hm boot_tuple (PyProof.Rows.callWith_type1 (args_cons (thn (he pins s σ H _ I h) fun x s1 hx => args_nil ?_) na) na))⟩
  obtain ⟨r, a, b, t, u, v, H1, ex, hr, I1, ⟨b1, b2, b3, b4, b5⟩, q⟩ := hx
  subst ex
  refine call_tuple_range (n := (b - a).toNat) (I1.ok.hd hc) hr (small_one b1 b2 b3 b4) (rangeSize_nat a b) b5 fun h' tk acc hk hi => ?_
  have hz : (rgV a b).length ≤ sizeLine := by rw [rgV_length, sizeLine_eq]; omega
  have e : acc = acc.toList.toArray := (Array.toArray_toList).symm
  rw [e]
  exact newT (s := { s1 with heap := h', toks := tk }) (I1.kept hk) (vals_rg hi) hz q
def tBT (r : V → List V → Hp → VK → Prop) (to : TE) (t : TA) : TE := fun σ H Q => to σ H fun x H1 => (∃ p xs, x = .ref p ∧ TupAt H1 p xs) ∧ t σ H1 fun vs H2 => r x vs H2 Q
theorem pe_bmT {o e : Expr} {es : List Expr} {to : TE} {t : TA} {name : Str} {ap cp : Pos} {id : String} {r : V → List V → Hp → VK → Prop} (slot : PySem.Slot "tuple" name id) (ty : typeOf (.builtin id) = pure (.type "method_descriptor"))
    (hm : MtR X id r) (ho : PE X o to) (ha : PA X (e :: es) t) (base : attributeBase o name X.env (eval o X.env) = eval o X.env)
    (few : ((backTo cp (starEach (e :: es) X.env)).all (fun x => !x.1) && (backToKw cp (keywordEach [] X.env)).all (fun x => x.1.isSome) && decide ((e :: es).length + ([] : List Keyword).length + (if ([] : List Keyword).isEmpty then 0 else 1) < 30)) = true)
    (line : (ap.endLine == cp.line) = true) (hs : starEach (e :: es) X.env = (false, eval e X.env) :: starEach es X.env) (hp : (backTo cp (starEach es X.env)).any (·.1) = false) : PE X (.Call (.Attribute o name ap) (e :: es) [] cp) (tBT r to t) := by
  refine ⟨fun pins s σ H Q I h => wpAny_Call_method_late base few line rfl (thn (ho.run pins s σ H _ I h) fun v s1 hx => ?_)⟩
  obtain ⟨x, H1, I1, rx, ⟨p, xs, ex, ob, eo, ed⟩, q⟩ := hx
  subst ex
  cases rx
  obtain ⟨g, _, its, _, o', g', hc, _⟩ := (show ObjOk X.prog X.w H1 s1.heap p (.frz ob (.tup xs)) from I1.hok p _ eo)
  have hrun := ha.run cp pins s1 σ H1 _ I1 q
  rw [hs] at hrun ⊢
  refine ⟨"tuple", id, PySem.F.plainAttrs_tuple, slot, ty, ⟨o', g', hc⟩, fun a ea => ?_, Calls.callWith_builtin (show (false || (backTo cp (starEach es X.env)).any (·.1)) = false by rw [hp]; rfl) (Calls.evalArgs_plain ?_)⟩
  · cases ea
    exact ⟨ob, g, ed⟩
  · exact thn hrun fun us s2 hy => by
      obtain ⟨vs, H2, I2, r2, q2⟩ := hy
      exact hm pins s2 σ H2 (.ref p) vs (.ref p) us Q I2 rfl r2 q2
end
end PV
namespace PV
open PySem PySem.Spec PyProof.Rows L2
mutual
/-- the key that a datum is: True is 1 -/
def keyN : D → NestedKey
  | .bool b => .num (if b = true then 1 else 0)
  | .int i => .num i
  | .tuple xs => .tup (keyNs xs)
  | _ => .none
def keyNs : List D → List NestedKey
  | [] => []
  | x :: xs => keyN x :: keyNs xs
end
mutual
theorem keyN_eq : ∀ {a b : D} {n m : Nat}, keyIn a n = true → keyIn b m = true → eqD a b = decide (keyN a = keyN b)
  | .bool x, .bool y, _, _, _, _ => by cases x <;> cases y <;> decide
  | .bool x, .int y, _, _, _, _ => by
    simp only [eqD, keyN, NestedKey.num.injEq]
    rfl
  | .int x, .bool y, _, _, _, _ => by
    simp only [eqD, keyN, NestedKey.num.injEq]
    rfl
  | .int x, .int y, _, _, _, _ => by
    simp only [eqD, keyN, NestedKey.num.injEq]
    rfl
  | .tuple xs, .bool y, _, _, _, _ => by simp [eqD, keyN]
  | .tuple xs, .int y, _, _, _, _ => by simp [eqD, keyN]
  | .bool y, .tuple xs, _, _, _, _ => by simp [eqD, keyN]
  | .int y, .tuple xs, _, _, _, _ => by simp [eqD, keyN]
  | .tuple xs, .tuple ys, n, m, h, g => by
    cases n with
    | zero => simp [keyIn] at h
    | succ n =>
      cases m with
      | zero => simp [keyIn] at g
      | succ m =>
        rw [keyIn] at h g
        simp only [eqD, keyN, NestedKey.tup.injEq]
        exact keyNs_eq h g
  | .none, _, _, _, h, _ => by simp [keyIn] at h
  | .str _, _, _, _, h, _ => by simp [keyIn] at h
  | .list _, _, _, _, h, _ => by simp [keyIn] at h
  | .dict _, _, _, _, h, _ => by simp [keyIn] at h
  | _, .none, _, _, _, h => by simp [keyIn] at h
  | _, .str _, _, _, _, h => by simp [keyIn] at h
  | _, .list _, _, _, _, h => by simp [keyIn] at h
  | _, .dict _, _, _, _, h => by simp [keyIn] at h
theorem keyNs_eq : ∀ {xs ys : List D} {n m : Nat}, keyIns xs n = true → keyIns ys m = true → eqDs xs ys = decide (keyNs xs = keyNs ys)
  | [], [], _, _, _, _ => by simp [eqDs, keyNs]
  | [], _ :: _, _, _, _, _ => by simp [eqDs, keyNs]
  | _ :: _, [], _, _, _, _ => by simp [eqDs, keyNs]
  | x :: xs, y :: ys, n, m, h, g => by
    rw [keyIns, Bool.and_eq_true] at h g
    rw [eqDs, keyN_eq h.1 g.1, keyNs_eq h.2 g.2, keyNs, keyNs]
    simp only [List.cons.injEq, Bool.decide_and]
end
mutual
theorem hash_any (w w' : World) : ∀ {d : D} {n : Nat}, keyIn d n = true → (keyN d).hash w = (keyN d).hash w'
  | .bool _, _, _ => rfl
  | .int _, _, _ => rfl
  | .tuple xs, n, h => by
    cases n with
    | zero => simp [keyIn] at h
    | succ n =>
      rw [keyIn] at h
      rw [keyN, NestedKey.hash, NestedKey.hash, hashes_any w w' h]
  | .none, _, h => by simp [keyIn] at h
  | .str _, _, h => by simp [keyIn] at h
  | .list _, _, h => by simp [keyIn] at h
  | .dict _, _, h => by simp [keyIn] at h
theorem hashes_any (w w' : World) : ∀ {ds : List D} {n : Nat}, keyIns ds n = true → NestedKey.hashes w (keyNs ds) = NestedKey.hashes w' (keyNs ds)
  | [], _, _ => rfl
  | d :: ds, n, h => by
    rw [keyIns, Bool.and_eq_true] at h
    rw [keyNs, NestedKey.hashes, NestedKey.hashes, hash_any w w' h.1, hashes_any w w' h.2]
end
mutual
theorem depth_le : ∀ {d : D} {n : Nat}, keyIn d n = true → (keyN d).depth ≤ n
  | .bool _, _, _ => Nat.zero_le _
  | .int _, _, _ => Nat.zero_le _
  | .tuple xs, n, h => by
    cases n with
    | zero => simp [keyIn] at h
    | succ n =>
      rw [keyIn] at h
      rw [keyN, NestedKey.depth]
      exact Nat.succ_le_succ (depths_le h)
  | .none, _, h => by simp [keyIn] at h
  | .str _, _, h => by simp [keyIn] at h
  | .list _, _, h => by simp [keyIn] at h
  | .dict _, _, h => by simp [keyIn] at h
theorem depths_le : ∀ {ds : List D} {n : Nat}, keyIns ds n = true → NestedKey.depthAll (keyNs ds) ≤ n
  | [], _, _ => Nat.zero_le _
  | d :: ds, n, h => by
    rw [keyIns, Bool.and_eq_true] at h
    rw [keyNs, NestedKey.depthAll]
    exact Nat.max_le.mpr ⟨depth_le h.1, depths_le h.2⟩
end
/-- what stands in a dict: the key, its value, what it leads to -/
structure Ent where
  k : NestedKey
  kv : V
  v : V
def EntR (y : Ent) (e : DictEntry) : Prop := RelV y.kv e.key ∧ RelV y.v e.val ∧ ∀ w : World, e.hash = y.k.hash w
/-- the dict at a, its object known -/
def DctAt (a : Addr) (o : Obj) (E : List Ent) (h : Heap) : Prop := ∃ es ep, h.get? a = some o ∧ o.ExactDict ∧ o.data = .dict es ep ∧ Paired EntR E es.toList ∧ (E.map (·.k)).Nodup ∧ (a == sysModules) = false
def dctO (a : Addr) (o : Obj) (E : List Ent) : HO := .ext (DctAt a o E)
theorem DctAt.keep {a : Addr} {o : Obj} {E : List Ent} {h h' : Heap} (x : DctAt a o E h) (k : ∀ o, h.get? a = some o → h'.get? a = some o) : DctAt a o E h' := by
  obtain ⟨es, ep, ho, r⟩ := x
  exact ⟨es, ep, k o ho, r⟩
theorem dctO_ok {P : Program} {w : World} {H : Hp} {h : Heap} {a : Addr} {o : Obj} {E : List Ent} (x : DctAt a o E h) : ObjOk P w H h a (dctO a o E) := by
  have ⟨_, _, ho, _⟩ := x
  exact ⟨x, ⟨o, ho⟩, fun _ _ p k => DctAt.keep p k⟩
theorem dctO_get {X : Cx} {pins : List (Addr × Obj)} {σ : L2.St} {H : Hp} {s : Shared} {a : Addr} {o : Obj} {E : List Ent} (I : Inv X pins σ H s) (ha : H a = some (dctO a o E)) : DctAt a o E s.heap := (I.hok a _ ha).1
abbrev emptyO : Obj := { cls := .type "dict", data := .dict #[] }
theorem DctAt.empty (h : Heap) (hb : sysModules < h.objs.size) : DctAt h.objs.size emptyO [] (h.push emptyO) :=
  ⟨#[], 0, Heap.get?_push_size _ rfl, ⟨rfl, rfl, rfl⟩, rfl, .nil, List.nodup_nil, beq_eq_false_iff_ne.mpr (Ne.symm (Nat.ne_of_lt hb))⟩
end PV
namespace PV
open PySem PySem.Spec PyProof.Rows L2
abbrev Frag := PySem.W.Frag
mutual
inductive Rp (K : Frag) (Im : Hp) : V → D → Prop
  | non : Rp K Im .non .none
  | bl (b : Bool) : Rp K Im (.bl b) (.bool b)
  | int (i : Int) : Rp K Im (.int i) (.int i)
  | str (x : Str) : PyData.strOk x = true → x.length ≤ sizeLine → Rp K Im (.str x) (.str x)
  | lst {a : Addr} {xs : List V} {ds : List D} : Im a = some (.lst xs) → RpAll K Im xs ds → Rp K Im (.ref a) (.list ds)
  | tup {a : Addr} {xs : List V} {ds : List D} : TupAt Im a xs → RpAll K Im xs ds → Rp K Im (.ref a) (.tuple ds)
  | scr {a : Addr} {ns : List Int} : SqL K Im a (ns.map V.int) → Rp K Im (.ref a) (script ns)
  | emp {a : Addr} : Im a = some (.dK []) → Rp K Im (.ref a) (.dict [])
inductive RpAll (K : Frag) (Im : Hp) : List V → List D → Prop
  | nil : RpAll K Im [] []
  | cons {v : V} {vs : List V} {d : D} {ds : List D} : Rp K Im v d → RpAll K Im vs ds → RpAll K Im (v :: vs) (d :: ds)
end
def Sub (Im H : Hp) : Prop := ∀ a o, Im a = some o → H a = some o
theorem Sub.refl (H : Hp) : Sub H H := fun _ _ e => e
theorem Sub.trans {A B C : Hp} (h : Sub A B) (g : Sub B C) : Sub A C := fun a o e => g a o (h a o e)
theorem Sub.rd {Im H : Hp} {a : Addr} {u : HO} (h : Sub Im H) (r : Rd Im a u) : Rd H a u := by
  rcases r with r | ⟨o, r⟩
  · exact .inl (h _ _ r)
  · exact .inr ⟨o, h _ _ r⟩
theorem Sub.l {K : Frag} {Im H : Hp} {a : Addr} {xs : List V} (h : Sub Im H) (r : SqL K Im a xs) : SqL K H a xs := r.elim (fun q => .inl (h.rd q)) .inr
section
variable {K : Frag} {Im Im' H : Hp}
mutual
theorem Rp.mono (h : Sub Im Im') : ∀ {d : D} {v : V}, Rp K Im v d → Rp K Im' v d
  | _, _, .non => .non
  | _, _, .bl b => .bl b
  | _, _, .int i => .int i
  | _, _, .str x e l => .str x e l
  | _, _, .lst s r => .lst (h _ _ s) (RpAll.mono h r)
  | _, _, .tup s r => .tup (s.keep fun _ => h _ _) (RpAll.mono h r)
  | _, _, .scr s => .scr (h.l s)
  | _, _, .emp s => .emp (h _ _ s)
theorem RpAll.mono (h : Sub Im Im') : ∀ {ds : List D} {vs : List V}, RpAll K Im vs ds → RpAll K Im' vs ds
  | _, _, .nil => .nil
  | _, _, .cons r t => .cons (Rp.mono h r) (RpAll.mono h t)
end
mutual
theorem Rp.dp : ∀ {d : D} {v : V} {n : Nat}, okD d n = true → Rp K Im v d → Dp K Im v d
  | _, _, _, _, .non => .non
  | _, _, _, _, .bl b => .bl b
  | _, _, _, _, .int i => .int i
  | _, _, _, _, .str x _ _ => .str x
  | _, _, 0, h, .lst s r => by simp [okD] at h
  | _, _, n + 1, h, .lst s r => .lst (SqL.of s) (RpAll.dp (n := n) (by rw [okD] at h; exact h) r)
  | _, _, 0, h, .tup s r => by simp [okD] at h
  | _, _, n + 1, h, .tup s r => .tup s.sq (RpAll.dp (n := n) (by rw [okD] at h; exact h) r)
  | _, _, _, h, .scr _ => by simp [okD] at h
  | _, _, _, h, .emp _ => by simp [okD] at h
theorem RpAll.dp : ∀ {ds : List D} {vs : List V} {n : Nat}, okDs ds n = true → RpAll K Im vs ds → DpAll K Im vs ds
  | _, _, _, _, .nil => .nil
  | _, _, _, h, .cons r t => by
    rw [okDs, Bool.and_eq_true] at h
    exact .cons (Rp.dp h.1 r) (RpAll.dp h.2 t)
end
mutual
theorem Rp.lay : ∀ {d : D} {v : V} {n : Nat}, okD d n = true → Rp K Im v d → d.canLay0 = true ∧ d.depth ≤ n
  | _, _, _, _, .non => ⟨rfl, Nat.zero_le _⟩
  | _, _, _, _, .bl b => ⟨rfl, Nat.zero_le _⟩
  | _, _, _, _, .int i => ⟨rfl, Nat.zero_le _⟩
  | _, _, _, _, .str x e _ => ⟨e, Nat.zero_le _⟩
  | _, _, 0, h, .lst _ r => by simp [okD] at h
  | _, _, n + 1, h, .lst _ r => by
    have q := RpAll.lay (n := n) (by rw [okD] at h; exact h) r
    rw [PyData.canLay0, PyData.depth]
    exact ⟨q.1, Nat.succ_le_succ q.2⟩
  | _, _, 0, h, .tup _ r => by simp [okD] at h
  | _, _, n + 1, h, .tup _ r => by
    have q := RpAll.lay (n := n) (by rw [okD] at h; exact h) r
    rw [PyData.canLay0, PyData.depth]
    exact ⟨q.1, Nat.succ_le_succ q.2⟩
  | _, _, _, h, .scr _ => by simp [okD] at h
  | _, _, _, h, .emp _ => by simp [okD] at h
theorem RpAll.lay : ∀ {ds : List D} {vs : List V} {n : Nat}, okDs ds n = true → RpAll K Im vs ds → PyData.canLayAll0 ds = true ∧ PyData.depthAll ds ≤ n
  | _, _, _, _, .nil => ⟨rfl, Nat.zero_le _⟩
  | _, _, _, h, .cons r t => by
    rw [okDs, Bool.and_eq_true] at h
    have q1 := Rp.lay h.1 r
    have q2 := RpAll.lay h.2 t
    rw [PyData.canLayAll0, q1.1, q2.1, PyData.depthAll]
    exact ⟨rfl, Nat.max_le.mpr ⟨q1.2, q2.2⟩⟩
end
theorem Rp.shaped {d : D} {v : V} (h : ok d = true) (r : Rp K Im v d) : SeqAt.shaped d = true := by
  have q := Rp.lay h r
  show (d.canLay0 && decide (d.depth ≤ 64)) = true
  rw [q.1, decide_eq_true (Nat.le_trans q.2 (by decide))]
  rfl
theorem RpAll.shaped {ds : List D} {vs : List V} (h : oks ds = true) (r : RpAll K Im vs ds) : SeqAt.shaped (.list ds) = true := by
  have q := RpAll.lay h r
  show (PyData.canLay0 (.list ds) && decide (PyData.depth (.list ds) ≤ 64)) = true
  rw [PyData.canLay0, PyData.depth, q.1, decide_eq_true (show PyData.depthAll ds + 1 ≤ 64 by have := q.2; omega)]
  rfl
mutual
theorem eqv_eq : ∀ (a b : D) {n m : Nat}, okD a n = true → okD b m = true → PyData.eqv a b = eqD a b
  | .none, b, _, _, _, h => by cases b <;> first | rfl | simp [okD] at h
  | .bool x, b, _, _, _, h => by cases b <;> first | rfl | (simp [PyData.eqv, eqD]; done) | simp [okD] at h
  | .int x, b, _, _, _, h => by cases b <;> first | rfl | (simp [PyData.eqv, eqD]; done) | simp [okD] at h
  | .str x, b, _, _, _, h => by cases b <;> first | rfl | simp [okD] at h
  | .list xs, b, n, m, g, h => by
    cases b with
    | list ys =>
      cases n with
      | zero => simp [okD] at g
      | succ n =>
        cases m with
        | zero => simp [okD] at h
        | succ m =>
          rw [okD] at g h
          rw [PyData.eqv, eqD]
          exact eqv_eqs xs ys g h
    | dict _ => simp [okD] at h
    | _ => rfl
  | .tuple xs, b, n, m, g, h => by
    cases b with
    | tuple ys =>
      cases n with
      | zero => simp [okD] at g
      | succ n =>
        cases m with
        | zero => simp [okD] at h
        | succ m =>
          rw [okD] at g h
          rw [PyData.eqv, eqD]
          exact eqv_eqs xs ys g h
    | dict _ => simp [okD] at h
    | _ => rfl
  | .dict _, _, _, _, g, _ => by simp [okD] at g
theorem eqv_eqs : ∀ (xs ys : List D) {n m : Nat}, okDs xs n = true → okDs ys m = true → PyData.eqvAll xs ys = eqDs xs ys
  | [], [], _, _, _, _ => rfl
  | [], _ :: _, _, _, _, _ => rfl
  | _ :: _, [], _, _, _, _ => rfl
  | x :: xs, y :: ys, _, _, g, h => by
    rw [okDs, Bool.and_eq_true] at g h
    rw [PyData.eqvAll, eqDs, eqv_eq x y g.1 h.1, eqv_eqs xs ys g.2 h.2]
end
theorem RpAll.length : ∀ {vs : List V} {ds : List D}, RpAll K Im vs ds → vs.length = ds.length
  | _, _, .nil => rfl
  | _, _, .cons _ t => by rw [List.length_cons, List.length_cons, RpAll.length t]
theorem RpAll.append : ∀ {vs us : List V} {ds es : List D}, RpAll K Im vs ds → RpAll K Im us es → RpAll K Im (vs ++ us) (ds ++ es)
  | _, _, _, _, .nil, s => s
  | _, _, _, _, .cons r t, s => .cons r (RpAll.append t s)
theorem RpAll.take : ∀ {vs : List V} {ds : List D} (n : Nat), RpAll K Im vs ds → RpAll K Im (vs.take n) (ds.take n)
  | _, _, 0, _ => .nil
  | _, _, _ + 1, .nil => .nil
  | _, _, n + 1, .cons r t => .cons r (RpAll.take n t)
theorem RpAll.drop : ∀ {vs : List V} {ds : List D} (n : Nat), RpAll K Im vs ds → RpAll K Im (vs.drop n) (ds.drop n)
  | _, _, 0, r => r
  | _, _, _ + 1, .nil => .nil
  | _, _, n + 1, .cons _ t => RpAll.drop n t
theorem RpAll.set {v : V} {d : D} (r : Rp K Im v d) : ∀ {vs : List V} {ds : List D} (n : Nat), RpAll K Im vs ds → RpAll K Im (vs.set n v) (ds.set n d)
  | _, _, _, .nil => .nil
  | _, _, 0, .cons _ t => .cons r t
  | _, _, n + 1, .cons q t => .cons q (RpAll.set r n t)
theorem RpAll.get : ∀ {vs : List V} {ds : List D} {n : Nat} {d : D}, RpAll K Im vs ds → ds[n]? = some d → ∃ v, vs[n]? = some v ∧ Rp K Im v d
  | _, _, _, _, .nil, e => by simp at e
  | _, _, 0, _, .cons r _, e => by simp at e; subst e; exact ⟨_, rfl, r⟩
  | _, _, n + 1, _, .cons _ t, e => by
    obtain ⟨v, h1, h2⟩ := RpAll.get (n := n) t (by simpa using e)
    exact ⟨v, by simpa using h1, h2⟩
theorem RpAll.getV : ∀ {vs : List V} {ds : List D} {n : Nat} {v : V}, RpAll K Im vs ds → vs[n]? = some v → ∃ d, ds[n]? = some d ∧ Rp K Im v d
  | _, _, _, _, .nil, e => by simp at e
  | _, _, 0, _, .cons r _, e => by simp at e; subst e; exact ⟨_, rfl, r⟩
  | _, _, n + 1, _, .cons _ t, e => by
    obtain ⟨v, h1, h2⟩ := RpAll.getV (n := n) t (by simpa using e)
    exact ⟨v, by simpa using h1, h2⟩
theorem RpAll.reverse {vs : List V} {ds : List D} (r : RpAll K Im vs ds) : RpAll K Im vs.reverse ds.reverse := by
  induction vs generalizing ds with
  | nil => cases r; exact .nil
  | cons v vs ih =>
    cases r with
    | cons q t => rw [List.reverse_cons, List.reverse_cons]; exact (ih t).append (.cons q .nil)
theorem RpAll.rep {vs : List V} {ds : List D} (r : RpAll K Im vs ds) : ∀ n : Nat, RpAll K Im (List.replicate n vs).flatten (List.replicate n ds).flatten
  | 0 => .nil
  | n + 1 => by rw [List.replicate_succ, List.replicate_succ, List.flatten_cons, List.flatten_cons]; exact r.append (RpAll.rep r n)
theorem RpAll.dropLast {vs : List V} {ds : List D} (r : RpAll K Im vs ds) : RpAll K Im vs.dropLast ds.dropLast := by
  rw [List.dropLast_eq_take, List.dropLast_eq_take, r.length]
  exact r.take _
theorem RpAll.ints : ∀ ns : List Int, RpAll K Im (ns.map V.int) (ns.map PyData.int)
  | [] => .nil
  | n :: ns => .cons (.int n) (RpAll.ints ns)
end
abbrev DRel (K : Frag) (Im : Hp) : List Ent → List (D × D) → Prop := Paired fun y kv => keyOk kv.1 = true ∧ y.k = keyN kv.1 ∧ Rp K Im y.kv kv.1 ∧ Rp K Im y.v kv.2
theorem DRel.mono {K : Frag} {Im Im' : Hp} (g : Sub Im Im') {E : List Ent} {kvs : List (D × D)} (h : DRel K Im E kvs) : DRel K Im' E kvs := by
  induction h with
  | nil => exact .nil
  | cons h t ih => exact .cons ⟨h.1, h.2.1, h.2.2.1.mono g, h.2.2.2.mono g⟩ ih
inductive CellM (K : Frag) (Im H : Hp) (p : Addr) : Cell → Prop
  | lst {vs : List V} {ds : List D} : H p = some (.lst vs) → RpAll K Im vs ds → CellM K Im H p (.lst ds)
  | dct {o : Obj} {E : List Ent} {kvs : List (D × D)} : H p = some (dctO p o E) → DRel K Im E kvs → CellM K Im H p (.dct kvs)
inductive RVR (K : Frag) (Im H : Hp) : V → RV → Prop
  | d {v : V} {x : D} : Rp K Im v x → RVR K Im H v (.d x)
  | cell {p : Addr} {c : Cell} : CellM K Im H p c → RVR K Im H (.ref p) (cellRV c)
section
variable {K : Frag} {Im Im' H H' : Hp} {p : Addr} {c : Cell} {v : V}
/-- a list as it is now -/
theorem RVR.list {ds : List D} (hs : Sub Im H) (h : RVR K Im H v (.d (.list ds))) : ∃ p vs, v = .ref p ∧ H p = some (.lst vs) ∧ RpAll K Im vs ds := by
  generalize e : RV.d (PyData.list ds) = r at h
  cases h with
  | d q =>
    cases e
    cases q with
    | lst s r => exact ⟨_, _, rfl, hs _ _ s, r⟩
  | cell q =>
    cases q with
    | lst s r =>
      cases e
      exact ⟨_, _, rfl, s, r⟩
    | dct s r => cases e
theorem RVR.tuple {ds : List D} (hs : Sub Im H) (h : RVR K Im H v (.d (.tuple ds))) : ∃ p vs, v = .ref p ∧ TupAt H p vs ∧ RpAll K Im vs ds ∧ TupAt Im p vs := by
  generalize e : RV.d (PyData.tuple ds) = r at h
  cases h with
  | d q =>
    cases e
    cases q with
    | tup s r => exact ⟨_, _, rfl, s.keep fun _ => hs _ _, r, s⟩
  | cell q => cases q <;> cases e
theorem RVR.scr {xs : List D} (hs : Sub Im H) (h : RVR K Im H v (.d (.dict [(.none, .list xs)]))) : ∃ p ns, v = .ref p ∧ SqL K H p (List.map V.int ns) ∧ xs = List.map PyData.int ns := by
  generalize e : RV.d (PyData.dict [(.none, .list xs)]) = r at h
  cases h with
  | d q =>
    injection e with e
    cases q with
    | scr s =>
      injection e with e
      injection e with e _
      injection e with _ e
      injection e with e
      exact ⟨_, _, rfl, hs.l s, e⟩
    | _ => cases e
  | cell q => cases q <;> cases e
theorem RVR.int {i : Int} (h : RVR K Im H v (.d (.int i))) : v = .int i := by
  generalize e : RV.d (PyData.int i) = r at h
  cases h with
  | d q => cases e; cases q; rfl
  | cell q => cases q <;> cases e
theorem RVR.bool {b : Bool} (h : RVR K Im H v (.d (.bool b))) : v = .bl b := by
  generalize e : RV.d (PyData.bool b) = r at h
  cases h with
  | d q => cases e; cases q; rfl
  | cell q => cases q <;> cases e
theorem RVR.none (h : RVR K Im H v (.d .none)) : v = .non := by
  generalize e : RV.d PyData.none = r at h
  cases h with
  | d q => cases e; cases q; rfl
  | cell q => cases q <;> cases e
theorem RVR.str {x : Str} (h : RVR K Im H v (.d (.str x))) : v = .str x ∧ PyData.strOk x = true ∧ x.length ≤ sizeLine := by
  generalize e : RV.d (PyData.str x) = r at h
  cases h with
  | d q => cases e; cases q with | str _ h1 h2 => exact ⟨rfl, h1, h2⟩
  | cell q => cases q <;> cases e
/-- read as data over the whole heap, for what is done at once -/
theorem RVR.now {x : D} (hs : Sub Im H) (h : RVR K Im H v (.d x)) : Rp K H v x := by
  generalize e : RV.d x = r at h
  cases h with
  | d q => cases e; exact q.mono hs
  | cell q => cases q with
    | lst s r => cases e; exact .lst s (r.mono hs)
    | dct s r => cases e
/-- a dict as it is now -/
theorem RVR.dct {kvs : List (D × D)} (h : RVR K Im H v (.dct kvs)) : ∃ p o E, v = .ref p ∧ H p = some (dctO p o E) ∧ DRel K Im E kvs := by
  generalize e : RV.dct kvs = r at h
  cases h with
  | d q => cases e
  | cell q =>
    cases q with
    | lst s r => cases e
    | dct s r =>
      cases e
      exact ⟨_, _, _, rfl, s, r⟩
end
/-- all is kept; what is new in the data part was not tracked before -/
structure Grow (Im H Im' H' : Hp) : Prop where
  mono : Sub Im Im'
  keep : Sub H H'
  new : ∀ q o, Im' q = some o → Im q = some o ∨ H q = none
  sub : Sub Im' H'
theorem Grow.refl {Im H : Hp} (s : Sub Im H) : Grow Im H Im H := ⟨Sub.refl _, Sub.refl _, fun _ _ e => .inl e, s⟩
/-- a new object that is data at once -/
theorem Grow.data {Im H : Hp} {p : Addr} {o : HO} (s : Sub Im H) (n : H p = none) : Grow Im H (upd Im p o) (upd H p o) := by
  have nI : Im p = none := by
    cases e : Im p with
    | none => rfl
    | some u => rw [s _ _ e] at n; cases n
  refine ⟨fun a u e => ?_, fun a u e => ?_, fun a u e => ?_, fun a u e => ?_⟩
  · rw [upd_ne (ne_of_none e nI)]; exact e
  · rw [upd_ne (ne_of_none e n)]; exact e
  · by_cases h : a = p
    · subst h; exact .inr n
    · rw [upd_ne h] at e; exact .inl e
  · by_cases h : a = p
    · subst h; rw [upd_same] at e ⊢; exact e
    · rw [upd_ne h] at e ⊢; exact s _ _ e
/-- a new object that stays apart -/
theorem Grow.apart {Im H : Hp} {p : Addr} {o : HO} (s : Sub Im H) (n : H p = none) : Grow Im H Im (upd H p o) :=
  ⟨Sub.refl _, fun a u e => by rw [upd_ne (ne_of_none e n)]; exact e, fun a u e => .inl e, fun a u e => by rw [upd_ne (ne_of_none (s _ _ e) n)]; exact s _ _ e⟩
/-- the value that an operation gives -/
inductive ResR (K : Frag) (H Im' H' : Hp) : W → V → Prop
  | d {x : D} {v : V} : Rp K Im' v x → ResR K H Im' H' (.d x) v
  | new {c : Cell} {p : Addr} : H p = none → Im' p = none → CellM K Im' H' p c → ResR K H Im' H' (.new c) (.ref p)
/-- what is wanted behind an operation that gives w -/
def Wants (K : Frag) (Im H : Hp) (w : W) (Q : VK) : Prop := ∀ Im' v H', Grow Im H Im' H' → ResR K H Im' H' w v → Q v H'
section
variable {K : Frag} {Im H : Hp} {Q : VK} {w : W}
theorem Wants.int {i : Int} (s : Sub Im H) (h : Wants K Im H (.d (.int i)) Q) : Q (.int i) H := h Im _ H (Grow.refl s) (.d (.int i))
theorem Wants.bool {b : Bool} (s : Sub Im H) (h : Wants K Im H (.d (.bool b)) Q) : Q (.bl b) H := h Im _ H (Grow.refl s) (.d (.bl b))
theorem Wants.here {x : D} {v : V} (s : Sub Im H) (r : Rp K Im v x) (h : Wants K Im H (.d x) Q) : Q v H := h Im _ H (Grow.refl s) (.d r)
theorem Wants.lst {vs : List V} {ds : List D} (s : Sub Im H) (r : RpAll K Im vs ds) (h : Wants K Im H (.new (.lst ds)) Q) : ∀ p, H p = none → Q (.ref p) (upd H p (.lst vs)) := fun p n => by
  have nI : Im p = none := by
    cases e : Im p with
    | none => rfl
    | some u => rw [s _ _ e] at n; cases n
  exact h Im _ _ (Grow.apart s n) (.new n nI (.lst upd_same r))
theorem Wants.tup {vs : List V} {ds : List D} (s : Sub Im H) (r : RpAll K Im vs ds) (h : Wants K Im H (.d (.tuple ds)) Q) : NewT Q H vs := fun p o n hd => by
  have g := Grow.data (o := .frz o (.tup vs)) s n
  exact h _ _ _ g (.d (.tup (tupAt_new hd) (r.mono g.mono)))
theorem Wants.emp (s : Sub Im H) (h : Wants K Im H (.d (.dict [])) Q) : ∀ p, H p = none → Q (.ref p) (upd H p (.dK [])) := fun p n => by
  have g := Grow.data (o := .dK []) s n
  exact h _ _ _ g (.d (.emp upd_same))
theorem Wants.dct {E : List Ent} {kvs : List (D × D)} (s : Sub Im H) (r : DRel K Im E kvs) (h : Wants K Im H (.new (.dct kvs)) Q) : ∀ p o, H p = none → Q (.ref p) (upd H p (dctO p o E)) := fun p o n => by
  have nI : Im p = none := by
    cases e : Im p with
    | none => rfl
    | some u => rw [s _ _ e] at n; cases n
  exact h Im _ _ (Grow.apart s n) (.new n nI (.dct upd_same r))
end
/-- the rule of an operation of two values -/
def RAp2 (K : Frag) (f : Op2) : R2 := fun x y H Q => ∃ Im r q w, Sub Im H ∧ RVR K Im H x r ∧ RVR K Im H y q ∧ ap2 f r q = some w ∧ Wants K Im H w Q
/-- of one -/
def RAp1 (K : Frag) (f : Op1) (x : V) (H : Hp) (Q : VK) : Prop := ∃ Im r w, Sub Im H ∧ RVR K Im H x r ∧ ap1 f r = some w ∧ Wants K Im H w Q
end PV
namespace PV
open PySem PySem.Spec PyProof.Rows L2
section
variable {X : Cx} {pins : List (Addr × Obj)} {σ : L2.St} {H Im : Hp} {s : Shared} {a : Addr} {ob : Obj} {E : List Ent} {kvs : List (D × D)} {k d : D} {v : V} {u : Value}
mutual
theorem Rp.nested (I : Inv X pins σ H s) (hs : Sub Im H) : ∀ {d : D} {v : V} {u : Value} {n : Nat}, Rp X.K Im v d → RelV v u → keyIn d n = true → NestedIs s.heap (keyN d) u
  | _, _, u, _, .bl b, ru, _ => by
    have e : u = Value.bool b := ru
    subst e
    exact .bool rfl
  | _, _, u, _, .int i, ru, _ => by
    obtain ⟨t, e⟩ : ∃ t, u = Value.int i t := ru
    subst e
    exact .int i t
  | _, _, u, n, .tup (a := a) t r, ru, h => by
    cases n with
    | zero => simp [keyIn] at h
    | succ n =>
      rw [keyIn] at h
      have e : u = Value.ref a := ru
      subst e
      obtain ⟨its, rv, ⟨o, ho, hc, m, hd⟩, _⟩ := I.tuple (t.keep fun _ => hs _ _).sq
      rw [keyN]
      exact .tup ho hc hd (RpAll.nested I hs r rv h)
  | _, _, _, _, .non, _, h => by simp [keyIn] at h
  | _, _, _, _, .str _ _ _, _, h => by simp [keyIn] at h
  | _, _, _, _, .lst _ _, _, h => by simp [keyIn] at h
  | _, _, _, _, .scr _, _, h => by simp [keyIn] at h
  | _, _, _, _, .emp _, _, h => by simp [keyIn] at h
theorem RpAll.nested (I : Inv X pins σ H s) (hs : Sub Im H) : ∀ {ds : List D} {vs : List V} {us : List Value} {n : Nat}, RpAll X.K Im vs ds → Vals vs us → keyIns ds n = true → NestedAll s.heap (keyNs ds) us
  | _, _, _, _, .nil, .nil, _ => .nil
  | _, _, _, _, .cons r t, .cons q z, h => by
    rw [keyIns, Bool.and_eq_true] at h
    rw [keyNs]
    exact .cons (Rp.nested I hs r q h.1) (RpAll.nested I hs t z h.2)
end
/-- a key stands at an address -/
theorem key_ref {K : Frag} {Im : Hp} {v : V} (hk : keyOk k = true) (r : Rp K Im v k) : ∃ b, v = .ref b := by
  cases r with
  | tup t r => exact ⟨_, rfl⟩
  | _ => cases hk
theorem keyOk_in (hk : keyOk k = true) : keyIn k 8 = true := by
  cases k with
  | tuple xs => exact hk
  | _ => cases hk
theorem key_at (I : Inv X pins σ H s) (hs : Sub Im H) {b : Addr} (hk : keyOk k = true) (r : Rp X.K Im (.ref b) k) : (nestedKind X.prog X.w).is s.heap (keyN k) b :=
  ⟨Rp.nested I hs r rfl (keyOk_in hk), depth_le (keyOk_in hk)⟩
abbrev X3 : List Ent → List (NestedKey × Addr × Value) → Prop := Paired fun y x => y.k = x.1 ∧ y.kv = .ref x.2.1 ∧ RelV y.v x.2.2
theorem xs_of (I : Inv X pins σ H s) (hs : Sub Im H) : ∀ {E : List Ent} {kvs : List (D × D)} {es : List DictEntry}, DRel X.K Im E kvs → Paired EntR E es →
    ∃ xs, es = xs.map (entryOfKey (nestedKind X.prog X.w)) ∧ X3 E xs ∧ ∀ x ∈ xs, (nestedKind X.prog X.w).is s.heap x.1 x.2.1
  | _, _, _, .nil, .nil => ⟨[], rfl, .nil, fun _ h => nomatch h⟩
  | _, _, _, .cons (a := y) (b := kv) h t, .cons (b := e) g t' => by
    obtain ⟨xs, h1, h2, h3⟩ := xs_of I hs t t'
    obtain ⟨g1, g2, g3⟩ := g
    obtain ⟨f1, f2, f3, f4⟩ := h
    obtain ⟨b, eb⟩ := key_ref f1 f3
    rw [eb] at g1 f3
    have ek : e.key = Value.ref b := g1
    refine ⟨(y.k, b, e.val) :: xs, ?_, .cons ⟨rfl, eb, g2⟩ h2, fun x hx => ?_⟩
    · rw [List.map_cons, ← h1]
      congr 1
      obtain ⟨eh, ek', ev⟩ := e
      show DictEntry.mk eh ek' ev = DictEntry.mk (y.k.hash X.w) (.ref b) ev
      rw [show ek' = Value.ref b from ek, show eh = y.k.hash X.w from g3 X.w]
    · rcases List.mem_cons.mp hx with rfl | hx
      · rw [f2]
        exact key_at I hs f1 f3
      · exact h3 x hx
theorem X3.keys : ∀ {E : List Ent} {xs : List (NestedKey × Addr × Value)}, X3 E xs → E.map (·.k) = xs.map (·.1)
  | _, _, .nil => rfl
  | _, _, .cons h t => by rw [List.map_cons, List.map_cons, h.1, X3.keys t]
theorem dct_ofH (I : Inv X pins σ H s) (hs : Sub Im H) (ha : H a = some (dctO a ob E)) (r : DRel X.K Im E kvs) : (a == sysModules) = false ∧ ∃ xs, s.heap.DictOfH (nestedKind X.prog X.w) a xs ∧ X3 E xs := by
  obtain ⟨es, ep, h1, h2, h3, h4, h5, h6⟩ := dctO_get I ha
  obtain ⟨xs, g1, g2, g3⟩ := xs_of I hs r h4
  exact ⟨h6, xs, ⟨ob, es, ep, h1, h2, h3, g1, g3, by rw [← g2.keys]; exact h5⟩, g2⟩
theorem ent_of {K : Frag} {P : Program} {w : World} : ∀ {E : List Ent} {kvs : List (D × D)} {xs : List (NestedKey × Addr × Value)}, DRel K Im E kvs → X3 E xs → Paired EntR E (xs.map (entryOfKey (nestedKind P w)))
  | _, _, _, .nil, .nil => .nil
  | _, _, _, .cons h t, .cons g t' => by
    rw [List.map_cons]
    refine .cons ⟨?_, g.2.2, fun w' => ?_⟩ (ent_of t t')
    · rw [g.2.1]
      rfl
    · show NestedKey.hash w _ = _
      rw [← g.1, h.2.1]
      exact hash_any w w' (keyOk_in h.1)
theorem Paired.len {α β : Type} {F : α → β → Prop} : ∀ {xs : List α} {ys : List β}, Paired F xs ys → xs.length = ys.length
  | _, _, .nil => rfl
  | _, _, .cons _ t => by rw [List.length_cons, List.length_cons, Paired.len t]
theorem look_no {K : Frag} (hk : keyOk k = true) : ∀ {E : List Ent} {kvs : List (D × D)} {xs : List (NestedKey × Addr × Value)}, DRel K Im E kvs → X3 E xs → dfind kvs k = none → atKey xs (keyN k) = none
  | _, _, _, .nil, .nil, _ => rfl
  | _, _, _, .cons (b := kv) h t, .cons (b := x) g t', e => by
    unfold dfind at e
    unfold atKey
    rw [List.find?_cons] at e ⊢
    rw [keyN_eq (keyOk_in h.1) (keyOk_in hk), ← h.2.1, g.1] at e
    cases hd : decide (x.1 = keyN k) with
    | true => rw [hd] at e; cases e
    | false =>
      rw [hd] at e
      exact look_no hk t t' e
theorem look_yes {K : Frag} (hk : keyOk k = true) : ∀ {E : List Ent} {kvs : List (D × D)} {xs : List (NestedKey × Addr × Value)}, DRel K Im E kvs → X3 E xs → dfind kvs k = some d → ∃ b u V, atKey xs (keyN k) = some (b, u) ∧ RelV V u ∧ Rp K Im V d
  | _, _, _, .nil, .nil, e => by cases e
  | _, _, _, .cons (a := y) (b := kv) h t, .cons (b := x) g t', e => by
    unfold dfind at e
    unfold atKey
    rw [List.find?_cons] at e ⊢
    rw [keyN_eq (keyOk_in h.1) (keyOk_in hk), ← h.2.1, g.1] at e
    cases hd : decide (x.1 = keyN k) with
    | true =>
      rw [hd] at e
      injection e with e
      subst e
      exact ⟨x.2.1, x.2.2, y.v, rfl, g.2.2, h.2.2.2⟩
    | false =>
      rw [hd] at e
      exact look_yes hk t t' e
theorem any_find (kvs : List (D × D)) (k : D) : (kvs.any fun p => eqD p.1 k) = (dfind kvs k).isSome := by
  unfold dfind
  induction kvs with
  | nil => rfl
  | cons p kvs ih =>
    rw [List.any_cons, List.find?_cons, ih]
    cases eqD p.1 k <;> rfl
theorem has_is {K : Frag} (hk : keyOk k = true) {xs : List (NestedKey × Addr × Value)} (r : DRel K Im E kvs) (g : X3 E xs) : (atKey xs (keyN k)).isSome = kvs.any fun p => eqD p.1 k := by
  rw [any_find]
  cases e : dfind kvs k with
  | none => rw [look_no hk r g e]; rfl
  | some d => obtain ⟨b, u, V, h, _⟩ := look_yes hk r g e; rw [h]; rfl
def putE (n : NestedKey) (v : V) (y : Ent) : Ent := if y.k = n then { y with v := v } else y
def storeE (yes : Bool) (E : List Ent) (n : NestedKey) (kv v : V) : List Ent := if yes = true then E.map (putE n v) else E ++ [⟨n, kv, v⟩]
theorem map_D {K : Frag} (hk : keyOk k = true) (rv : Rp K Im v d) : ∀ {E : List Ent} {kvs : List (D × D)}, DRel K Im E kvs → DRel K Im (E.map (putE (keyN k) v)) (kvs.map fun p => if eqD p.1 k = true then (p.1, d) else p)
  | _, _, .nil => .nil
  | _, _, .cons (a := y) h t => by
    rw [List.map_cons, List.map_cons]
    refine .cons ?_ (map_D hk rv t)
    unfold putE
    rw [keyN_eq (keyOk_in h.1) (keyOk_in hk), ← h.2.1]
    by_cases e : y.k = keyN k
    · rw [if_pos e, if_pos (decide_eq_true e)]
      exact ⟨h.1, h.2.1, h.2.2.1, rv⟩
    · rw [if_neg e, if_neg (by rw [decide_eq_false e]; decide)]
      exact h
theorem map_X {n : NestedKey} (ru : RelV v u) : ∀ {E : List Ent} {xs : List (NestedKey × Addr × Value)}, X3 E xs → X3 (E.map (putE n v)) (xs.map (putAt n u))
  | _, _, .nil => .nil
  | _, _, .cons (b := x) h t => by
    rw [List.map_cons, List.map_cons]
    refine .cons ?_ (map_X ru t)
    unfold putE putAt
    rw [h.1]
    by_cases e : x.1 = n
    · rw [if_pos e, if_pos e]
      exact ⟨rfl, h.2.1, ru⟩
    · rw [if_neg e, if_neg e]
      exact h
theorem store_D {K : Frag} {kv : V} (hk : keyOk k = true) (rk : Rp K Im kv k) (rv : Rp K Im v d) (r : DRel K Im E kvs) : DRel K Im (storeE (kvs.any fun p => eqD p.1 k) E (keyN k) kv v) (dput kvs k d) := by
  unfold storeE dput
  split
  · exact map_D hk rv r
  · exact Paired.snoc r ⟨hk, rfl, rk, rv⟩
theorem store_X {b : Addr} {n : NestedKey} {xs : List (NestedKey × Addr × Value)} (g : X3 E xs) (ru : RelV v u) : X3 (storeE (atKey xs n).isSome E n (.ref b) v) (storedH xs n b u) := by
  unfold storeE storedH
  split
  · exact map_X ru g
  · exact Paired.snoc g ⟨rfl, rfl, ru⟩
theorem roomD (hu : X.A.units + 65 < cLine) : (nestedKind X.prog X.w).room X.A.in1 := by
  show X.A.units + 1 + 8 < cLine
  omega
def rSetD (K : Frag) : V → V → V → Hp → (Hp → Prop) → Prop := fun o i v H Q => ∃ p o1 E kvs k d Im, o = .ref p ∧ Sub Im H ∧ H p = some (dctO p o1 E) ∧ DRel K Im E kvs ∧ keyOk k = true ∧ Rp K Im i k ∧ Rp K Im v d ∧ kvs.length < lenLine ∧ ∀ o2, Q (upd H p (dctO p o2 (storeE (kvs.any fun p => eqD p.1 k) E (keyN k) i v)))
theorem lenLine_size : lenLine ≤ sizeLine := by rw [sizeLine_eq]; decide
theorem set_dct (hu : X.A.units + 65 < cLine) : PSet X (rSetD X.K) := by
  intro pins s σ H o i v ov iv u Q I ro ri rv ⟨p, o1, E, kvs, k, d, Im, e, hs, ha, r, hk, rk, rd, hl, q⟩
  subst e
  cases ro
  obtain ⟨b, eb⟩ := key_ref hk rk
  subst eb
  cases ri
  obtain ⟨hsys, xs, hx, g⟩ := dct_ofH I hs ha r
  have hz : xs.length ≤ sizeLine := by
    rw [← Paired.len g, Paired.len r]
    exact Nat.le_trans (Nat.le_of_lt hl) lenLine_size
  refine wpAny_setItem_heap (hsz := hz) (roomD hu) (key_at I hs hk rk) hx fun h' hx' sb => ?_
  have ya := has_is hk r g
  have g' := store_X (n := keyN k) (b := b) g rv
  rw [ya] at g'
  have r' := store_D hk rk rd r
  obtain ⟨ob, es, ep, f1, f2, f3, f4, _, f6⟩ := hx'
  have new : DctAt p ob (storeE (kvs.any fun p => eqD p.1 k) E (keyN k) (.ref b) v) h' := ⟨es, ep, f1, f2, f3, by rw [f4]; exact ent_of r' g', by rw [g'.keys]; exact f6, hsys⟩
  exact ⟨_, d_write I (by rw [ha]; trivial) sb ⟨ob, f1⟩ (dctO_ok new), q ob⟩
theorem in_dct (hu : X.A.units + 65 < cLine) {Q : VK} {y : V} {w : Value} (I : Inv X pins σ H s) (hs : Sub Im H) (rx : RelV v u) (ry : RelV y w) (r1 : RVR X.K Im H v (.d k)) (r2 : RVR X.K Im H y (.dct kvs)) (hk : keyOk k = true) (q : Q (.bl (kvs.any fun p => eqD p.1 k)) H) :
    wpAny (model X.prog X.w) X.A (compareOp .In u w) (EP X pins σ Q) X.xe s := by
  obtain ⟨p, o1, E, rfl, ha, r⟩ := r2.dct
  cases ry
  have rk : Rp X.K H v k := r1.now hs
  obtain ⟨b, rfl⟩ := key_ref hk rk
  cases rx
  obtain ⟨hsys, xs, hx, g⟩ := dct_ofH I hs ha r
  refine wpAny_in_heap (roomD hu) (key_at I (Sub.refl _) hk rk) hsys hx ?_
  rw [has_is hk r g]
  exact ⟨.bl _, H, I.tok _, rfl, q⟩
theorem notin_dct (hu : X.A.units + 65 < cLine) {Q : VK} {y : V} {w : Value} (I : Inv X pins σ H s) (hs : Sub Im H) (rx : RelV v u) (ry : RelV y w) (r1 : RVR X.K Im H v (.d k)) (r2 : RVR X.K Im H y (.dct kvs)) (hk : keyOk k = true) (q : Q (.bl (!kvs.any fun p => eqD p.1 k)) H) :
    wpAny (model X.prog X.w) X.A (compareOp .NotIn u w) (EP X pins σ Q) X.xe s := by
  obtain ⟨p, o1, E, rfl, ha, r⟩ := r2.dct
  cases ry
  have rk : Rp X.K H v k := r1.now hs
  obtain ⟨b, rfl⟩ := key_ref hk rk
  cases rx
  obtain ⟨hsys, xs, hx, g⟩ := dct_ofH I hs ha r
  refine wpAny_notIn_heap (roomD hu) (key_at I (Sub.refl _) hk rk) hsys hx ?_
  rw [has_is hk r g]
  exact ⟨.bl _, H, I.tok _, rfl, q⟩
theorem ix_dct (hu : X.A.units + 65 < cLine) {value slice : Expr} {Q : VK} {y : V} {w : Value} (I : Inv X pins σ H s) (hs : Sub Im H) (rx : RelV v u) (ry : RelV y w) (r1 : RVR X.K Im H v (.dct kvs)) (r2 : RVR X.K Im H y (.d k)) (hk : keyOk k = true) (hd : dfind kvs k = some d) (wt : Wants X.K Im H (.d d) Q)
    (hp : subscripted slice false u w = operate [u, w] (getItem u w)) : wpAny (model X.prog X.w) X.A (subscriptTail value slice u w) (EP X pins σ Q) X.xe s := by
  obtain ⟨p, o1, E, rfl, ha, r⟩ := r1.dct
  cases rx
  have rk : Rp X.K H y k := r2.now hs
  obtain ⟨b, rfl⟩ := key_ref hk rk
  cases ry
  obtain ⟨hsys, xs, hx, g⟩ := dct_ofH I hs ha r
  obtain ⟨b', u', V, h1, h2, h3⟩ := look_yes hk r g hd
  exact subscriptTail_builtinR (x := u') hx.typeIs F.slot_dict_getitem.lookup
    (wpAny_getItem_heap (Q := fun r s' => r = u' ∧ EP X pins σ Q r s') (roomD hu) (key_at I (Sub.refl _) hk rk) hx h1 ⟨rfl, V, H, I.tok _, h2, wt.here hs h3⟩) hp
end
end PV
namespace PV
open PySem PySem.Spec PyProof.Rows L2
section
variable {X : Cx}
theorem r_add : OpR X (binaryOp .Add) (RAp2 X.K .add) := by
  intro pins s σ H x y v u Q I rx ry h
  obtain ⟨Im, r, q, w, hs, r1, r2, e, wt⟩ := h
  change a2_add r q = some w at e
  unfold a2_add at e
  split at e
  · rename_i i j
    cases e
    have e1 := r1.int
    have e2 := r2.int
    subst e1 e2
    exact op_add pins s σ H _ _ v u Q I rx ry ⟨i, j, rfl, rfl, wt.int hs⟩
  · rename_i a b
    split at e
    · rename_i hl
      cases e
      obtain ⟨p, vs, rfl, hp, rv, hi⟩ := r1.tuple hs
      obtain ⟨p2, us, rfl, hp2, ru, hi2⟩ := r2.tuple hs
      refine op_catF pins s σ H _ _ v u Q I rx ry ⟨p, p2, vs, us, rfl, rfl, hp.sq, hp2.sq, by rw [rv.length, ru.length]; exact hl, fun e => ?_, fun _ e => ?_, fun _ _ => ?_⟩
      · subst e
        cases rv
        exact wt.here hs (.tup hi2 ru)
      · subst e
        cases ru
        rw [List.append_nil] at wt
        exact wt.here hs (.tup hi rv)
      · exact wt.tup hs (rv.append ru)
    · cases e
  · rename_i a b
    split at e
    · rename_i hl
      cases e
      obtain ⟨p, vs, rfl, hp, rv⟩ := r1.list hs
      obtain ⟨p2, us, rfl, hp2, ru⟩ := r2.list hs
      exact op_cat pins s σ H _ _ v u Q I rx ry ⟨p, p2, vs, us, rfl, rfl, hp, hp2, by rw [rv.length, ru.length]; exact hl, wt.lst hs (rv.append ru)⟩
    · cases e
  · cases e
theorem r_sub : OpR X (binaryOp .Sub) (RAp2 X.K .sub) := by
  intro pins s σ H x y v u Q I rx ry h
  obtain ⟨Im, r, q, w, hs, r1, r2, e, wt⟩ := h
  change a2_sub r q = some w at e
  unfold a2_sub at e
  split at e
  · rename_i i j
    cases e
    have e1 := r1.int
    have e2 := r2.int
    subst e1 e2
    exact op_sub pins s σ H _ _ v u Q I rx ry ⟨i, j, rfl, rfl, wt.int hs⟩
  · cases e
theorem log2_of_small {i : Int} (h : small i = true) : i.natAbs.log2 < 4096 := by
  have h' : i.natAbs < 2 ^ 4096 := of_decide_eq_true h
  by_cases h0 : i.natAbs = 0
  · rw [h0]; decide
  · exact (Nat.log2_lt h0).mpr h'
theorem mulOk_ok {i j : Int} (h : mulOk i j = true) : IntMulOk i j := by
  unfold mulOk at h
  rw [Bool.or_eq_true, Bool.or_eq_true, Bool.and_eq_true] at h
  rcases h with (h | h) | ⟨h1, h2⟩
  · have := of_decide_eq_true h
    exact .of_left (intBits_le_64 (by omega) (by omega))
  · have := of_decide_eq_true h
    exact .of_right (intBits_le_64 (by omega) (by omega))
  · have a := log2_of_small h1
    have b := log2_of_small h2
    exact CMulW.ok (show i.natAbs.log2 + j.natAbs.log2 < 1000000 by omega)
theorem tuple_mul1 (l : Addr) (items : Array Value) (n : Nat) (sl : Array (Option Value)) (dd : Option Addr) (u : Tok) :
    Meets (Builtin.«tuple.__mul__» ⟨[.ref l, .int 1 u], []⟩) (fun _ R s => s.heap.get? l = some { cls := .type "tuple", dict := dd, data := .seq items n, slots := sl } ∧
      R (.ok (.ret (Value.ref l))) s) :=
  .of_wp fun prog w A R s h => by
    obtain ⟨hp, g, d, tk, os⟩ := s
    obtain ⟨hl, h⟩ := h
    have f1 := AutoSeq1.idx_int
    have c1 : (items.isEmpty || (1 : Int) == 1) = true := by rw [Bool.or_eq_true]; exact .inr rfl
    wp_walk using wpAny_loadPart' hl
    exact ⟨_, rfl, h⟩
theorem op_repT1 : OpR X (binaryOp .Mult) (fun x y H Q => ∃ l xs, x = .ref l ∧ y = .int 1 ∧ SqT X.K H l xs ∧ Q (.ref l) H) := by
  intro pins s σ H x y v u Q I rx ry h
  obtain ⟨l, xs, rfl, rfl, hT, q⟩ := h
  cases rx
  obtain ⟨t, rfl⟩ := ry
  obtain ⟨its, r, ⟨⟨cls, dd, data, sl⟩, ho, hc, n, hd⟩, hs⟩ := I.tuple hT
  simp only at hc hd
  subst hc hd
  exact wpAny_binaryOp_repeat_ref (T := "tuple") (U := "int") (by decide) ⟨_, ho, rfl⟩ (fun s' => typeIs_int s' 1 t) noFill_tuple_mul F.fills_int_mul F.slot_int_rmul repeat_tuple F.slot_int_index.lookup
    (call_meets F.slot_int_rmul (typeIs_int s 1 t) F.entry_int_rmul (F.args_int_rmul_2 _ _) (int_rmul_tuple 1 t l its.toArray n dd sl)
      ⟨ho, rfl, ⟨_, ho, rfl⟩, call_meets F.slot_tuple_mul ⟨_, ho, rfl⟩ F.entry_tuple_mul (F.args_tuple_mul_2 _ _) (tuple_mul1 l its.toArray n sl dd t) ⟨ho, ⟨.ref l, H, I, rfl, q⟩⟩⟩)
theorem rep_one (xs : List D) : rep 1 xs = xs := by simp [rep]
theorem r_mul : OpR X (binaryOp .Mult) (RAp2 X.K .mul) := by
  intro pins s σ H x y v u Q I rx ry h
  obtain ⟨Im, r, q, w, hs, r1, r2, e, wt⟩ := h
  change a2_mul r q = some w at e
  unfold a2_mul at e
  split at e
  · rename_i i j
    split at e
    · rename_i hm
      cases e
      have e1 := r1.int
      have e2 := r2.int
      subst e1 e2
      obtain ⟨t, rfl⟩ := rx
      obtain ⟨t', rfl⟩ := ry
      exact mul_int ⟨.int (i * j), H, I.tok _, ⟨_, rfl⟩, wt.int hs⟩ (mulOk_ok hm)
    · cases e
  · rename_i a j
    split at e
    · rename_i hl
      cases e
      obtain ⟨p, vs, rfl, hp, rv⟩ := r1.list hs
      have e2 := r2.int
      subst e2
      exact op_rep pins s σ H _ _ v u Q I rx ry ⟨p, j, vs, rfl, rfl, hp, by omega, by omega, by rw [rv.length]; exact hl.2.2, wt.lst hs (rv.rep _)⟩
    · cases e
  · rename_i b xs j
    split at e
    · rename_i hl
      obtain ⟨h1, h2, h3⟩ := hl
      cases e
      obtain ⟨p, vs, rfl, hp, rv, hi⟩ := r1.tuple hs
      have e2 := r2.int
      subst e2
      by_cases hj : j = 1
      · subst hj
        exact op_repT1 pins s σ H _ _ v u Q I rx ry ⟨p, vs, rfl, rfl, hp.sq, wt.here hs (by rw [show (1 : Int).toNat = 1 from rfl, rep_one]; exact .tup hi rv)⟩
      · refine op_repF pins s σ H _ _ v u Q I rx ry ⟨p, j, vs, rfl, rfl, hp.sq, ?_, by omega, by omega, by rw [rv.length]; exact h3, wt.tup hs (rv.rep _)⟩
        rintro rfl
        cases rv
    · cases e
  · cases e
theorem r_fdiv : OpR X (binaryOp .FloorDiv) (RAp2 X.K .fdiv) := by
  intro pins s σ H x y v u Q I rx ry h
  obtain ⟨Im, r, q, w, hs, r1, r2, e, wt⟩ := h
  change a2_fdiv r q = some w at e
  unfold a2_fdiv at e
  split at e
  · rename_i i j
    split at e
    · rename_i hc
      cases e
      have e1 := r1.int
      have e2 := r2.int
      subst e1 e2
      rcases hc.2 with h | ⟨h1, h2⟩
      · exact op_fdivN pins s σ H _ _ v u Q I rx ry ⟨i, j, rfl, rfl, ⟨hc.1, h⟩, wt.int hs⟩
      · refine op_fdivW pins s σ H _ _ v u Q I rx ry ⟨i, j, rfl, rfl, ⟨h1, Nat.lt_trans (log2_of_small h2) (by decide)⟩, ?_⟩
        rw [Int.fdiv_eq_ediv_of_nonneg i (by omega)] at wt
        exact wt.int hs
    · cases e
  · cases e
theorem r_mod : OpR X (binaryOp .Mod) (RAp2 X.K .mod) := by
  intro pins s σ H x y v u Q I rx ry h
  obtain ⟨Im, r, q, w, hs, r1, r2, e, wt⟩ := h
  change a2_mod r q = some w at e
  unfold a2_mod at e
  split at e
  · rename_i i j
    split at e
    · rename_i hc
      cases e
      have e1 := r1.int
      have e2 := r2.int
      subst e1 e2
      exact op_modN pins s σ H _ _ v u Q I rx ry ⟨i, j, rfl, rfl, hc, wt.int hs⟩
    · cases e
  · cases e
theorem r_pow : OpR X (binaryOp .Pow) (RAp2 X.K .pow) := by
  intro pins s σ H x y v u Q I rx ry h
  obtain ⟨Im, r, q, w, hs, r1, r2, e, wt⟩ := h
  change a2_pow r q = some w at e
  unfold a2_pow at e
  split at e
  · rename_i i j
    split at e
    · rename_i hc
      cases e
      have e1 := r1.int
      have e2 := r2.int
      subst e1 e2
      exact op_pow pins s σ H _ _ v u Q I rx ry ⟨i, j, rfl, rfl, ⟨hc.1, by omega, hc.2.2⟩, wt.int hs⟩
    · cases e
  · cases e
theorem r_eq (hu : X.A.units + 64 < cLine) : OpR X (compareOp .Eq) (RAp2 X.K .eq) := by
  intro pins s σ H x y v u Q I rx ry h
  obtain ⟨Im, r, q, w, hs, r1, r2, e, wt⟩ := h
  change a2_eq r q = some w at e
  unfold a2_eq at e
  split at e
  · rename_i a b
    split at e
    · rename_i hc
      rw [Bool.and_eq_true] at hc
      cases e
      have q1 := r1.now hs
      have q2 := r2.now hs
      refine op_eqD hu pins s σ H _ _ v u Q I rx ry ⟨a, b, q1.dp hc.1, q2.dp hc.2, q1.shaped hc.1, q2.shaped hc.2, ?_⟩
      rw [eqv_eq a b hc.1 hc.2]
      exact wt.bool hs
    · cases e
  · cases e
theorem r_ne (hu : X.A.units + 64 < cLine) : OpR X (compareOp .NotEq) (RAp2 X.K .ne) := by
  intro pins s σ H x y v u Q I rx ry h
  obtain ⟨Im, r, q, w, hs, r1, r2, e, wt⟩ := h
  change a2_ne r q = some w at e
  unfold a2_ne at e
  split at e
  · rename_i a b
    split at e
    · rename_i hc
      rw [Bool.and_eq_true] at hc
      cases e
      have q1 := r1.now hs
      have q2 := r2.now hs
      refine op_neD hu pins s σ H _ _ v u Q I rx ry ⟨a, b, q1.dp hc.1, q2.dp hc.2, q1.shaped hc.1, q2.shaped hc.2, ?_⟩
      rw [eqv_eq a b hc.1 hc.2]
      exact wt.bool hs
    · cases e
  · cases e
theorem any_eqv {K : Frag} {H : Hp} {a : D} {ds : List D} (ha : ok a = true) (hd : oks ds = true) : (ds.any fun z => PyData.eqv z a) = ds.any (eqD · a) := by
  induction ds with
  | nil => rfl
  | cons d ds ih =>
    rw [oks, okDs, Bool.and_eq_true] at hd
    rw [List.any_cons, List.any_cons, ih hd.2, eqv_eq d a hd.1 ha]
theorem op_inT (hu : X.A.units + 65 < cLine) : OpR X (compareOp .In) (fun x y H Q => ∃ d ds, Dp X.K H x d ∧ Dp X.K H y (.tuple ds) ∧ SeqAt.shaped d = true ∧ SeqAt.shaped (.tuple ds) = true ∧ Q (.bl (ds.any fun z => PyData.eqv z d)) H) := by
  intro pins s σ H x y v u Q I rx ry h
  obtain ⟨d, ds, hd, he, sd, se, q⟩ := h
  obtain ⟨as, r1⟩ := Dp.reads I d x v hd rx
  obtain ⟨bs, r2⟩ := Dp.reads I (.tuple ds) y u he ry
  exact SeqAt.in_tuple_reads r2 r1 (SeqAt.canLay_of_shaped se) (SeqAt.canLay_of_shaped sd) (room_in_shaped sd hu) ⟨.bl _, H, I, rfl, q⟩
theorem op_notInT (hu : X.A.units + 65 < cLine) : OpR X (compareOp .NotIn) (fun x y H Q => ∃ d ds, Dp X.K H x d ∧ Dp X.K H y (.tuple ds) ∧ SeqAt.shaped d = true ∧ SeqAt.shaped (.tuple ds) = true ∧ Q (.bl (!ds.any fun z => PyData.eqv z d)) H) := by
  intro pins s σ H x y v u Q I rx ry h
  obtain ⟨d, ds, hd, he, sd, se, q⟩ := h
  obtain ⟨as, r1⟩ := Dp.reads I d x v hd rx
  obtain ⟨bs, r2⟩ := Dp.reads I (.tuple ds) y u he ry
  exact SeqAt.notIn_tuple_reads r2 r1 (SeqAt.canLay_of_shaped se) (SeqAt.canLay_of_shaped sd) (room_in_shaped sd hu) ⟨.bl _, H, I, rfl, q⟩
theorem shapedT {K : Frag} {Im : Hp} {ds : List D} {vs : List V} (h : oks ds = true) (r : RpAll K Im vs ds) : SeqAt.shaped (.tuple ds) = true := by
  have q := RpAll.lay h r
  show (PyData.canLay0 (.tuple ds) && decide (PyData.depth (.tuple ds) ≤ 64)) = true
  rw [PyData.canLay0, PyData.depth, q.1, decide_eq_true (show PyData.depthAll ds + 1 ≤ 64 by have := q.2; omega)]
  rfl
theorem r_isin (hu : X.A.units + 65 < cLine) : OpR X (compareOp .In) (RAp2 X.K .isin) := by
  intro pins s σ H x y v u Q I rx ry h
  obtain ⟨Im, r, q, w, hs, r1, r2, e, wt⟩ := h
  change a2_isin r q = some w at e
  unfold a2_isin at e
  split at e
  · rename_i a ds
    split at e
    · rename_i hc
      rw [Bool.and_eq_true] at hc
      cases e
      have q1 := r1.now hs
      obtain ⟨p, vs, rfl, hp, rv⟩ := r2.list hs
      refine op_inD hu pins s σ H _ _ v u Q I rx ry ⟨a, ds, q1.dp hc.1, .lst (SqL.of hp) ((rv.mono hs).dp hc.2), q1.shaped hc.1, rv.shaped hc.2, ?_⟩
      rw [any_eqv (K := X.K) (H := H) hc.1 hc.2]
      exact wt.bool hs
    · cases e
  · rename_i a ds
    split at e
    · rename_i hc
      rw [Bool.and_eq_true] at hc
      cases e
      have q1 := r1.now hs
      obtain ⟨p, vs, rfl, hp, rv, _⟩ := r2.tuple hs
      refine op_inT hu pins s σ H _ _ v u Q I rx ry ⟨a, ds, q1.dp hc.1, .tup hp.sq ((rv.mono hs).dp hc.2), q1.shaped hc.1, shapedT hc.2 rv, ?_⟩
      rw [any_eqv (K := X.K) (H := H) hc.1 hc.2]
      exact wt.bool hs
    · cases e
  · split at e
    · rename_i hk
      cases e
      exact in_dct hu I hs rx ry r1 r2 hk (wt.bool hs)
    · cases e
  · cases e
theorem r_notin (hu : X.A.units + 65 < cLine) : OpR X (compareOp .NotIn) (RAp2 X.K .notin) := by
  intro pins s σ H x y v u Q I rx ry h
  obtain ⟨Im, r, q, w, hs, r1, r2, e, wt⟩ := h
  change a2_notin r q = some w at e
  unfold a2_notin at e
  split at e
  · rename_i a ds
    split at e
    · rename_i hc
      rw [Bool.and_eq_true] at hc
      cases e
      have q1 := r1.now hs
      obtain ⟨p, vs, rfl, hp, rv⟩ := r2.list hs
      refine op_notInD hu pins s σ H _ _ v u Q I rx ry ⟨a, ds, q1.dp hc.1, .lst (SqL.of hp) ((rv.mono hs).dp hc.2), q1.shaped hc.1, rv.shaped hc.2, ?_⟩
      rw [any_eqv (K := X.K) (H := H) hc.1 hc.2]
      exact wt.bool hs
    · cases e
  · rename_i a ds
    split at e
    · rename_i hc
      rw [Bool.and_eq_true] at hc
      cases e
      have q1 := r1.now hs
      obtain ⟨p, vs, rfl, hp, rv, _⟩ := r2.tuple hs
      refine op_notInT hu pins s σ H _ _ v u Q I rx ry ⟨a, ds, q1.dp hc.1, .tup hp.sq ((rv.mono hs).dp hc.2), q1.shaped hc.1, shapedT hc.2 rv, ?_⟩
      rw [any_eqv (K := X.K) (H := H) hc.1 hc.2]
      exact wt.bool hs
    · cases e
  · split at e
    · rename_i hk
      cases e
      exact notin_dct hu I hs rx ry r1 r2 hk (wt.bool hs)
    · cases e
  · cases e
theorem isNone_eq {K : Frag} {H : Hp} {a : D} {x : V} (q : Rp K H x a) : isNone a = decide (x = .non) := by
  cases q <;> first | rfl | simp [isNone]
theorem r_is : OpR X (compareOp .Is) (RAp2 X.K .is_) := by
  intro pins s σ H x y v u Q I rx ry h
  obtain ⟨Im, r, q, w, hs, r1, r2, e, wt⟩ := h
  change a2_is_ r q = some w at e
  unfold a2_is_ at e
  split at e
  · rename_i a
    cases e
    have e2 := r2.none
    subst e2
    refine op_isN pins s σ H _ _ v u Q I rx ry ⟨rfl, ?_⟩
    rw [← isNone_eq (r1.now hs)]
    exact wt.bool hs
  · rename_i a b
    cases e
    have e1 := r1.bool
    have e2 := r2.bool
    subst e1 e2
    refine op_is_bl pins s σ H _ _ v u Q I rx ry ⟨a, b, rfl, rfl, ?_⟩
    rw [← Bool.beq_eq_decide_eq]
    exact wt.bool hs
  · cases e
theorem r_isnot : OpR X (compareOp .IsNot) (RAp2 X.K .isnot) := by
  intro pins s σ H x y v u Q I rx ry h
  obtain ⟨Im, r, q, w, hs, r1, r2, e, wt⟩ := h
  change a2_isnot r q = some w at e
  unfold a2_isnot at e
  split at e
  · rename_i a
    cases e
    have e2 := r2.none
    subst e2
    refine op_notN pins s σ H _ _ v u Q I rx ry ⟨rfl, ?_⟩
    rw [← isNone_eq (r1.now hs)]
    exact wt.bool hs
  · rename_i a b
    cases e
    have e1 := r1.bool
    have e2 := r2.bool
    subst e1 e2
    refine op_isnot_bl pins s σ H _ _ v u Q I rx ry ⟨a, b, rfl, rfl, ?_⟩
    rw [← Bool.beq_eq_decide_eq]
    exact wt.bool hs
  · cases e
mutual
theorem eqD_comm : ∀ a b : D, eqD a b = eqD b a
  | .none, b => by cases b <;> rfl
  | .bool x, b => by cases b <;> first | rfl | simp [eqD, Bool.beq_comm] | (simp only [eqD]; exact Bool.eq_iff_iff.mpr ⟨fun h => by simp at h ⊢; exact h.symm, fun h => by simp at h ⊢; exact h.symm⟩)
  | .int x, b => by cases b <;> first | rfl | (simp only [eqD]; exact Bool.eq_iff_iff.mpr ⟨fun h => by simp at h ⊢; exact h.symm, fun h => by simp at h ⊢; exact h.symm⟩)
  | .str x, b => by cases b <;> first | rfl | (simp only [eqD]; exact Bool.eq_iff_iff.mpr ⟨fun h => by simp at h ⊢; exact h.symm, fun h => by simp at h ⊢; exact h.symm⟩)
  | .list xs, b => by
    cases b with
    | list ys => rw [eqD, eqD]; exact eqDs_comm xs ys
    | _ => rfl
  | .tuple xs, b => by
    cases b with
    | tuple ys => rw [eqD, eqD]; exact eqDs_comm xs ys
    | _ => rfl
  | .dict _, b => by cases b <;> rfl
theorem eqDs_comm : ∀ a b : List D, eqDs a b = eqDs b a
  | [], [] => rfl
  | [], _ :: _ => rfl
  | _ :: _, [] => rfl
  | x :: xs, y :: ys => by rw [eqDs, eqDs, eqD_comm x y, eqDs_comm xs ys]
end
/-- what an order's operator says: from «less» and «greater» -/
def opB (op : CmpOp) (lt gt : Bool) : Bool := match op with
  | .Lt => lt
  | .Gt => gt
  | .LtE => !gt
  | _ => !lt
def ordOp (op : CmpOp) : Bool := match op with
  | .Lt => true
  | .Gt => true
  | .LtE => true
  | .GtE => true
  | _ => false
theorem rc_ints {A : Around} {s : Shared} {op : CmpOp} (ho : ordOp op = true) (a b : Int) (t u : Tok) : Ob.RcOp op A s (.int a t) (.int b u) (opB op (decide (a < b)) (decide (b < a))) := by
  cases op <;> first
    | exact Ob.RcOp.lt_int a b t u
    | exact Ob.RcOp.gt_int a b t u
    | (have e : opB .LtE (decide (a < b)) (decide (b < a)) = decide (a ≤ b) := by
         show (!decide (b < a)) = decide (a ≤ b)
         rw [← decide_not]
         exact decide_eq_decide.mpr (by omega)
       rw [e]
       exact Ob.RcOp.le_int a b t u)
    | (have e : opB .GtE (decide (a < b)) (decide (b < a)) = decide (b ≤ a) := by
         show (!decide (a < b)) = decide (b ≤ a)
         rw [← decide_not]
         exact decide_eq_decide.mpr (by omega)
       rw [e]
       exact Ob.RcOp.ge_int a b t u)
    | (exact absurd ho (by decide))
theorem rc_tups {A : Around} {s : Shared} {op : CmpOp} (ho : ordOp op = true) {l b : Addr} {items items2 : Array Value} {e r : Nat → Bool} (hl : s.heap.IsTuple l items) (hb : s.heap.IsTuple b items2) (hu : A.units < cLine)
    (he : ∀ j (h1 : j < items.size) (h2 : j < items2.size), SeqAt.EqAt A.in1 s items[j] items2[j] (e j))
    (hr : ∀ j (h1 : j < items.size) (h2 : j < items2.size), e j = false → Ob.RcOp op A.in1 s items[j] items2[j] (r j)) :
    Ob.RcOp op A s (.ref l) (.ref b) (Ob.lexAt e r (opB op (decide (items.size < items2.size)) (decide (items2.size < items.size))) 0 (min items.size items2.size)) := by
  cases op <;> first
    | exact Ob.RcOp.tuples_lt hl hb hu he hr
    | exact Ob.RcOp.tuples_gt hl hb hu he hr
    | (have e : opB .LtE (decide (items.size < items2.size)) (decide (items2.size < items.size)) = decide (items.size ≤ items2.size) := by
         show (!decide (items2.size < items.size)) = decide (items.size ≤ items2.size)
         rw [← decide_not]
         exact decide_eq_decide.mpr (by omega)
       rw [e]
       exact Ob.RcOp.tuples_le hl hb hu he hr)
    | (have e : opB .GtE (decide (items.size < items2.size)) (decide (items2.size < items.size)) = decide (items.size ≥ items2.size) := by
         show (!decide (items.size < items2.size)) = decide (items2.size ≤ items.size)
         rw [← decide_not]
         exact decide_eq_decide.mpr (by omega)
       rw [e]
       exact Ob.RcOp.tuples_ge hl hb hu he hr)
    | (exact absurd ho (by decide))
theorem lexAt_ds (op : CmpOp) : ∀ (xs ys : List D) (e r : Nat → Bool) (i : Nat),
    (∀ j x y, xs[j]? = some x → ys[j]? = some y → e (i + j) = eqD x y) → (∀ j x y, xs[j]? = some x → ys[j]? = some y → eqD x y = false → r (i + j) = opB op (ltD x y) (ltD y x)) →
    Ob.lexAt e r (opB op (decide (xs.length < ys.length)) (decide (ys.length < xs.length))) i (min xs.length ys.length) = opB op (ltDs xs ys) (ltDs ys xs)
  | [], [], _, _, _, _, _ => by cases op <;> rfl
  | [], y :: ys, _, _, _, _, _ => by
    rw [List.length_nil, Nat.zero_min, Ob.lexAt_zero, List.length_cons, decide_eq_true (Nat.succ_pos _), decide_eq_false (Nat.not_lt_zero _)]
    rfl
  | x :: xs, [], _, _, _, _, _ => by
    rw [List.length_nil, Nat.min_zero, Ob.lexAt_zero, List.length_cons, decide_eq_true (Nat.succ_pos _), decide_eq_false (Nat.not_lt_zero _)]
    rfl
  | x :: xs, y :: ys, e, r, i, h1, h2 => by
    have e1 : min (x :: xs).length (y :: ys).length = min xs.length ys.length + 1 := by simp only [List.length_cons]; omega
    have e2 : decide ((x :: xs).length < (y :: ys).length) = decide (xs.length < ys.length) := decide_eq_decide.mpr (by simp)
    have e3 : decide ((y :: ys).length < (x :: xs).length) = decide (ys.length < xs.length) := decide_eq_decide.mpr (by simp)
    have g1 := h1 0 x y rfl rfl
    have g2 := h2 0 x y rfl rfl
    rw [Nat.add_zero] at g1 g2
    rw [e1, Ob.lexAt_succ, e2, e3, g1, ltDs, ltDs, eqD_comm y x]
    cases q : eqD x y with
    | true =>
      rw [if_pos rfl, if_pos rfl, if_pos rfl]
      refine lexAt_ds op xs ys e r (i + 1) (fun j a b ha hb => ?_) (fun j a b ha hb hc => ?_)
      · rw [← h1 (j + 1) a b (by simpa using ha) (by simpa using hb)]; congr 1; omega
      · rw [← h2 (j + 1) a b (by simpa using ha) (by simpa using hb) hc]; congr 1; omega
    | false =>
      rw [if_neg Bool.false_ne_true, if_neg Bool.false_ne_true, if_neg Bool.false_ne_true]
      exact g2 q
theorem cmpOk_cases : ∀ {a b : D}, cmpOk a b = true → (∃ i j, a = .int i ∧ b = .int j) ∨ ∃ xs ys, a = .tuple xs ∧ b = .tuple ys ∧ cmpOks xs ys = true
  | .int i, .int j, _ => .inl ⟨i, j, rfl, rfl⟩
  | .tuple xs, .tuple ys, h => .inr ⟨xs, ys, rfl, rfl, h⟩
theorem cmpOks_get : ∀ {xs ys : List D} {j : Nat} {x y : D}, cmpOks xs ys = true → xs[j]? = some x → ys[j]? = some y → cmpOk x y = true
  | [], _, _, _, _, _, h, _ => by simp at h
  | _ :: _, [], _, _, _, _, _, h => by simp at h
  | a :: xs, b :: ys, 0, x, y, h, h1, h2 => by
    rw [cmpOks, Bool.and_eq_true] at h
    simp at h1 h2
    subst h1 h2
    exact h.1
  | a :: xs, b :: ys, j + 1, x, y, h, h1, h2 => by
    rw [cmpOks, Bool.and_eq_true] at h
    exact cmpOks_get h.2 (by simpa using h1) (by simpa using h2)
theorem okDs_get : ∀ {xs : List D} {n j : Nat} {x : D}, okDs xs n = true → xs[j]? = some x → okD x n = true
  | [], _, _, _, _, h => by simp at h
  | a :: xs, n, 0, x, h, h1 => by
    rw [okDs, Bool.and_eq_true] at h
    simp at h1
    subst h1
    exact h.1
  | a :: xs, n, j + 1, x, h, h1 => by
    rw [okDs, Bool.and_eq_true] at h
    exact okDs_get h.2 (by simpa using h1)
theorem readsAll_at {h : Heap} : ∀ {vs : List Value} {ds : List D} {as : List Addr} {j : Nat} {v : Value}, ReadsAll h vs ds as → vs[j]? = some v → ∃ d bs, ds[j]? = some d ∧ Reads h v d bs
  | _, _, _, _, _, .nil, e => by simp at e
  | _, _, _, 0, _, .cons r _, e => by simp at e; subst e; exact ⟨_, _, rfl, r⟩
  | _, _, _, j + 1, _, .cons _ t, e => by
    obtain ⟨d, bs, h1, h2⟩ := readsAll_at (j := j) t (by simpa using e)
    exact ⟨d, bs, by simpa using h1, h2⟩
mutual
theorem okD_depth : ∀ (d : D) (n : Nat), okD d n = true → d.depth ≤ n
  | .none, _, _ => Nat.zero_le _
  | .bool _, _, _ => Nat.zero_le _
  | .int _, _, _ => Nat.zero_le _
  | .str _, _, _ => Nat.zero_le _
  | .list _, 0, h => by simp [okD] at h
  | .tuple _, 0, h => by simp [okD] at h
  | .list xs, n + 1, h => by rw [okD] at h; rw [PyData.depth]; exact Nat.succ_le_succ (okDs_depth xs n h)
  | .tuple xs, n + 1, h => by rw [okD] at h; rw [PyData.depth]; exact Nat.succ_le_succ (okDs_depth xs n h)
  | .dict _, _, h => by simp [okD] at h
theorem okDs_depth : ∀ (ds : List D) (n : Nat), okDs ds n = true → PyData.depthAll ds ≤ n
  | [], _, _ => Nat.zero_le _
  | d :: ds, n, h => by
    rw [okDs, Bool.and_eq_true] at h
    rw [PyData.depthAll]
    exact Nat.max_le.mpr ⟨okD_depth d n h.1, okDs_depth ds n h.2⟩
end
theorem lay_get : ∀ {xs : List D} {j : Nat} {x : D}, PyData.canLayAll0 xs = true → xs[j]? = some x → x.canLay0 = true
  | [], _, _, _, h => by simp at h
  | a :: xs, 0, x, h, h1 => by
    rw [PyData.canLayAll0, Bool.and_eq_true] at h
    simp at h1
    subst h1
    exact h.1
  | a :: xs, j + 1, x, h, h1 => by
    rw [PyData.canLayAll0, Bool.and_eq_true] at h
    exact lay_get h.2 (by simpa using h1)
/-- data in order, at any depth -/
theorem rc_data {op : CmpOp} (ho : ordOp op = true) : ∀ (n : Nat) (A : Around) (s : Shared) (a b : D) (v u : Value) (as bs : List Addr), A.units + n < cLine → okD a n = true → okD b n = true → a.canLay0 = true → b.canLay0 = true → cmpOk a b = true →
    Reads s.heap v a as → Reads s.heap u b bs → Ob.RcOp op A s v u (opB op (ltD a b) (ltD b a)) := by
  intro n
  induction n with
  | zero =>
    intro A s a b v u as bs hu oa ob la lb hc ra rb
    rcases cmpOk_cases hc with ⟨i, j, rfl, rfl⟩ | ⟨xs, ys, rfl, rfl, _⟩
    · cases ra
      cases rb
      exact rc_ints ho _ _ _ _
    · simp [okD] at oa
  | succ n ih =>
    intro A s a b v u as bs hu oa ob la lb hc ra rb
    rcases cmpOk_cases hc with ⟨i, j, rfl, rfl⟩ | ⟨xs, ys, rfl, rfl, _⟩
    · cases ra
      cases rb
      exact rc_ints ho _ _ _ _
    · rw [okD] at oa ob
      rw [cmpOk] at hc
      rw [PyData.canLay0] at la lb
      cases ra with
      | @tuple l o vs m _ as₁ h1 h2 h3 h4 =>
        cases rb with
        | @tuple l' o' vs' m' _ bs₁ k1 k2 k3 k4 =>
          have n1 : vs.size = xs.length := by simpa using SeqAt.ReadsAll.length _ _ _ h4
          have n2 : vs'.size = ys.length := by simpa using SeqAt.ReadsAll.length _ _ _ k4
          have R := rc_tups (A := A) (s := s) (e := fun j => eqD (xs.getD j .none) (ys.getD j .none)) (r := fun j => opB op (ltD (xs.getD j .none) (ys.getD j .none)) (ltD (ys.getD j .none) (xs.getD j .none))) ho
            ⟨_, h1, h2, _, h3⟩ ⟨_, k1, k2, _, k3⟩ (by omega) (fun j j1 j2 => ?_) (fun j j1 j2 _ => ?_)
          · rw [n1, n2, lexAt_ds op xs ys _ _ 0 (fun j x y e1 e2 => by simp [List.getD, e1, e2]) (fun j x y e1 e2 _ => by simp [List.getD, e1, e2])] at R
            exact R
          · have jx : j < xs.length := by omega
            have jy : j < ys.length := by omega
            have q := SeqAt.eqAt_readsAll xs ys A.in1 s vs.toList vs'.toList _ _ h4 k4 la lb (by
              have := okDs_depth xs n oa
              show A.units + 1 + min (PyData.depthAll xs) (PyData.depthAll ys) < cLine
              omega) j (by simpa using j1) (by simpa using j2)
            have e1 : SeqAt.pairEq xs ys j = eqD (xs.getD j .none) (ys.getD j .none) := by
              show PyData.eqv _ _ = _
              refine eqv_eq _ _ (n := n) (m := n) (okDs_get (j := j) oa ?_) (okDs_get (j := j) ob ?_)
              · rw [List.getD_eq_getElem?_getD, List.getElem?_eq_getElem jx]; rfl
              · rw [List.getD_eq_getElem?_getD, List.getElem?_eq_getElem jy]; rfl
            rw [e1] at q
            simpa using q
          · have jx : j < xs.length := by omega
            have jy : j < ys.length := by omega
            obtain ⟨d, ds, d1, d2⟩ := readsAll_at (j := j) (v := vs[j]) h4 (by simp [j1])
            obtain ⟨d', ds', d1', d2'⟩ := readsAll_at (j := j) (v := vs'[j]) k4 (by simp [j2])
            have z := ih A.in1 s d d' _ _ ds ds' (by show A.units + 1 + n < cLine; omega) (okDs_get oa d1) (okDs_get ob d1') (lay_get la d1) (lay_get lb d1') (cmpOks_get hc d1 d1') d2 d2'
            have e1 : xs.getD j .none = d := by simp [List.getD, d1]
            have e2 : ys.getD j .none = d' := by simp [List.getD, d1']
            rw [e1, e2]
            exact z
theorem r_ord {op : CmpOp} (ho : ordOp op = true) (hu : X.A.units + 64 < cLine) : OpR X (compareOp op) (fun x y H Q => ∃ a b, Rp X.K H x a ∧ Rp X.K H y b ∧ okD a 21 = true ∧ okD b 21 = true ∧ cmpOk a b = true ∧ Q (.bl (opB op (ltD a b) (ltD b a))) H) := by
  intro pins s σ H x y v u Q I rx ry h
  obtain ⟨a, b, ha, hb, oa, ob, hc, q⟩ := h
  obtain ⟨as, r1⟩ := Dp.reads I a x v (ha.dp oa) rx
  obtain ⟨bs, r2⟩ := Dp.reads I b y u (hb.dp ob) ry
  have R := rc_data ho 21 X.A s a b v u as bs (by omega) oa ob (ha.lay oa).1 (hb.lay ob).1 hc r1 r2
  have z := R X.prog X.w X.xe (EP X pins σ Q) ⟨.bl _, H, I, rfl, q⟩
  cases op <;> first | exact z | exact absurd ho (by decide)
theorem ok_int {i : Int} {n : Nat} : okD (.int i) n = true := by cases n <;> rfl
theorem tups_ok {a : List D} (h : okDs a 20 = true) : okD (.tuple a) 21 = true := by rw [okD]; exact h
theorem r_lt (hu : X.A.units + 64 < cLine) : OpR X (compareOp .Lt) (RAp2 X.K .lt) := by
  intro pins s σ H x y v u Q I rx ry h
  obtain ⟨Im, r, q, w, hs, r1, r2, e, wt⟩ := h
  change a2_lt r q = some w at e
  unfold a2_lt at e
  split at e
  · rename_i i j
    cases e
    exact r_ord (op := .Lt) rfl hu pins s σ H _ _ v u Q I rx ry ⟨_, _, r1.now hs, r2.now hs, ok_int, ok_int, rfl, wt.bool hs⟩
  · rename_i a b
    split at e
    · rename_i hc
      rw [Bool.and_eq_true, Bool.and_eq_true] at hc
      cases e
      exact r_ord (op := .Lt) rfl hu pins s σ H _ _ v u Q I rx ry ⟨_, _, r1.now hs, r2.now hs, tups_ok hc.1.1, tups_ok hc.1.2, hc.2, wt.bool hs⟩
    · cases e
  · cases e
theorem r_gt (hu : X.A.units + 64 < cLine) : OpR X (compareOp .Gt) (RAp2 X.K .gt) := by
  intro pins s σ H x y v u Q I rx ry h
  obtain ⟨Im, r, q, w, hs, r1, r2, e, wt⟩ := h
  change a2_gt r q = some w at e
  unfold a2_gt at e
  split at e
  · rename_i i j
    cases e
    exact r_ord (op := .Gt) rfl hu pins s σ H _ _ v u Q I rx ry ⟨_, _, r1.now hs, r2.now hs, ok_int, ok_int, rfl, wt.bool hs⟩
  · rename_i a b
    split at e
    · rename_i hc
      rw [Bool.and_eq_true, Bool.and_eq_true] at hc
      cases e
      exact r_ord (op := .Gt) rfl hu pins s σ H _ _ v u Q I rx ry ⟨_, _, r1.now hs, r2.now hs, tups_ok hc.1.1, tups_ok hc.1.2, hc.2, wt.bool hs⟩
    · cases e
  · cases e
theorem le_ints (i j : Int) : opB .LtE (ltD (.int i) (.int j)) (ltD (.int j) (.int i)) = decide (i ≤ j) := by
  show (!decide (j < i)) = decide (i ≤ j)
  rw [← decide_not]
  exact decide_eq_decide.mpr (by omega)
theorem ge_ints (i j : Int) : opB .GtE (ltD (.int i) (.int j)) (ltD (.int j) (.int i)) = decide (j ≤ i) := by
  show (!decide (i < j)) = decide (j ≤ i)
  rw [← decide_not]
  exact decide_eq_decide.mpr (by omega)
theorem r_le (hu : X.A.units + 64 < cLine) : OpR X (compareOp .LtE) (RAp2 X.K .le) := by
  intro pins s σ H x y v u Q I rx ry h
  obtain ⟨Im, r, q, w, hs, r1, r2, e, wt⟩ := h
  change a2_le r q = some w at e
  unfold a2_le at e
  split at e
  · rename_i i j
    cases e
    exact r_ord (op := .LtE) rfl hu pins s σ H _ _ v u Q I rx ry ⟨_, _, r1.now hs, r2.now hs, ok_int, ok_int, rfl, by rw [le_ints]; exact wt.bool hs⟩
  · rename_i a b
    split at e
    · rename_i hc
      rw [Bool.and_eq_true, Bool.and_eq_true] at hc
      cases e
      exact r_ord (op := .LtE) rfl hu pins s σ H _ _ v u Q I rx ry ⟨_, _, r1.now hs, r2.now hs, tups_ok hc.1.1, tups_ok hc.1.2, hc.2, wt.bool hs⟩
    · cases e
  · cases e
theorem r_ge (hu : X.A.units + 64 < cLine) : OpR X (compareOp .GtE) (RAp2 X.K .ge) := by
  intro pins s σ H x y v u Q I rx ry h
  obtain ⟨Im, r, q, w, hs, r1, r2, e, wt⟩ := h
  change a2_ge r q = some w at e
  unfold a2_ge at e
  split at e
  · rename_i i j
    cases e
    exact r_ord (op := .GtE) rfl hu pins s σ H _ _ v u Q I rx ry ⟨_, _, r1.now hs, r2.now hs, ok_int, ok_int, rfl, by rw [ge_ints]; exact wt.bool hs⟩
  · rename_i a b
    split at e
    · rename_i hc
      rw [Bool.and_eq_true, Bool.and_eq_true] at hc
      cases e
      exact r_ord (op := .GtE) rfl hu pins s σ H _ _ v u Q I rx ry ⟨_, _, r1.now hs, r2.now hs, tups_ok hc.1.1, tups_ok hc.1.2, hc.2, wt.bool hs⟩
    · cases e
  · cases e
theorem atI_ix {α : Type} (xs : List α) (i : Int) : L2.atI xs i = if 0 ≤ i then xs[i.toNat]? else if 0 ≤ i + xs.length then xs[(i + xs.length).toNat]? else none := by
  unfold L2.atI L2.ixN
  by_cases h : 0 ≤ i
  · rw [if_pos h, if_pos h]
    by_cases h2 : i < xs.length
    · rw [if_pos h2]; rfl
    · rw [if_neg h2]
      exact (List.getElem?_eq_none (by omega)).symm
  · rw [if_neg h, if_neg h]
    by_cases h2 : -(xs.length : Int) ≤ i
    · rw [if_pos h2, if_pos (by omega)]; rfl
    · rw [if_neg h2, if_neg (by omega)]; rfl
theorem atI_rp {K : Frag} {Im : Hp} {vs : List V} {ds : List D} {i : Int} {d : D} (r : RpAll K Im vs ds) (h : PV.atI ds i = some d) : ∃ v, L2.atI vs i = some v ∧ Rp K Im v d := by
  rw [atI_ix, r.length]
  unfold PV.atI at h
  split at h
  · rename_i h0
    rw [if_pos h0]
    exact r.get h
  · rename_i h0
    rw [if_neg h0]
    split at h
    · rename_i h1
      rw [if_pos h1]
      exact r.get h
    · cases h
theorem r_ix (hu : X.A.units + 65 < cLine) : IxR X (RAp2 X.K .ix) := by
  intro value slice pins s σ H x y v u Q I rx ry h hp
  obtain ⟨Im, r, q, w, hs, r1, r2, e, wt⟩ := h
  change a2_ix r q = some w at e
  unfold a2_ix at e
  split at e
  · rename_i ds i
    cases e1 : PV.atI ds i with
    | none => rw [e1] at e; cases e
    | some d =>
      rw [e1] at e
      cases e
      obtain ⟨p, vs, rfl, hp', rv⟩ := r1.list hs
      have e2 := r2.int
      subst e2
      obtain ⟨z, h1, h2⟩ := atI_rp rv e1
      exact ix_list value slice pins s σ H _ _ v u Q I rx ry ⟨p, vs, i, z, rfl, rfl, SqL.of hp', h1, wt.here hs h2⟩ hp
  · rename_i ds i
    cases e1 : PV.atI ds i with
    | none => rw [e1] at e; cases e
    | some d =>
      rw [e1] at e
      cases e
      obtain ⟨p, vs, rfl, hp', rv, _⟩ := r1.tuple hs
      have e2 := r2.int
      subst e2
      obtain ⟨z, h1, h2⟩ := atI_rp rv e1
      exact ix_tup value slice pins s σ H _ _ v u Q I rx ry ⟨p, vs, i, z, rfl, rfl, hp'.sq, h1, wt.here hs h2⟩ hp
  · rename_i xs i
    cases e1 : PV.atI xs i with
    | none => rw [e1] at e; cases e
    | some d =>
      rw [e1] at e
      cases e
      obtain ⟨p, ns, rfl, hp', rfl⟩ := r1.scr hs
      have e2 := r2.int
      subst e2
      obtain ⟨z, h1, h2⟩ := atI_rp (RpAll.ints (K := X.K) (Im := Im) ns) e1
      exact ix_list value slice pins s σ H _ _ v u Q I rx ry ⟨p, _, i, z, rfl, rfl, hp', h1, wt.here hs h2⟩ hp
  · rename_i kvs kd
    split at e
    · rename_i hk
      rw [Option.map_eq_some_iff] at e
      obtain ⟨d, e1, rfl⟩ := e
      exact ix_dct hu I hs rx ry r1 r2 hk e1 wt hp
    · cases e
  · cases e
end
end PV
namespace PV
open PySem
mutual
theorem ltD_irrefl : ∀ a : D, ltD a a = false
  | .none => rfl
  | .bool _ => rfl
  | .int i => decide_eq_false (Int.lt_irrefl i)
  | .str _ => rfl
  | .list _ => rfl
  | .tuple xs => by rw [ltD]; exact ltDs_irrefl xs
  | .dict _ => rfl
theorem ltDs_irrefl : ∀ xs : List D, ltDs xs xs = false
  | [] => rfl
  | x :: xs => by
    rw [ltDs]
    split
    · exact ltDs_irrefl xs
    · exact ltD_irrefl x
end
mutual
theorem eqD_comm' : ∀ a b : D, eqD a b = true → eqD b a = true
  | .none, .none, _ => rfl
  | .bool x, .bool y, h => by simp only [eqD, beq_iff_eq] at h ⊢; exact h.symm
  | .bool x, .int y, h => by simp only [eqD, beq_iff_eq] at h ⊢; exact h.symm
  | .int x, .bool y, h => by simp only [eqD, beq_iff_eq] at h ⊢; exact h.symm
  | .int x, .int y, h => by simp only [eqD, beq_iff_eq] at h ⊢; exact h.symm
  | .str x, .str y, h => by simp only [eqD, beq_iff_eq] at h ⊢; exact h.symm
  | .list xs, .list ys, h => by rw [eqD] at h ⊢; exact eqDs_comm' xs ys h
  | .tuple xs, .tuple ys, h => by rw [eqD] at h ⊢; exact eqDs_comm' xs ys h
theorem eqDs_comm' : ∀ a b : List D, eqDs a b = true → eqDs b a = true
  | [], [], _ => rfl
  | x :: xs, y :: ys, h => by
    rw [eqDs, Bool.and_eq_true] at h ⊢
    exact ⟨eqD_comm' x y h.1, eqDs_comm' xs ys h.2⟩
end
mutual
theorem ltD_asym : ∀ a b : D, ltD a b = true → ltD b a = false
  | .int i, .int j, h => by
    have h' : i < j := of_decide_eq_true h
    exact decide_eq_false (by omega)
  | .tuple xs, .tuple ys, h => by rw [ltD] at h ⊢; exact ltDs_asym xs ys h
theorem ltDs_asym : ∀ xs ys : List D, ltDs xs ys = true → ltDs ys xs = false
  | [], _ :: _, _ => rfl
  | x :: xs, y :: ys, h => by
    rw [ltDs] at h ⊢
    by_cases e : eqD x y = true
    · rw [if_pos e] at h
      rw [if_pos (eqD_comm' x y e)]
      exact ltDs_asym xs ys h
    · rw [if_neg e] at h
      rw [if_neg (fun z => e (eqD_comm' y x z))]
      exact ltD_asym x y h
end
mutual
theorem eqD_eq : ∀ a b : D, cmpOk a b = true → eqD a b = true → a = b
  | .int i, .int j, _, h => by
    have : i = j := by simpa [eqD] using h
    rw [this]
  | .tuple xs, .tuple ys, hc, h => by rw [eqD] at h; rw [cmpOk] at hc; rw [eqDs_eq xs ys hc h]
theorem eqDs_eq : ∀ xs ys : List D, cmpOks xs ys = true → eqDs xs ys = true → xs = ys
  | [], [], _, _ => rfl
  | x :: xs, y :: ys, hc, h => by
    rw [eqDs, Bool.and_eq_true] at h
    rw [cmpOks, Bool.and_eq_true] at hc
    rw [eqD_eq x y hc.1 h.1, eqDs_eq xs ys hc.2 h.2]
end
mutual
/-- one of three -/
theorem ltD_tri : ∀ a b : D, cmpOk a b = true → ltD a b = true ∨ (a = b ∧ eqD a b = true) ∨ ltD b a = true
  | .int i, .int j, _ => by
    rcases Int.lt_trichotomy i j with h | h | h
    · exact .inl (decide_eq_true h)
    · subst h; exact .inr (.inl ⟨rfl, by simp [eqD]⟩)
    · exact .inr (.inr (decide_eq_true h))
  | .tuple xs, .tuple ys, h => by
    rw [cmpOk] at h
    rcases ltDs_tri xs ys h with q | ⟨q, e⟩ | q
    · exact .inl q
    · subst q; exact .inr (.inl ⟨rfl, e⟩)
    · exact .inr (.inr q)
theorem ltDs_tri : ∀ xs ys : List D, cmpOks xs ys = true → ltDs xs ys = true ∨ (xs = ys ∧ eqDs xs ys = true) ∨ ltDs ys xs = true
  | [], [], _ => .inr (.inl ⟨rfl, rfl⟩)
  | [], _ :: _, _ => .inl rfl
  | _ :: _, [], _ => .inr (.inr rfl)
  | x :: xs, y :: ys, h => by
    rw [cmpOks, Bool.and_eq_true] at h
    rw [ltDs, ltDs]
    rcases ltD_tri x y h.1 with q | ⟨q, e⟩ | q
    · have e : ¬ eqD x y = true := fun z => by
        have := eqD_eq x y h.1 z
        subst this
        rw [ltD_irrefl] at q; cases q
      rw [if_neg e]
      exact .inl q
    · subst q
      rw [if_pos e, if_pos e]
      rcases ltDs_tri xs ys h.2 with r | ⟨r, e2⟩ | r
      · exact .inl r
      · subst r
        exact .inr (.inl ⟨rfl, by rw [eqDs, e, e2]; rfl⟩)
      · exact .inr (.inr r)
    · have e : ¬ eqD y x = true := fun z => by
        have := eqD_eq x y h.1 (eqD_comm' y x z)
        subst this
        rw [ltD_irrefl] at q; cases q
      rw [if_neg e]
      exact .inr (.inr q)
end
mutual
theorem ltD_trans : ∀ a b c : D, cmpOk a b = true → cmpOk b c = true → cmpOk a c = true → ltD a b = true → ltD b c = true → ltD a c = true
  | .int i, .int j, .int k, _, _, _, h, g => by
    have h' : i < j := of_decide_eq_true h
    have g' : j < k := of_decide_eq_true g
    exact decide_eq_true (by omega)
  | .tuple xs, .tuple ys, .tuple zs, h1, h2, h3, h, g => by
    rw [cmpOk] at h1 h2 h3
    rw [ltD] at h g ⊢
    exact ltDs_trans xs ys zs h1 h2 h3 h g
theorem ltDs_trans : ∀ xs ys zs : List D, cmpOks xs ys = true → cmpOks ys zs = true → cmpOks xs zs = true → ltDs xs ys = true → ltDs ys zs = true → ltDs xs zs = true
  | [], _ :: _, _ :: _, _, _, _, _, _ => rfl
  | x :: xs, y :: ys, z :: zs, h1, h2, h3, h, g => by
    rw [cmpOks, Bool.and_eq_true] at h1 h2 h3
    rw [ltDs] at h g ⊢
    by_cases e1 : eqD x y = true
    · have q1 := eqD_eq x y h1.1 e1
      subst q1
      rw [if_pos e1] at h
      by_cases e2 : eqD x z = true
      · rw [if_pos e2] at g ⊢
        exact ltDs_trans xs ys zs h1.2 h2.2 h3.2 h g
      · rw [if_neg e2] at g ⊢
        exact g
    · rw [if_neg e1] at h
      by_cases e2 : eqD y z = true
      · have q2 := eqD_eq y z h2.1 e2
        subst q2
        rw [if_neg e1]
        exact h
      · rw [if_neg e2] at g
        have r := ltD_trans x y z h1.1 h2.1 h3.1 h g
        have e3 : ¬ eqD x z = true := fun q => by
          have := eqD_eq x z h3.1 q
          subst this
          rw [ltD_irrefl] at r; cases r
        rw [if_neg e3]
        exact r
  | [], [], _, _, _, _, h, _ => by simp [ltDs] at h
  | _ :: _, [], _, _, _, _, h, _ => by simp [ltDs] at h
  | _, _ :: _, [], _, _, _, _, g => by simp [ltDs] at g
end
/-- not greater: of comparable ones -/
theorem le_trans3 {x y z : D} (h1 : cmpOk x y = true) (h2 : cmpOk y z = true) (h3 : cmpOk x z = true) (a : ltD y x = false) (b : ltD z y = false) : ltD z x = false := by
  rcases ltD_tri x y h1 with q | ⟨q, _⟩ | q
  · rcases ltD_tri y z h2 with r | ⟨r, _⟩ | r
    · exact ltD_asym _ _ (ltD_trans x y z h1 h2 h3 q r)
    · subst r; exact a
    · rw [b] at r; cases r
  · subst q; exact b
  · rw [a] at q; cases q
theorem le_antisymm3 {x y : D} (h1 : cmpOk x y = true) (a : ltD y x = false) (b : ltD x y = false) : x = y := by
  rcases ltD_tri x y h1 with q | ⟨q, _⟩ | q
  · rw [b] at q; cases q
  · exact q
  · rw [a] at q; cases q
section
variable {lt : D → D → Bool}
theorem insD_perm (x : D) : ∀ l : List D, (insD lt x l).Perm (x :: l)
  | [] => .refl _
  | y :: ys => by
    unfold insD
    split
    · exact .refl _
    · exact ((insD_perm x ys).cons y).trans (.swap x y ys)
theorem foldl_ins (xs : List D) : ∀ acc : List D, (xs.foldl (fun acc x => insD lt x acc) acc).Perm (xs ++ acc) := by
  induction xs with
  | nil => exact fun acc => .refl _
  | cons x xs ih =>
    intro acc
    refine (ih _).trans ?_
    exact ((insD_perm x acc).append_left xs).trans List.perm_middle
theorem sortD_perm (xs : List D) : (sortD lt xs).Perm xs := by
  have := foldl_ins (lt := lt) xs []
  rw [List.append_nil] at this
  exact this
/-- in order: lt b a = false for a ahead of b; the order is total and transitive among the items -/
theorem insD_sorted {x : D} : ∀ {l : List D}, (∀ y ∈ l, lt x y = true → lt y x = false) → (∀ y ∈ l, ∀ z ∈ l, lt y x = false → lt z y = false → lt z x = false) →
    l.Pairwise (fun a b => lt b a = false) → (insD lt x l).Pairwise (fun a b => lt b a = false)
  | [], _, _, _ => List.pairwise_singleton _ _
  | y :: ys, ha, ht, hs => by
    rw [List.pairwise_cons] at hs
    unfold insD
    split
    · rename_i h
      have h1 := ha y (List.mem_cons_self ..) h
      rw [List.pairwise_cons, List.pairwise_cons]
      refine ⟨fun z hz => ?_, hs⟩
      rcases List.mem_cons.mp hz with rfl | hz'
      · exact h1
      · exact ht y (List.mem_cons_self ..) z hz h1 (hs.1 z hz')
    · rename_i h
      rw [List.pairwise_cons]
      refine ⟨fun z hz => ?_, insD_sorted (fun y hy => ha y (List.mem_cons_of_mem _ hy)) (fun y hy z hz => ht y (List.mem_cons_of_mem _ hy) z (List.mem_cons_of_mem _ hz)) hs.2⟩
      rcases List.mem_cons.mp ((insD_perm x ys).mem_iff.mp hz) with rfl | hz'
      · simpa using h
      · exact hs.1 z hz'
theorem foldl_sorted (P : D → Prop) (ha : ∀ x y, P x → P y → lt x y = true → lt y x = false) (ht : ∀ x y z, P x → P y → P z → lt y x = false → lt z y = false → lt z x = false) : ∀ (xs acc : List D), (∀ x ∈ xs, P x) → (∀ x ∈ acc, P x) →
    acc.Pairwise (fun a b => lt b a = false) → (xs.foldl (fun acc x => insD lt x acc) acc).Pairwise (fun a b => lt b a = false)
  | [], _, _, _, h => h
  | x :: xs, acc, h1, h2, h => by
    have hx := h1 x (List.mem_cons_self ..)
    refine foldl_sorted P ha ht xs _ (fun y hy => h1 y (List.mem_cons_of_mem _ hy)) (fun y hy => ?_) (insD_sorted (fun y hy => ha x y hx (h2 y hy)) (fun y hy z hz => ht x y z hx (h2 y hy) (h2 z hz)) h)
    rcases List.mem_cons.mp ((insD_perm x acc).mem_iff.mp hy) with rfl | hy'
    · exact hx
    · exact h2 y hy'
theorem sortD_sorted {xs : List D} (ha : ∀ x ∈ xs, ∀ y ∈ xs, lt x y = true → lt y x = false) (ht : ∀ x ∈ xs, ∀ y ∈ xs, ∀ z ∈ xs, lt y x = false → lt z y = false → lt z x = false) : (sortD lt xs).Pairwise (fun a b => lt b a = false) :=
  foldl_sorted (· ∈ xs) (fun x y h1 h2 => ha x h1 y h2) (fun x y z h1 h2 h3 => ht x h1 y h2 z h3) xs [] (fun _ h => h) (fun _ h => nomatch h) .nil
end
/-- lists in order with the same items are one -/
theorem sorted_one {R : D → D → Prop} : ∀ {l m : List D}, l.Perm m → l.Pairwise R → m.Pairwise R → (∀ x ∈ l, ∀ y ∈ l, R x y → R y x → x = y) → l = m
  | [], m, p, _, _, _ => by rw [p.symm.eq_nil]
  | x :: l, [], p, _, _, _ => nomatch p.eq_nil
  | x :: l, y :: m, p, h1, h2, anti => by
    rw [List.pairwise_cons] at h1 h2
    have hxy : x = y := by
      rcases List.mem_cons.mp (p.mem_iff.mp (List.mem_cons_self ..)) with h | hx
      · exact h
      rcases List.mem_cons.mp (p.symm.mem_iff.mp (List.mem_cons_self ..)) with h | hy
      · exact h.symm
      exact anti x (List.mem_cons_self ..) y (List.mem_cons_of_mem _ hy) (h1.1 y hy) (h2.1 x hx)
    subst hxy
    rw [sorted_one (p.cons_inv) h1.2 h2.2 fun a ha b hb => anti a (List.mem_cons_of_mem _ ha) b (List.mem_cons_of_mem _ hb)]
/-- comparable all -/
theorem cmpAll_of {xs : List D} (h : cmpAll xs = true) : okDs xs 20 = true ∧ ∀ x ∈ xs, ∀ y ∈ xs, cmpOk x y = true := by
  unfold cmpAll at h
  rw [Bool.and_eq_true] at h
  refine ⟨h.1, fun x hx y hy => ?_⟩
  exact List.all_eq_true.mp (List.all_eq_true.mp h.2 x hx) y hy
theorem sortD_is {xs ys : List D} (h : ∀ x ∈ xs, ∀ y ∈ xs, cmpOk x y = true) (p : ys.Perm xs) (s : ys.Pairwise (fun a b => ltD b a = false)) : ys = sortD ltD xs := by
  refine sorted_one (p.trans (sortD_perm xs).symm) s (sortD_sorted (fun x _ y _ q => ltD_asym _ _ q) fun x hx y hy z hz a b => le_trans3 (h x hx y hy) (h y hy z hz) (h x hx z hz) a b) fun x hx y hy a b => ?_
  exact le_antisymm3 (h x (p.mem_iff.mp hx) y (p.mem_iff.mp hy)) a b
end PV
namespace PV
open PySem PySem.Spec PyProof.Rows L2
abbrev St := L2.St
structure Rel (K : Frag) (σ : St) (Im H : Hp) (s : Sg) : Prop where
  len : s.length = σ.length
  sub : Sub Im H
  d : ∀ (i : Nat) (x : D), s[i]? = some (some (.d x)) → ∃ v, σ[i]? = some (some v) ∧ Rp K Im v x
  m : ∀ (i : Nat) (k : Mode) (c : Cell), s[i]? = some (some (.m k c)) → ∃ p, σ[i]? = some (some (.ref p)) ∧ CellM K Im H p c ∧ Im p = none
  ne : ∀ (i j : Nat) (k k' : Mode) (c c' : Cell) (p : Addr), s[i]? = some (some (.m k c)) → s[j]? = some (some (.m k' c')) → σ[i]? = some (some (.ref p)) → σ[j]? = some (some (.ref p)) → i = j
/-- the objects that the code may change -/
def Tch (σ : St) (s : Sg) (p : Addr) : Prop := ∃ (i : Nat) (k : Mode) (c : Cell), k ≠ Mode.lock ∧ s[i]? = some (some (.m k c)) ∧ σ[i]? = some (some (.ref p))
structure Stp (T : Addr → Prop) (Im H Im' H' : Hp) : Prop where
  mono : Sub Im Im'
  keep : ∀ p o, H p = some o → ¬ T p → H' p = some o
  there : ∀ p o, H p = some o → ∃ o', H' p = some o'
  new : ∀ q o, Im' q = some o → Im q = some o ∨ H q = none ∨ T q
structure Sto (T : Addr → Prop) (σ : St) (s : Sg) (Im H : Hp) (σ' : St) (s' : Sg) (Im' H' : Hp) : Prop extends Stp T Im H Im' H' where
  own : ∀ (i : Nat) (c' : Cell) (p : Addr), s'[i]? = some (some (.m .own c')) → σ'[i]? = some (some (.ref p)) → H p = none ∨ ∃ (j : Nat) (c : Cell), s[j]? = some (some (.m .own c)) ∧ σ[j]? = some (some (.ref p))
  old : ∀ (i : Nat) (k : Mode) (c' : Cell), k ≠ Mode.own → s'[i]? = some (some (.m k c')) → ∃ c, s[i]? = some (some (.m k c)) ∧ σ'[i]? = σ[i]? ∧ (k = .lock → c' = c)
section
variable {K : Frag} {σ σ' σ1 σ2 : St} {Im H Im' H' H0 Im1 H1 Im2 H2 : Hp} {s s' s1 s2 : Sg} {p : Addr} {c : Cell} {v : V} {w : W} {x : D}
theorem CellM.there (h : CellM K Im H p c) : ∃ o, H p = some o := by
  cases h with
  | lst e _ => exact ⟨_, e⟩
  | dct e _ => exact ⟨_, e⟩
theorem CellM.keep (h : CellM K Im H p c) (g : Sub Im Im') (k : ∀ o, H p = some o → H' p = some o) : CellM K Im' H' p c := by
  cases h with
  | lst e r => exact .lst (k _ e) (r.mono g)
  | dct e r => exact .dct (k _ e) (r.mono g)
theorem none_of_sub (g : Sub Im H) (n : H p = none) : Im p = none := by
  cases e : Im p with
  | none => rfl
  | some u => rw [g _ _ e] at n; cases n
theorem none_of_there (g : ∀ p o, H p = some o → ∃ o', H' p = some o') (n : H' p = none) : H p = none := by
  cases e : H p with
  | none => rfl
  | some u => obtain ⟨o, h⟩ := g _ _ e; rw [h] at n; cases n
theorem Stp.refl {T : Addr → Prop} : Stp T Im H Im H := ⟨Sub.refl _, fun _ _ e _ => e, fun _ o e => ⟨o, e⟩, fun _ _ e => .inl e⟩
theorem Sto.refl {T : Addr → Prop} : Sto T σ s Im H σ s Im H :=
  { Stp.refl with own := fun i c p e1 e2 => .inr ⟨i, c, e1, e2⟩, old := fun i k c _ e => ⟨c, e, rfl, fun _ => rfl⟩ }
theorem Grow.stp {T : Addr → Prop} (g : Grow Im H Im' H') : Stp T Im H Im' H' :=
  ⟨g.mono, fun p o e _ => g.keep p o e, fun p o e => ⟨o, g.keep p o e⟩, fun q o e => (g.new q o e).elim .inl fun h => .inr (.inl h)⟩
theorem Grow.sto {T : Addr → Prop} (g : Grow Im H Im' H') : Sto T σ s Im H σ s Im' H' :=
  { g.stp with own := fun i c p e1 e2 => .inr ⟨i, c, e1, e2⟩, old := fun i k c _ e => ⟨c, e, rfl, fun _ => rfl⟩ }
theorem Sto.back {T : Addr → Prop} (a : Sto T σ s Im H σ1 s1 Im1 H1) (h : Tch σ1 s1 p) : H p = none ∨ Tch σ s p := by
  obtain ⟨i, k, c, hk, e1, e2⟩ := h
  by_cases ho : k = .own
  · subst ho
    rcases a.own i c p e1 e2 with h | ⟨j, c, h1, h2⟩
    · exact .inl h
    · exact .inr ⟨j, .own, c, by decide, h1, h2⟩
  · obtain ⟨c, h1, h2, _⟩ := a.old i k c ho e1
    exact .inr ⟨i, k, c, hk, h1, by rw [← h2]; exact e2⟩
theorem Sto.transT {T T1 : Addr → Prop} (a : Sto T σ s Im H σ1 s1 Im1 H1) (b : Sto T1 σ1 s1 Im1 H1 σ2 s2 Im2 H2) (hT : ∀ p, T1 p → H p = none ∨ T p) : Sto T σ s Im H σ2 s2 Im2 H2 where
  mono := a.mono.trans b.mono
  keep := fun p o e n => b.keep p o (a.keep p o e n) fun t => (hT p t).elim (fun z => by rw [e] at z; cases z) n
  there := fun p o e => by
    obtain ⟨o1, h⟩ := a.there p o e
    exact b.there p o1 h
  new := fun q o e => by
    rcases b.new q o e with h | h | h
    · exact a.new q o h
    · exact .inr (.inl (none_of_there a.there h))
    · exact .inr (hT q h)
  own := fun i c p e1 e2 => by
    rcases b.own i c p e1 e2 with h | ⟨j, c, h1, h2⟩
    · exact .inl (none_of_there a.there h)
    · exact a.own j c p h1 h2
  old := fun i k c hk e => by
    obtain ⟨c1, h1, h2, h3⟩ := b.old i k c hk e
    obtain ⟨c2, g1, g2, g3⟩ := a.old i k c1 hk h1
    exact ⟨c2, g1, h2.trans g2, fun z => (h3 z).trans (g3 z)⟩
theorem Sto.trans (a : Sto (Tch σ s) σ s Im H σ1 s1 Im1 H1) (b : Sto (Tch σ1 s1) σ1 s1 Im1 H1 σ2 s2 Im2 H2) : Sto (Tch σ s) σ s Im H σ2 s2 Im2 H2 := a.transT b fun _ h => a.back h
theorem Sto.monoT {T T' : Addr → Prop} (a : Sto T σ s Im H σ1 s1 Im1 H1) (h : ∀ p, T p → T' p) : Sto T' σ s Im H σ1 s1 Im1 H1 :=
  { a with keep := fun p o e n => a.keep p o e fun t => n (h p t), new := fun q o e => (a.new q o e).imp_right (Or.imp_right (h q)) }
theorem Sto.grow {T : Addr → Prop} (a : Sto T σ s Im H σ1 s1 Im1 H1) (g : Grow Im1 H1 Im2 H2) : Sto T σ s Im H σ1 s1 Im2 H2 :=
  a.transT (T1 := fun _ => False) g.sto fun _ h => h.elim
theorem Rel.grow (R : Rel K σ Im H s) (g : Grow Im H Im' H') : Rel K σ Im' H' s where
  len := R.len
  sub := g.sub
  d := fun i x e => by
    obtain ⟨v, h1, h2⟩ := R.d i x e
    exact ⟨v, h1, h2.mono g.mono⟩
  m := fun i k c e => by
    obtain ⟨p, h1, h2, h3⟩ := R.m i k c e
    refine ⟨p, h1, h2.keep g.mono fun o => g.keep p o, ?_⟩
    cases q : Im' p with
    | none => rfl
    | some o =>
      obtain ⟨u, hu⟩ := h2.there
      rcases g.new p o q with z | z
      · rw [h3] at z; cases z
      · rw [hu] at z; cases z
  ne := R.ne
inductive WR (K : Frag) (σ : St) (H0 Im H : Hp) (s : Sg) : W → V → Prop
  | d {x : D} {v : V} : Rp K Im v x → WR K σ H0 Im H s (.d x) v
  | own {i : Nat} {v : V} : σ[i]? = some (some v) → WR K σ H0 Im H s (.own i) v
  | new {c : Cell} {p : Addr} : H0 p = none → CellM K Im H p c → Im p = none → (∀ (i : Nat) (k : Mode) (c' : Cell), s[i]? = some (some (.m k c')) → σ[i]? ≠ some (some (.ref p))) → WR K σ H0 Im H s (.new c) (.ref p)
def NewAt : W → V → Addr → Prop
  | .new _, v, p => v = .ref p
  | _, _, _ => False
theorem WR.laterT {T : Addr → Prop} (b : Sto T σ s Im H σ s' Im' H') (h : WR K σ H0 Im H s w v) (hT : ∀ p, NewAt w v p → (∀ (i : Nat) (k : Mode) (c' : Cell), s[i]? = some (some (.m k c')) → σ[i]? ≠ some (some (.ref p))) → ¬ T p) : WR K σ H0 Im' H' s' w v := by
  cases h with
  | d r => exact .d (r.mono b.mono)
  | own e => exact .own e
  | @new c p h0 hc hi hn =>
    have nT := hT p rfl hn
    obtain ⟨u, hu⟩ := hc.there
    refine .new h0 (hc.keep b.mono fun o e => b.keep p o e nT) ?_ fun i k c' e1 e2 => ?_
    · cases q : Im' p with
      | none => rfl
      | some o =>
        rcases b.new p o q with z | z | z
        · rw [hi] at z; cases z
        · rw [hu] at z; cases z
        · exact absurd z nT
    · by_cases ho : k = .own
      · subst ho
        rcases b.own i c' p e1 e2 with z | ⟨j, c, g1, g2⟩
        · rw [hu] at z; cases z
        · exact hn j _ c g1 g2
      · obtain ⟨c, g1, _, _⟩ := b.old i k c' ho e1
        exact hn i k c g1 e2
theorem WR.later (b : Sto (Tch σ s) σ s Im H σ s' Im' H') (h : WR K σ H0 Im H s w v) : WR K σ H0 Im' H' s' w v :=
  h.laterT b fun p _ hn ⟨i, k, c, _, e1, e2⟩ => hn i k c e1 e2
theorem WR.early (h : WR K σ H1 Im H s w v) (g : ∀ p, H1 p = none → H0 p = none) : WR K σ H0 Im H s w v := by
  cases h with
  | d r => exact .d r
  | own e => exact .own e
  | new h0 hc hi hn => exact .new (g _ h0) hc hi hn
theorem WR.before {T : Addr → Prop} {s0 : Sg} {Im0 : Hp} (a : Sto T σ s0 Im0 H0 σ s1 Im1 H1) (h : WR K σ H1 Im H s w v) : WR K σ H0 Im H s w v := h.early fun p n => none_of_there a.there n
theorem WR.rv {r : RV} (R : Rel K σ Im H s) (h : WR K σ H0 Im H s w v) (e : val s w = some r) : RVR K Im H v r := by
  cases h with
  | d q => cases e; exact .d q
  | @own i v e1 =>
    have e : (match s[i]? with
      | some (some (.m _ c)) => some (cellRV c)
      | _ => none) = some r := e
    split at e
    · rename_i k c e2
      cases e
      obtain ⟨p, h1, h2, _⟩ := R.m _ _ _ e2
      rw [e1] at h1
      cases h1
      exact .cell h2
    · cases e
  | new h0 hc hi hn => cases e; exact .cell hc
theorem ResR.wr (R : Rel K σ Im H s) (h : ResR K H Im' H' w v) : WR K σ H Im' H' s w v := by
  cases h with
  | d r => exact .d r
  | @new c p h1 h2 h3 =>
    refine .new h1 h3 h2 fun i k c' e1 e2 => ?_
    obtain ⟨q, g1, g2, _⟩ := R.m i k c' e1
    rw [e2] at g1
    cases g1
    obtain ⟨u, hu⟩ := g2.there
    rw [h1] at hu
    cases hu
theorem WR.bool {b : Bool} (h : WR K σ H0 Im H s (.d (.bool b)) v) : v = .bl b := by
  cases h with
  | d r => cases r; rfl
theorem WR.int {i : Int} (h : WR K σ H0 Im H s (.d (.int i)) v) : v = .int i := by
  cases h with
  | d r => cases r; rfl
theorem upd_sub {o : HO} (n : Im p = none) : Sub Im (upd Im p o) := fun a u e => by rw [upd_ne (ne_of_none e n)]; exact e
theorem set_other {α : Type} {l : List α} {i j : Nat} {x : α} (h : i ≠ j) : (l.set i x)[j]? = l[j]? := List.getElem?_set_ne h
theorem lt_of_get {α : Type} {l : List α} {i : Nat} {x : α} (h : l[i]? = some x) : i < l.length := (List.getElem?_eq_some_iff.mp h).1
theorem get_set {α : Type} {l : List α} {i j : Nat} {x y : α} (h : (l.set i x)[j]? = some y) : (i = j ∧ y = x) ∨ (i ≠ j ∧ l[j]? = some y) := by
  by_cases e : i = j
  · subst e
    have hl := lt_of_get h
    rw [List.length_set] at hl
    rw [List.getElem?_set_self hl] at h
    cases h
    exact .inl ⟨rfl, rfl⟩
  · rw [set_other e] at h
    exact .inr ⟨e, h⟩
/-- the objects of other slots stay, where p is none of theirs -/
theorem Rel.freeze {o : HO} (R : Rel K σ Im H s) (hp : Im p = none) (ho : H p = some o) (hn : ∀ (i : Nat) (k : Mode) (c' : Cell), s[i]? = some (some (.m k c')) → σ[i]? ≠ some (some (.ref p))) : Rel K σ (upd Im p o) H s where
  len := R.len
  sub := fun a u e => by
    by_cases h : a = p
    · subst h; rw [upd_same] at e; cases e; exact ho
    · rw [upd_ne h] at e; exact R.sub _ _ e
  d := fun i x e => by
    obtain ⟨v, h1, h2⟩ := R.d i x e
    exact ⟨v, h1, h2.mono (upd_sub hp)⟩
  m := fun i k c e => by
    obtain ⟨q, h1, h2, h3⟩ := R.m i k c e
    refine ⟨q, h1, h2.keep (upd_sub hp) fun _ e => e, ?_⟩
    rw [upd_ne]
    · exact h3
    · rintro rfl
      exact hn i k c e h1
  ne := R.ne
theorem Rel.setNone (R : Rel K σ Im H s) (i : Nat) : Rel K σ Im H (s.set i none) where
  len := by rw [List.length_set]; exact R.len
  sub := R.sub
  d := fun j x e => by
    rcases get_set e with ⟨_, h⟩ | ⟨_, h⟩
    · cases h
    · exact R.d j x h
  m := fun j k c e => by
    rcases get_set e with ⟨_, h⟩ | ⟨_, h⟩
    · cases h
    · exact R.m j k c h
  ne := fun a b k k' c c' p e1 e2 => by
    rcases get_set e1 with ⟨_, h⟩ | ⟨_, h⟩
    · cases h
    · rcases get_set e2 with ⟨_, h'⟩ | ⟨_, h'⟩
      · cases h'
      · exact R.ne a b k k' c c' p h h'
theorem Rel.setD (R : Rel K σ Im H s) {i : Nat} (e : σ[i]? = some (some v)) (r : Rp K Im v x) : Rel K σ Im H (s.set i (some (.d x))) where
  len := by rw [List.length_set]; exact R.len
  sub := R.sub
  d := fun j y h => by
    rcases get_set h with ⟨h1, h2⟩ | ⟨_, h⟩
    · cases h2; subst h1; exact ⟨v, e, r⟩
    · exact R.d j y h
  m := fun j k c h => by
    rcases get_set h with ⟨_, h⟩ | ⟨_, h⟩
    · cases h
    · exact R.m j k c h
  ne := fun a b k k' c c' p e1 e2 => by
    rcases get_set e1 with ⟨_, h⟩ | ⟨_, h⟩
    · cases h
    · rcases get_set e2 with ⟨_, h'⟩ | ⟨_, h'⟩
      · cases h'
      · exact R.ne a b k k' c c' p h h'
theorem toD_ok (R : Rel K σ Im H s) (hw : WR K σ H0 Im H s w v) (e : toD s w = some (x, s')) : ∃ Im', Rel K σ Im' H s' ∧ Sto (fun p => Tch σ s p ∨ NewAt w v p) σ s Im H σ s' Im' H ∧ Rp K Im' v x := by
  unfold toD at e
  split at e
  · cases e
    cases hw with
    | d r => exact ⟨Im, R, .refl, r⟩
  · cases e
    cases hw with
    | new h0 hc hi hn =>
      cases hc with
      | @lst vs _ hp r =>
        refine ⟨_, R.freeze hi hp hn, ?_, .lst upd_same (r.mono (upd_sub hi))⟩
        refine { mono := upd_sub hi, keep := fun _ _ e _ => e, there := fun _ o e => ⟨o, e⟩, new := fun q o e => ?_, own := fun i c p e1 e2 => .inr ⟨i, c, e1, e2⟩, old := fun i k c _ e => ⟨c, e, rfl, fun _ => rfl⟩ }
        rename_i p0
        by_cases h : q = p0
        · exact .inr (.inr (.inr (by rw [h]; exact rfl)))
        · rw [upd_ne h] at e; exact .inl e
  · cases e
  · rename_i i
    split at e
    · rename_i ds es
      cases e
      cases hw with
      | own e1 =>
        obtain ⟨p, h1, h2, h3⟩ := R.m _ _ _ es
        rw [e1] at h1
        cases h1
        cases h2 with
        | @lst vs _ hp r =>
          have hn : ∀ (j : Nat) (k : Mode) (c' : Cell), (s.set i none)[j]? = some (some (.m k c')) → σ[j]? ≠ some (some (.ref p)) := fun j k c' h1 h2 => by
            rcases get_set h1 with ⟨_, h⟩ | ⟨hne, h⟩
            · cases h
            · exact hne (R.ne _ _ _ _ _ _ p es h e1 h2)
          have r' : Rp K (upd Im p (.lst vs)) (.ref p) (.list ds) := .lst upd_same (r.mono (upd_sub h3))
          have R1 := (R.setNone i).freeze h3 hp hn
          have R2 := R1.setD e1 r'
          rw [List.set_set] at R2
          refine ⟨_, R2, ?_, r'⟩
          refine { mono := upd_sub h3, keep := fun _ _ e _ => e, there := fun _ o e => ⟨o, e⟩, new := fun q o e => ?_, own := fun j c p e1 e2 => ?_, old := fun j k c _ e => ?_ }
          · by_cases h : q = p
            · exact .inr (.inr (.inl (by rw [h]; exact ⟨i, .own, _, by decide, es, e1⟩)))
            · rw [upd_ne h] at e; exact .inl e
          · rcases get_set e1 with ⟨_, h⟩ | ⟨_, h⟩
            · cases h
            · exact .inr ⟨j, c, h, e2⟩
          · rcases get_set e with ⟨_, h⟩ | ⟨_, h⟩
            · cases h
            · exact ⟨c, h, rfl, fun _ => rfl⟩
    · cases e
end
end PV
namespace PV
open PySem PySem.Spec PyProof.Rows L2
section
variable (K : Frag)
def TEv (f : Sg → Option (W × Sg)) : TE := fun σ H Q => ∃ s Im, Rel K σ Im H s ∧ ∃ w s', f s = some (w, s') ∧
  ∀ Im' v H', Rel K σ Im' H' s' → Sto (Tch σ s) σ s Im H σ s' Im' H' → WR K σ H Im' H' s' w v → Q v H'
def TTv (f : Sg → Option (Bool × Sg)) : TT := fun σ H Q => ∃ s Im, Rel K σ Im H s ∧ ∃ b s', f s = some (b, s') ∧
  ∀ Im' H', Rel K σ Im' H' s' → Sto (Tch σ s) σ s Im H σ s' Im' H' → Q b H'
/-- items that become data -/
def TAd (f : Sg → Option (List D × Sg)) : TA := fun σ H Q => ∃ s Im, Rel K σ Im H s ∧ ∃ ds s', f s = some (ds, s') ∧
  ∀ Im' vs H', Rel K σ Im' H' s' → Sto (Tch σ s) σ s Im H σ s' Im' H' → RpAll K Im' vs ds → Q vs H'
end
section
variable {X : Cx} {K : Frag} {σ σ' σ1 σ2 : St} {Im H Im' H' H0 Im1 H1 Im2 H2 : Hp} {s s' s1 s2 : Sg} {p : Addr} {c : Cell} {v : V} {w : W} {x : D}
theorem WR.newAt (h : WR K σ H0 Im H s w v) (n : NewAt w v p) : H0 p = none := by
  cases h with
  | d r => exact n.elim
  | own e => exact n.elim
  | new h0 hc hi hn =>
    have e : V.ref _ = V.ref p := n
    cases e
    exact h0
theorem toD_next (R1 : Rel K σ Im1 H1 s1) (st : Sto (Tch σ s) σ s Im H σ s1 Im1 H1) (hw : WR K σ H Im1 H1 s1 w v) (e : toD s1 w = some (x, s2)) :
    ∃ Im2, Rel K σ Im2 H1 s2 ∧ Sto (Tch σ s) σ s Im H σ s2 Im2 H1 ∧ Rp K Im2 v x ∧ Sub Im1 Im2 := by
  obtain ⟨Im2, R2, b, r⟩ := toD_ok R1 hw e
  exact ⟨Im2, R2, st.transT b fun p h => h.elim (fun h => st.back h) fun h => .inl (hw.newAt h), r, b.mono⟩
theorem _root_.L2.PE.of {e : Expr} {t t' : TE} (h : PE X e t) (g : ∀ σ H Q, t' σ H Q → t σ H Q) : PE X e t' := ⟨fun pins s σ H Q I q => h.run pins s σ H Q I (g σ H Q q)⟩
theorem _root_.L2.PT.of {e : Expr} {t t' : TT} (h : PT X e t) (g : ∀ σ H Q, t' σ H Q → t σ H Q) : PT X e t' := ⟨fun pins s σ H Q I q => h.run pins s σ H Q I (g σ H Q q)⟩
theorem _root_.L2.PW.of {e : Expr} {t t' : TT} (h : PW X e t) (g : ∀ σ H Q, t' σ H Q → t σ H Q) : PW X e t' := ⟨fun wh pins s σ H Q I q => h.run wh pins s σ H Q I (g σ H Q q)⟩
theorem _root_.L2.PA.of {es : List Expr} {t t' : TA} (h : PA X es t) (g : ∀ σ H Q, t' σ H Q → t σ H Q) : PA X es t' := ⟨fun pos pins s σ H Q I q => h.run pos pins s σ H Q I (g σ H Q q)⟩
theorem _root_.L2.PS.of {st : Stmt} {t t' : TS} (h : PS X st t) (g : ∀ D σ H, t' D σ H → t D σ H) : PS X st t' := ⟨fun pins s σ H D I q => h.run pins s σ H D I (g D σ H q)⟩
theorem _root_.L2.PSs.of {st : List Stmt} {t t' : TS} (h : PSs X st t) (g : ∀ D σ H, t' D σ H → t D σ H) : PSs X st t' := ⟨fun pins s σ H D I q => h.run pins s σ H D I (g D σ H q)⟩
theorem _root_.L2.PG.of {e : Expr} {t t' : TG} (h : PG X e t) (g : ∀ v σ H Q, t' v σ H Q → t v σ H Q) : PG X e t' := ⟨fun pins s σ H v u Q I r q => h.run pins s σ H v u Q I r (g v σ H Q q)⟩
/-- a value that is known to be a bool -/
def evB (f : Sg → Option (W × Sg)) (s : Sg) : Option (Bool × Sg) := do
  let (w, s) ← f s
  let b ← asB w
  pure (b, s)
theorem asB_is {b : Bool} (e : asB w = some b) : w = .d (.bool b) := by
  unfold asB at e
  split at e
  · cases e; rfl
  · cases e
theorem evB_is {f : Sg → Option (W × Sg)} {b : Bool} (e : evB f s = some (b, s')) : f s = some (.d (.bool b), s') := by
  unfold evB at e
  simp only [Option.bind_eq_bind, Option.bind_eq_some_iff, Option.pure_def, Option.some.injEq] at e
  obtain ⟨⟨w, s1⟩, e1, b1, e2, e3⟩ := e
  cases e3
  rw [e1]
  exact congrArg (fun z => some (z, s1)) (asB_is e2)
/-- a test from its value -/
theorem pt_of_pe {e : Expr} {f : Sg → Option (W × Sg)} (h : PE X e (TEv X.K f)) (he : ∀ whole, isTrue e X.env whole = (do let v ← whole; standAt e.pos; holding [v] (truthy v))) : PT X e (TTv X.K (evB f)) := by
  refine (pt_val h he).of fun σ H Q ⟨s, Im, R, b, s', e1, k⟩ => ?_
  exact ⟨s, Im, R, _, s', evB_is e1, fun Im' v H' R' st w' => ⟨b, w'.bool, k Im' H' R' st⟩⟩
variable (sig : SigF) (cf : CF)
theorem s_var {i : Nat} {y : Str} {pos : Pos} (hN : X.N[i]? = some y) (hv : Vis X.env.scope y) (hd : (y == ("__debug__" : Str)) = false) (hc : (y == ("__classdict__" : Str)) = false) : PE X (.Name y pos) (TEv X.K (ev sig cf (.var i))) := by
  refine (pe_var hN hv hd hc).of fun σ H Q ⟨s, Im, R, w, s', e, k⟩ => ?_
  rw [ev] at e
  split at e
  · rename_i x es
    cases e
    obtain ⟨v, h1, h2⟩ := R.d _ _ es
    exact ⟨v, h1, k Im v H R .refl (.d h2)⟩
  · rename_i q c es
    cases e
    obtain ⟨p, h1, h2, _⟩ := R.m _ _ _ es
    exact ⟨_, h1, k Im _ H R .refl (.own h1)⟩
  · cases e
theorem tev_con {d : D} {v : V} {Q : VK} (h : TEv K (fun s => some (.d d, s)) σ H Q) (r : ∀ Im, Rp K Im v d) : Q v H := by
  obtain ⟨s, Im, R, w, s', e, k⟩ := h
  cases e
  exact k Im v H R .refl (.d (r Im))
theorem s_con {e : Expr} {d : D} {v : V} (h : PE X e (tC v)) (r : ∀ Im, Rp X.K Im v d) : PE X e (TEv X.K (ev sig cf (.con d))) := by
  refine h.of fun σ H Q q => ?_
  exact tev_con (d := d) (by simpa only [TEv, ev] using q) r
theorem s_glob {y : Str} {z : String} {d : D} {v : V} {u : Value} {pos : Pos} (hg : Gl X y) (hm : X.mg y = some u) (rv : RelV v u) (hd : (y == ("__debug__" : Str)) = false) (r : ∀ Im, Rp X.K Im v d) : PE X (.Name y pos) (TEv X.K (ev sig cf (.glob z d))) := by
  refine (pe_glob hg hm rv hd).of fun σ H Q q => ?_
  exact tev_con (d := d) (by simpa only [TEv, ev] using q) r
theorem RVR.later {r : RV} (h : RVR K Im H v r) (g : Sub Im Im') (k : ∀ o p, v = .ref p → H p = some o → H' p = some o) : RVR K Im' H' v r := by
  cases h with
  | d q => exact .d (q.mono g)
  | cell q => exact .cell (q.keep g fun o => k o _ rfl)
/-- both values, then the operation -/
theorem tev_op2 {f : Op2} {ea eb : E} {r2 : R2} {Q : VK} (h : TEv K (ev sig cf (.op2 f ea eb)) σ H Q) (hr : ∀ x y H Q, RAp2 K f x y H Q → r2 x y H Q) : tOp r2 (TEv K (ev sig cf ea)) (TEv K (ev sig cf eb)) σ H Q := by
  obtain ⟨s, Im, R, w, s', e, k⟩ := h
  rw [ev] at e
  simp only [Option.bind_eq_bind, Option.bind_eq_some_iff, Option.pure_def, Option.some.injEq, Prod.mk.injEq] at e
  obtain ⟨⟨w1, s1⟩, e1, ⟨w2, s2⟩, e2, r, e3, q, e4, x, e5, rfl, rfl⟩ := e
  refine ⟨s, Im, R, w1, s1, e1, fun Im1 v1 H1 R1 st1 x1 => ⟨s1, Im1, R1, w2, s2, e2, fun Im2 v2 H2 R2 st2 x2 => hr _ _ _ _ ?_⟩⟩
  refine ⟨Im2, r, q, x, R2.sub, (x1.later st2).rv R2 e3, x2.rv R2 e4, e5, fun Im3 z H3 g res => k Im3 z H3 (R2.grow g) ((st1.trans st2).grow g) ?_⟩
  exact ((res.wr R2).before st2).before st1
theorem s_op {f : Op2} {op : Operator} {a b : Expr} {ea eb : E} {pos : Pos} (ho : OpR X (binaryOp op) (RAp2 X.K f)) (ha : PE X a (TEv X.K (ev sig cf ea))) (hb : PE X b (TEv X.K (ev sig cf eb))) : PE X (.BinOp a op b pos) (TEv X.K (ev sig cf (.op2 f ea eb))) :=
  (pe_op ho ha hb).of fun σ H Q q => tev_op2 sig cf q fun _ _ _ _ h => h
theorem s_cmp {f : Op2} {op : CmpOp} {a b : Expr} {ea eb : E} {pos : Pos} (ho : OpR X (compareOp op) (RAp2 X.K f)) (ha : PE X a (TEv X.K (ev sig cf ea))) (hb : PE X b (TEv X.K (ev sig cf eb))) (hm : behindInMarks op b = false) : PE X (.Compare a [op] [b] pos) (TEv X.K (ev sig cf (.op2 f ea eb))) :=
  (pe_cmpR ho ha hb hm).of fun σ H Q q => tev_op2 sig cf q fun _ _ _ _ h => h
theorem tt_of_te {t : TE} {f : Sg → Option (W × Sg)} {Q : Bool → Hp → Prop} (hq : TTv K (evB f) σ H Q) (g : ∀ Q, TEv K f σ H Q → t σ H Q) : tTest t σ H Q := by
  obtain ⟨s, Im, R, b, s', e1, k⟩ := hq
  exact g _ ⟨s, Im, R, _, s', evB_is e1, fun Im' v H' R' st w' => ⟨b, w'.bool, k Im' H' R' st⟩⟩
theorem t_cmp {f : Op2} {op : CmpOp} {a b : Expr} {ea eb : E} {pos : Pos} (ho : OpR X (compareOp op) (RAp2 X.K f)) (ha : PE X a (TEv X.K (ev sig cf ea))) (hb : PE X b (TEv X.K (ev sig cf eb))) (hm : behindInMarks op b = false) : PT X (.Compare a [op] [b] pos) (TTv X.K (evB (ev sig cf (.op2 f ea eb)))) :=
  (pt_cmpR ho ha hb hm).of fun σ H Q q => tt_of_te q fun Q q => tev_op2 sig cf q fun _ _ _ _ h => h
theorem s_ix {a b : Expr} {ea eb : E} {pos : Pos} (hu : X.A.units + 65 < cLine) (ha : PE X a (TEv X.K (ev sig cf ea))) (hb : PE X b (TEv X.K (ev sig cf eb))) (hs : PlainIx b) : PE X (.Subscript a b pos) (TEv X.K (ev sig cf (.op2 .ix ea eb))) :=
  (pe_ix (r_ix hu) ha hb hs).of fun σ H Q q => tev_op2 sig cf q fun _ _ _ _ h => h
theorem tev_chain {f g : Op2} {ea eb ec : E} {Q : VK} (h : TEv K (ev sig cf (.chain f g ea eb ec)) σ H Q) : tChain (RAp2 K f) (RAp2 K g) (TEv K (ev sig cf ea)) (TEv K (ev sig cf eb)) (TEv K (ev sig cf ec)) σ H Q := by
  obtain ⟨s, Im, R, w, s', e, k⟩ := h
  rw [ev] at e
  simp only [Option.bind_eq_bind, Option.bind_eq_some_iff] at e
  obtain ⟨⟨w1, s1⟩, e1, ⟨w2, s2⟩, e2, r, e3, q, e4, x, e5, b, e6, e7⟩ := e
  refine ⟨s, Im, R, w1, s1, e1, fun Im1 v1 H1 R1 st1 x1 => ⟨s1, Im1, R1, w2, s2, e2, fun Im2 v2 H2 R2 st2 x2 => ?_⟩⟩
  refine ⟨Im2, r, q, x, R2.sub, (x1.later st2).rv R2 e3, x2.rv R2 e4, e5, fun Im3 z H3 gr res => ?_⟩
  have R3 := R2.grow gr
  have st3 := (st1.trans st2).grow gr
  have ez := (res.wr R2)
  rw [asB_is e6] at ez
  refine ⟨b, ez.bool, ?_⟩
  cases b with
  | false =>
    simp only [Bool.false_eq_true, if_false, Option.pure_def, Option.some.injEq, Prod.mk.injEq] at e7
    obtain ⟨rfl, rfl⟩ := e7
    simp only [Bool.false_eq_true, if_false]
    have e := ez.bool
    subst e
    exact k Im3 _ H3 R3 st3 (.d (.bl _))
  | true =>
    simp only [if_true, Option.bind_eq_some_iff, Option.pure_def, Option.some.injEq, Prod.mk.injEq] at e7
    obtain ⟨⟨w3, s3⟩, e8, q', e9, p', e10, y, e11, rfl, rfl⟩ := e7
    simp only [if_true]
    refine ⟨s2, Im3, R3, w3, s3, e8, fun Im4 v4 H4 R4 st4 x4 => ?_⟩
    refine ⟨Im4, q', p', y, R4.sub, ((x2.later gr.sto).later st4).rv R4 e9, x4.rv R4 e10, e11, fun Im5 z5 H5 g5 res5 => k Im5 z5 H5 (R4.grow g5) ((st3.trans st4).grow g5) ?_⟩
    exact ((res5.wr R4).before st4).before st3
theorem s_chain {f g : Op2} {op op' : CmpOp} {a b c : Expr} {ea eb ec : E} {pos : Pos} (ho : OpR X (compareOp op) (RAp2 X.K f)) (ho' : OpR X (compareOp op') (RAp2 X.K g)) (ha : PE X a (TEv X.K (ev sig cf ea))) (hb : PE X b (TEv X.K (ev sig cf eb))) (hc : PE X c (TEv X.K (ev sig cf ec)))
    (hm : lastMarks [op, op'] [b, c] = false) : PE X (.Compare a [op, op'] [b, c] pos) (TEv X.K (ev sig cf (.chain f g ea eb ec))) :=
  (pe_chain ho ho' ha hb hc hm).of fun σ H Q q => tev_chain sig cf q
theorem t_chain {f g : Op2} {op op' : CmpOp} {a b c : Expr} {ea eb ec : E} {pos : Pos} (ho : OpR X (compareOp op) (RAp2 X.K f)) (ho' : OpR X (compareOp op') (RAp2 X.K g)) (ha : PE X a (TEv X.K (ev sig cf ea))) (hb : PE X b (TEv X.K (ev sig cf eb))) (hc : PE X c (TEv X.K (ev sig cf ec)))
    (hm : lastMarks [op, op'] [b, c] = false) : PT X (.Compare a [op, op'] [b, c] pos) (TTv X.K (evB (ev sig cf (.chain f g ea eb ec)))) :=
  (pt_chain ho ho' ha hb hc hm).of fun σ H Q q => tt_of_te q fun Q q => tev_chain sig cf q
theorem tev_and {ea eb : E} {Q : VK} (h : TEv K (ev sig cf (.and_ ea eb)) σ H Q) : tAndV (TEv K (ev sig cf ea)) (TEv K (ev sig cf eb)) σ H Q := by
  obtain ⟨s, Im, R, w, s', e, k⟩ := h
  rw [ev] at e
  simp only [Option.bind_eq_bind, Option.bind_eq_some_iff] at e
  obtain ⟨⟨w1, s1⟩, e1, b, e2, e3⟩ := e
  refine ⟨s, Im, R, w1, s1, e1, fun Im1 v1 H1 R1 st1 x1 => ?_⟩
  rw [show w1 = .d (.bool b) from asB_is e2] at x1
  refine ⟨b, x1.bool, ?_⟩
  cases b with
  | true => exact ⟨s1, Im1, R1, w, s', e3, fun Im2 v2 H2 R2 st2 x2 => k Im2 v2 H2 R2 (st1.trans st2) (x2.before st1)⟩
  | false =>
    simp only [Bool.false_eq_true, if_false, Option.pure_def, Option.some.injEq, Prod.mk.injEq] at e3
    obtain ⟨rfl, rfl⟩ := e3
    exact k Im1 _ H1 R1 st1 (.d (.bl _))
theorem tev_or {ea eb : E} {Q : VK} (h : TEv K (ev sig cf (.or_ ea eb)) σ H Q) : tOrV (TEv K (ev sig cf ea)) (TEv K (ev sig cf eb)) σ H Q := by
  obtain ⟨s, Im, R, w, s', e, k⟩ := h
  rw [ev] at e
  simp only [Option.bind_eq_bind, Option.bind_eq_some_iff] at e
  obtain ⟨⟨w1, s1⟩, e1, b, e2, e3⟩ := e
  refine ⟨s, Im, R, w1, s1, e1, fun Im1 v1 H1 R1 st1 x1 => ?_⟩
  rw [show w1 = .d (.bool b) from asB_is e2] at x1
  refine ⟨b, x1.bool, ?_⟩
  cases b with
  | false => exact ⟨s1, Im1, R1, w, s', e3, fun Im2 v2 H2 R2 st2 x2 => k Im2 v2 H2 R2 (st1.trans st2) (x2.before st1)⟩
  | true =>
    simp only [if_true, Option.pure_def, Option.some.injEq, Prod.mk.injEq] at e3
    obtain ⟨rfl, rfl⟩ := e3
    exact k Im1 _ H1 R1 st1 (.d (.bl _))
theorem ttv_and {ea eb : E} {Q : Bool → Hp → Prop} (h : TTv K (evB (ev sig cf (.and_ ea eb))) σ H Q) : tAnd (TTv K (evB (ev sig cf ea))) (TTv K (evB (ev sig cf eb))) σ H Q := by
  obtain ⟨s, Im, R, b, s', e, k⟩ := h
  have e := evB_is e
  rw [ev] at e
  simp only [Option.bind_eq_bind, Option.bind_eq_some_iff] at e
  obtain ⟨⟨w1, s1⟩, e1, b1, e2, e3⟩ := e
  refine ⟨s, Im, R, b1, s1, by unfold evB; simp [e1, e2], fun Im1 H1 R1 st1 => ?_⟩
  cases b1 with
  | true => exact ⟨s1, Im1, R1, b, s', by unfold evB; simp only [if_true] at e3; simp [e3, asB], fun Im2 H2 R2 st2 => k Im2 H2 R2 (st1.trans st2)⟩
  | false =>
    simp only [Bool.false_eq_true, if_false, Option.pure_def, Option.some.injEq, Prod.mk.injEq] at e3
    obtain ⟨e4, rfl⟩ := e3
    cases e4
    exact k Im1 H1 R1 st1
theorem ttv_or {ea eb : E} {Q : Bool → Hp → Prop} (h : TTv K (evB (ev sig cf (.or_ ea eb))) σ H Q) : tOr (TTv K (evB (ev sig cf ea))) (TTv K (evB (ev sig cf eb))) σ H Q := by
  obtain ⟨s, Im, R, b, s', e, k⟩ := h
  have e := evB_is e
  rw [ev] at e
  simp only [Option.bind_eq_bind, Option.bind_eq_some_iff] at e
  obtain ⟨⟨w1, s1⟩, e1, b1, e2, e3⟩ := e
  refine ⟨s, Im, R, b1, s1, by unfold evB; simp [e1, e2], fun Im1 H1 R1 st1 => ?_⟩
  cases b1 with
  | false => exact ⟨s1, Im1, R1, b, s', by unfold evB; simp only [Bool.false_eq_true, if_false] at e3; simp [e3, asB], fun Im2 H2 R2 st2 => k Im2 H2 R2 (st1.trans st2)⟩
  | true =>
    simp only [if_true, Option.pure_def, Option.some.injEq, Prod.mk.injEq] at e3
    obtain ⟨e4, rfl⟩ := e3
    cases e4
    exact k Im1 H1 R1 st1
theorem tev_ite {ec ea eb : E} {Q : VK} (h : TEv K (ev sig cf (.ite ec ea eb)) σ H Q) : tIf (TTv K (evB (ev sig cf ec))) (TEv K (ev sig cf ea)) (TEv K (ev sig cf eb)) σ H Q := by
  obtain ⟨s, Im, R, w, s', e, k⟩ := h
  rw [ev] at e
  simp only [Option.bind_eq_bind, Option.bind_eq_some_iff] at e
  obtain ⟨⟨w1, s1⟩, e1, b1, e2, e3⟩ := e
  refine ⟨s, Im, R, b1, s1, by unfold evB; simp [e1, e2], fun Im1 H1 R1 st1 => ?_⟩
  cases b1 with
  | true => exact ⟨s1, Im1, R1, w, s', e3, fun Im2 v2 H2 R2 st2 x2 => k Im2 v2 H2 R2 (st1.trans st2) (x2.before st1)⟩
  | false => exact ⟨s1, Im1, R1, w, s', e3, fun Im2 v2 H2 R2 st2 x2 => k Im2 v2 H2 R2 (st1.trans st2) (x2.before st1)⟩
theorem s_ite {c a b : Expr} {ec ea eb : E} {pos : Pos} (hc : PT X c (TTv X.K (evB (ev sig cf ec)))) (ha : PE X a (TEv X.K (ev sig cf ea))) (hb : PE X b (TEv X.K (ev sig cf eb))) : PE X (.IfExp c a b pos) (TEv X.K (ev sig cf (.ite ec ea eb))) :=
  (pe_ifExp hc ha hb).of fun σ H Q q => tev_ite sig cf q
theorem tev_op1 {f : Op1} {ea : E} {r : V → Hp → VK → Prop} {Q : VK} (h : TEv K (ev sig cf (.op1 f ea)) σ H Q) (hr : ∀ x H Q, RAp1 K f x H Q → r x H Q) : tUn r (TEv K (ev sig cf ea)) σ H Q := by
  obtain ⟨s, Im, R, w, s', e, k⟩ := h
  rw [ev] at e
  simp only [Option.bind_eq_bind, Option.bind_eq_some_iff, Option.pure_def, Option.some.injEq, Prod.mk.injEq] at e
  obtain ⟨⟨w1, s1⟩, e1, r, e3, x, e5, rfl, rfl⟩ := e
  refine ⟨s, Im, R, w1, s1, e1, fun Im1 v1 H1 R1 st1 x1 => hr _ _ _ ⟨Im1, r, x, R1.sub, x1.rv R1 e3, e5, fun Im3 z H3 g res => k Im3 z H3 (R1.grow g) (st1.grow g) ((res.wr R1).before st1)⟩⟩
theorem s_un {f : Op1} {op : UnaryOp} {a : Expr} {ea : E} {pos : Pos} (ho : UnR X (unaryOp op) (RAp1 X.K f)) (ha : PE X a (TEv X.K (ev sig cf ea))) : PE X (.UnaryOp op a pos) (TEv X.K (ev sig cf (.op1 f ea))) :=
  (pe_un ho ha).of fun σ H Q q => tev_op1 sig cf q fun _ _ _ h => h
/-- the rule of a called built-in of one value -/
def RC1 (K : Frag) (f : Op1) : List V → Hp → VK → Prop := fun xs H Q => ∃ x, xs = [x] ∧ RAp1 K f x H Q
theorem tev_call1 {f : Op1} {ea : E} {Q : VK} (h : TEv K (ev sig cf (.op1 f ea)) σ H Q) : tCB (RC1 K f) (tCons (TEv K (ev sig cf ea)) tNil) σ H Q :=
  tev_op1 (r := fun x H Q => RC1 K f [x] H Q) sig cf h fun x H Q q => ⟨x, rfl, q⟩
def RC2 (K : Frag) (f : Op2) : List V → Hp → VK → Prop := fun xs H Q => ∃ x y, xs = [x, y] ∧ RAp2 K f x y H Q
theorem tev_call2 {f : Op2} {ea eb : E} {Q : VK} (h : TEv K (ev sig cf (.op2 f ea eb)) σ H Q) : tCB (RC2 K f) (tCons (TEv K (ev sig cf ea)) (tCons (TEv K (ev sig cf eb)) tNil)) σ H Q :=
  tev_op2 (r2 := fun x y H Q => RC2 K f [x, y] H Q) sig cf h fun x y H Q q => ⟨x, y, rfl, q⟩
/-- not, as a value -/
theorem tev_not {ea : E} {Q : VK} (h : TEv K (ev sig cf (.op1 .not ea)) σ H Q) : tNotV (TEv K (ev sig cf ea)) σ H Q := by
  refine tev_op1 (r := fun x H1 Q => ∃ c, x = .bl c ∧ Q (.bl (!c)) H1) sig cf h fun x H Q q => ?_
  obtain ⟨Im, r, w, hs, hr, e, wt⟩ := q
  change a1_not r = some w at e
  unfold a1_not at e
  split at e
  · cases e
    have e1 := hr.bool
    subst e1
    exact ⟨_, rfl, wt.bool hs⟩
  · cases e
theorem ttv_not {ea : E} {Q : Bool → Hp → Prop} (h : TTv K (evB (ev sig cf (.op1 .not ea))) σ H Q) : tNot (TTv K (evB (ev sig cf ea))) σ H Q := by
  obtain ⟨s, Im, R, b, s', e, k⟩ := h
  have e := evB_is e
  rw [ev] at e
  simp only [Option.bind_eq_bind, Option.bind_eq_some_iff, Option.pure_def, Option.some.injEq, Prod.mk.injEq] at e
  obtain ⟨⟨w1, s1⟩, e1, r, e3, x, e5, e6, rfl⟩ := e
  subst e6
  change a1_not r = some _ at e5
  unfold a1_not at e5
  split at e5
  · cases e5
    rename_i c
    have hw : asB w1 = some c ∨ ∃ i, w1 = .own i := by
      cases w1 with
      | d x => cases e3; exact .inl rfl
      | own i => exact .inr ⟨i, rfl⟩
      | new c => cases c <;> cases e3
    rcases hw with hw | ⟨i, rfl⟩
    · refine ⟨s, Im, R, c, s1, by unfold evB; simp [e1, hw], fun Im1 H1 R1 st1 => k Im1 H1 R1 st1⟩
    · exfalso
      have e3 : (match s1[i]? with
        | some (some (.m _ c)) => some (cellRV c)
        | _ => none) = some (RV.d (.bool c)) := e3
      split at e3
      · rename_i k' c' _
        cases c' <;> cases e3
      · cases e3
  · cases e5
theorem tad_nil {Q : List V → Hp → Prop} (h : TAd K (evsD sig cf .nil) σ H Q) : tNil σ H Q := by
  obtain ⟨s, Im, R, ds, s', e, k⟩ := h
  rw [evsD] at e
  cases e
  exact k Im [] H R .refl .nil
theorem tad_cons {ea eb : E} {Q : List V → Hp → Prop} (h : TAd K (evsD sig cf (.cons ea eb)) σ H Q) : tCons (TEv K (ev sig cf ea)) (TAd K (evsD sig cf eb)) σ H Q := by
  obtain ⟨s, Im, R, ds, s', e, k⟩ := h
  rw [evsD] at e
  simp only [Option.bind_eq_bind, Option.bind_eq_some_iff, Option.pure_def, Option.some.injEq, Prod.mk.injEq] at e
  obtain ⟨⟨w1, s1⟩, e1, ⟨x, s2⟩, e2, ⟨xs, s3⟩, e3, rfl, rfl⟩ := e
  refine ⟨s, Im, R, w1, s1, e1, fun Im1 v1 H1 R1 st1 x1 => ?_⟩
  obtain ⟨Im2, R2, st2, r2, _⟩ := toD_next R1 st1 x1 e2
  exact ⟨s2, Im2, R2, xs, s3, e3, fun Im3 vs H3 R3 st3 rs => k Im3 (v1 :: vs) H3 R3 (st2.trans st3) (.cons (r2.mono st3.mono) rs)⟩
theorem s_nil : PA X [] (TAd X.K (evsD sig cf .nil)) := pa_nil.of fun σ H Q q => tad_nil sig cf q
theorem s_cons {a : Expr} {as : List Expr} {ea eb : E} (ha : PE X a (TEv X.K (ev sig cf ea))) (hb : PA X as (TAd X.K (evsD sig cf eb))) (hs : starEach (a :: as) X.env = (false, eval a X.env) :: starEach as X.env) : PA X (a :: as) (TAd X.K (evsD sig cf (.cons ea eb))) :=
  (pa_cons ha hb hs).of fun σ H Q q => tad_cons sig cf q
def lenE : E → Nat
  | .cons _ b => lenE b + 1
  | _ => 0
theorem evsD_len : ∀ (es : E) {s : Sg} {ds : List D} {s' : Sg}, evsD sig cf es s = some (ds, s') → ds.length = lenE es := by
  intro es
  induction es with
  | nil =>
    intro s ds s' e
    rw [evsD] at e
    cases e
    rfl
  | cons a b _ ih =>
    intro s ds s' e
    rw [evsD] at e
    simp only [Option.bind_eq_bind, Option.bind_eq_some_iff, Option.pure_def, Option.some.injEq, Prod.mk.injEq] at e
    obtain ⟨⟨w1, s1⟩, e1, ⟨x, s2⟩, e2, ⟨xs, s3⟩, e3, rfl, rfl⟩ := e
    rw [List.length_cons, ih e3]
    rfl
  | _ => intro s ds s' e; simp [evsD] at e
theorem s_tup {es : List Expr} {ee : E} {k : Nat} {pos : Pos} (h : PA X es (TAd X.K (evsD sig cf ee))) (hl : lenE ee ≤ 1000) : PE X (.Tuple es k pos) (TEv X.K (ev sig cf (.tup ee))) := by
  refine (pe_tupF h).of fun σ H Q ⟨s, Im, R, w, s', e, k⟩ => ?_
  rw [ev] at e
  simp only [Option.bind_eq_bind, Option.bind_eq_some_iff, Option.pure_def, Option.some.injEq, Prod.mk.injEq] at e
  obtain ⟨⟨xs, s1⟩, e1, rfl, rfl⟩ := e
  refine ⟨s, Im, R, xs, s1, e1, fun Im1 vs H1 R1 st1 rs => ⟨?_, ?_⟩⟩
  · rw [rs.length, evsD_len sig cf ee e1]
    exact Nat.le_trans hl (by rw [sizeLine_eq]; decide)
  · exact Wants.tup (Im := Im1) R1.sub rs fun Im3 z H3 g res => k Im3 z H3 (R1.grow g) (st1.grow g) ((res.wr R1).before st1)
theorem s_lst {es : List Expr} {ee : E} {pos : Pos} (h : PA X es (TAd X.K (evsD sig cf ee))) (hl : lenE ee ≤ 1000) : PE X (.List es pos) (TEv X.K (ev sig cf (.lst ee))) := by
  refine (pe_lst h).of fun σ H Q ⟨s, Im, R, w, s', e, k⟩ => ?_
  rw [ev] at e
  simp only [Option.bind_eq_bind, Option.bind_eq_some_iff, Option.pure_def, Option.some.injEq, Prod.mk.injEq] at e
  obtain ⟨⟨xs, s1⟩, e1, rfl, rfl⟩ := e
  refine ⟨s, Im, R, xs, s1, e1, fun Im1 vs H1 R1 st1 rs => ⟨?_, ?_⟩⟩
  · rw [rs.length, evsD_len sig cf ee e1]
    exact Nat.le_trans hl (by rw [sizeLine_eq]; decide)
  · exact Wants.lst (Im := Im1) R1.sub rs fun Im3 z H3 g res => k Im3 z H3 (R1.grow g) (st1.grow g) ((res.wr R1).before st1)
def TPv (K : Frag) (f : Sg → Option (Option Int × Sg)) : TO := fun σ H Q => ∃ s Im, Rel K σ Im H s ∧ ∃ o s', f s = some (o, s') ∧ ∀ Im' H', Rel K σ Im' H' s' → Sto (Tch σ s) σ s Im H σ s' Im' H' → Q o H'
theorem _root_.L2.PO.of {e : Option Expr} {t t' : TO} (h : PO X e t) (g : ∀ σ H Q, t' σ H Q → t σ H Q) : PO X e t' := ⟨fun pins s σ H Q I q => h.run pins s σ H Q I (g σ H Q q)⟩
theorem s_part0 {f : Sg → Option (W × Sg)} : PO X none (TPv X.K (partE true f)) := po_none.of fun σ H Q ⟨s, Im, R, o, s', e, k⟩ => by
  cases e
  exact k Im H R .refl
theorem s_part {a : Expr} {f : Sg → Option (W × Sg)} (h : PE X a (TEv X.K f)) : PO X (some a) (TPv X.K (partE false f)) := (po_some h).of fun σ H Q ⟨s, Im, R, o, s', e, k⟩ => by
  unfold partE at e
  simp only [Bool.false_eq_true, if_false, Option.bind_eq_bind, Option.bind_eq_some_iff, Option.pure_def, Option.some.injEq, Prod.mk.injEq] at e
  obtain ⟨⟨w1, s1⟩, e1, r, e2, i, e3, rfl, rfl⟩ := e
  refine ⟨s, Im, R, w1, s1, e1, fun Im1 v1 H1 R1 st1 x1 => ⟨i, ?_, k Im1 H1 R1 st1⟩⟩
  have q := x1.rv R1 e2
  unfold asI at e3
  split at e3
  · cases e3; exact q.int
  · cases e3
theorem cutD_eq (ds : List D) (lo hi : Option Int) : cutD ds lo hi = (ds.drop (HT.sIx ds.length 0 lo)).take (HT.sIx ds.length ds.length hi - HT.sIx ds.length 0 lo) := by
  cases lo <;> cases hi <;> rfl
theorem rsl_list {ds : List D} {vs : List V} {lo hi : Option Int} (r : RpAll K Im vs ds) : RpAll K Im (cutV vs lo hi) (cutD ds lo hi) := by
  unfold cutV
  rw [r.length, cutD_eq]
  exact (r.drop _).take _
theorem cut_whole {xs : List V} {lo hi : Option Int} (h : HT.sIx xs.length 0 lo = 0 ∧ HT.sIx xs.length xs.length hi = xs.length) : cutV xs lo hi = xs := by
  unfold cutV
  rw [h.1, h.2]
  simp
/-- what a slice gives -/
def RSl (K : Frag) : V → Option Int → Option Int → Hp → VK → Prop := fun x lo hi H Q => ∃ Im, Sub Im H ∧ ((∃ ds, RVR K Im H x (.d (.list ds)) ∧ Wants K Im H (.new (.lst (cutD ds lo hi))) Q) ∨ (∃ ds, RVR K Im H x (.d (.tuple ds)) ∧ Wants K Im H (.d (.tuple (cutD ds lo hi))) Q))
theorem r_sl : SlR X (RSl X.K) := by
  intro pins s σ H x v vl vu lo hi sl Q I rx hs pl pu h
  obtain ⟨Im, hS, ⟨ds, r, wt⟩ | ⟨ds, r, wt⟩⟩ := h
  · obtain ⟨p, vs, rfl, hp, rv⟩ := r.list hS
    exact sl_list pins s σ H _ v vl vu lo hi sl Q I rx hs pl pu ⟨p, vs, rfl, SqL.of hp, wt.lst hS (rsl_list rv)⟩
  · obtain ⟨p, vs, rfl, hp, rv, hi'⟩ := r.tuple hS
    refine sl_tupF pins s σ H _ v vl vu lo hi sl Q I rx hs pl pu ⟨p, vs, rfl, hp.sq, fun hw => wt.here hS ?_, fun _ => wt.tup hS (rsl_list rv)⟩
    have q := rsl_list (lo := lo) (hi := hi) rv
    rw [cut_whole hw] at q
    exact .tup hi' q
theorem s_slice {a : Expr} {lo hi : Option Expr} {ea el eh : E} {p2 pos : Pos} (ha : PE X a (TEv X.K (ev sig cf ea))) (hl : PO X lo (TPv X.K (partE el.isNil (fun s => ev sig cf el s)))) (hh : PO X hi (TPv X.K (partE eh.isNil (fun s => ev sig cf eh s)))) :
    PE X (.Subscript a (.Slice lo hi none p2) pos) (TEv X.K (ev sig cf (.slice ea el eh))) := by
  refine (pe_slice r_sl ha hl hh).of fun σ H Q ⟨s, Im, R, w, s', e, k⟩ => ?_
  rw [ev] at e
  simp only [Option.bind_eq_bind, Option.bind_eq_some_iff] at e
  obtain ⟨⟨w1, s1⟩, e1, ⟨l, s2⟩, e2, ⟨h, s3⟩, e3, r, e4, e5⟩ := e
  refine ⟨s, Im, R, w1, s1, e1, fun Im1 v1 H1 R1 st1 x1 => ⟨s1, Im1, R1, l, s2, e2, fun Im2 H2 R2 st2 => ⟨s2, Im2, R2, h, s3, e3, fun Im3 H3 R3 st3 => ?_⟩⟩⟩
  have q := ((x1.later st2).later st3).rv R3 e4
  have fin : ∀ (z : W), Wants X.K Im3 H3 z (fun v H' => (w = z ∧ s' = s3 → Q v H')) := fun z Im4 y H4 g res hz => by
    obtain ⟨rfl, rfl⟩ := hz
    exact k Im4 y H4 (R3.grow g) (((st1.trans st2).trans st3).grow g) ((((res.wr R3).before st3).before st2).before st1)
  split at e5
  · cases e5
    exact ⟨Im3, R3.sub, .inl ⟨_, q, fun Im4 y H4 g res => fin _ Im4 y H4 g res ⟨rfl, rfl⟩⟩⟩
  · cases e5
    exact ⟨Im3, R3.sub, .inr ⟨_, q, fun Im4 y H4 g res => fin _ Im4 y H4 g res ⟨rfl, rfl⟩⟩⟩
  · cases e5
def tyN : D → String
  | .none => "NoneType"
  | .bool _ => "bool"
  | .int _ => "int"
  | .str _ => "str"
  | .list _ => "list"
  | .tuple _ => "tuple"
  | .dict _ => "dict"
def Ty.name : Ty → String
  | .int => "int"
  | .bool => "bool"
  | .tuple => "tuple"
  | .str => "str"
  | .list => "list"
theorem ty_of {d : D} (h : isDict d = false) (q : RVR K Im H v (.d d)) (hs : Sub Im H) : TyX K H v (.type (tyN d)) := by
  have q := q.now hs
  cases q with
  | non => exact .base .non
  | bl b => exact .base (.bl b)
  | int i => exact .base (.int i)
  | str z _ _ => exact .base (.str z)
  | lst e r => exact .base (.lst e)
  | tup e r => exact let ⟨_, e, _⟩ := e; .fTuple e
  | scr _ => cases h
  | emp e => exact .base (.dK e)
theorem kit_d (d : D) (t : Ty) (h : isDict d = false) : PySem.W.kitOne K (.type (tyN d)) (.type t.name) = some (tyB t d) := by
  refine kit_ty ?_
  cases d with
  | dict l => cases l with
    | nil => cases t <;> (show kitB _ _ = some _; first | decide +kernel | rfl)
    | cons _ _ => cases h
  | _ => cases t <;> (show kitB _ _ = some _; first | decide +kernel | rfl)
theorem tev_isin1 {ea : E} {t : Ty} {Q : VK} (h : TEv K (ev sig cf (.isin1 ea t)) σ H Q) : tCB (rIsi K) (tCons (TEv K (ev sig cf ea)) (tCons (tC (.ty t.name)) tNil)) σ H Q := by
  obtain ⟨s, Im, R, w, s', e, k⟩ := h
  rw [ev] at e
  simp only [Option.bind_eq_bind, Option.bind_eq_some_iff] at e
  obtain ⟨⟨w1, s1⟩, e1, r, e3, e5⟩ := e
  refine ⟨s, Im, R, w1, s1, e1, fun Im1 v1 H1 R1 st1 x1 => ?_⟩
  have q := x1.rv R1 e3
  split at e5
  · rename_i d
    split at e5
    · cases e5
    · rename_i hd
      have hd : isDict d = false := by simpa using hd
      cases e5
      exact ⟨v1, .ty t.name, _, _, tyB t d, rfl, .ty _, ty_of hd q R1.sub, kit_d d t hd, k Im1 _ H1 R1 st1 (.d (.bl _))⟩
  · cases e5
theorem tev_isin2 {ea : E} {t u : Ty} {Q : VK} (h : TEv K (ev sig cf (.isin2 ea t u)) σ H Q) : tCB (rIsiT K) (tCons (TEv K (ev sig cf ea)) (tCons (tTup (tCons (tC (.ty t.name)) (tCons (tC (.ty u.name)) tNil))) tNil)) σ H Q := by
  obtain ⟨s, Im, R, w, s', e, k⟩ := h
  rw [ev] at e
  simp only [Option.bind_eq_bind, Option.bind_eq_some_iff] at e
  obtain ⟨⟨w1, s1⟩, e1, r, e3, e5⟩ := e
  refine ⟨s, Im, R, w1, s1, e1, fun Im1 v1 H1 R1 st1 x1 => ⟨by show 2 ≤ sizeLine; rw [sizeLine_eq]; decide, fun p hp => ?_⟩⟩
  have q := x1.rv R1 e3
  have g : Grow Im1 H1 Im1 (upd H1 p (.tup [.ty t.name, .ty u.name])) := Grow.apart R1.sub hp
  split at e5
  · rename_i d
    split at e5
    · cases e5
    · rename_i hd
      have hd : isDict d = false := by simpa using hd
      cases e5
      refine ⟨v1, p, [.ty t.name, .ty u.name], .type (tyN d), [.type t.name, .type u.name], tyB t d || tyB u d, rfl, upd_same, .cons (.ty _) (.cons (.ty _) .nil), ?_, ?_, k Im1 _ _ (R1.grow g) (st1.grow g) (.d (.bl _))⟩
      · refine ty_of (Im := Im1) hd (q.later (Sub.refl _) fun o a ea eo => ?_) g.sub
        rw [upd_ne (ne_of_none eo hp)]
        exact eo
      · refine kitAny_cons (kit_d d t hd) (fun h => ?_) (fun h => by rw [h]; rfl)
        rw [h, Bool.false_or]
        exact kitAny_cons (kit_d d u hd) (fun h => by rw [h]; rfl) (fun h => by rw [h])
  · cases e5
end
end PV
namespace PV
open PySem PySem.Spec PyProof.Rows L2
section
variable {X : Cx}
theorem c_len : CallR X (.builtin "len") (RC1 X.K .len) := by
  intro pins s σ H xs us Q I r h
  obtain ⟨x, rfl, Im, rv, w, hs, hr, e, wt⟩ := h
  change a1_len rv = some w at e
  unfold a1_len at e
  split at e
  · cases e
    obtain ⟨p, vs, rfl, hp, ra, _⟩ := hr.tuple hs
    exact call_len_seq pins s σ H _ us Q I r ⟨p, vs, rfl, .inr hp.sq, by rw [ra.length]; exact wt.int hs⟩
  · cases e
    obtain ⟨p, vs, rfl, hp, ra⟩ := hr.list hs
    exact call_len_seq pins s σ H _ us Q I r ⟨p, vs, rfl, .inl (SqL.of hp), by rw [ra.length]; exact wt.int hs⟩
  · cases e
    obtain ⟨rfl, _, hl⟩ := hr.str
    exact call_len_str pins s σ H _ us Q I r ⟨_, rfl, hl, wt.int hs⟩
  · split at e
    · rename_i kvs hz
      cases e
      obtain ⟨p, o1, E, rfl, ha, rd⟩ := hr.dct
      rw [Vals.ref1 r]
      obtain ⟨hsys, xs, hx, g⟩ := dct_ofH I hs ha rd
      have hl : xs.length = kvs.length := (Paired.len g).symm.trans (Paired.len rd)
      rw [← hl] at wt
      exact call_len_dictH hsys hx (by omega) ⟨.int _, H, I.tok _, ⟨_, rfl⟩, wt.int hs⟩
    · cases e
  · cases e
    obtain ⟨p, ns, rfl, hp, rfl⟩ := hr.scr hs
    exact call_len_seq pins s σ H _ us Q I r ⟨p, _, rfl, .inl hp, by rw [List.length_map]; rw [List.length_map] at wt; exact wt.int hs⟩
  · cases e
theorem c_tuple : CallR X (.type "tuple") (RC1 X.K .tuple) := by
  intro pins s σ H xs us Q I r h
  obtain ⟨x, rfl, Im, rv, w, hs, hr, e, wt⟩ := h
  change a1_tuple rv = some w at e
  unfold a1_tuple at e
  split at e
  · cases e
    obtain ⟨p, vs, rfl, hp, ra, hi⟩ := hr.tuple hs
    exact c_tupleF pins s σ H _ us Q I r ⟨p, vs, rfl, .inr ⟨hp.sq, wt.here hs (.tup hi ra)⟩⟩
  · cases e
    obtain ⟨p, vs, rfl, hp, ra⟩ := hr.list hs
    exact c_tupleF pins s σ H _ us Q I r ⟨p, vs, rfl, .inl ⟨SqL.of hp, wt.tup hs ra⟩⟩
  · cases e
theorem c_abs : CallR X (.builtin "abs") (RC1 X.K .abs) := by
  intro pins s σ H xs us Q I r h
  obtain ⟨x, rfl, Im, rv, w, hs, hr, e, wt⟩ := h
  change a1_abs rv = some w at e
  unfold a1_abs at e
  split at e
  · cases e
    have e1 := hr.int
    subst e1
    exact call_abs pins s σ H _ us Q I r ⟨_, rfl, wt.int hs⟩
  · cases e
theorem c_int : CallR X (.type "int") (RC1 X.K .int) := by
  intro pins s σ H xs us Q I r h
  obtain ⟨x, rfl, Im, rv, w, hs, hr, e, wt⟩ := h
  change a1_int rv = some w at e
  unfold a1_int at e
  split at e
  · cases e
    have e1 := hr.int
    subst e1
    exact call_int1 pins s σ H _ us Q I r (.inl ⟨_, rfl, wt.int hs⟩)
  · cases e
    have e1 := hr.bool
    subst e1
    exact call_int1 pins s σ H _ us Q I r (.inr ⟨_, rfl, wt.int hs⟩)
  · cases e
theorem allInt_map : ∀ {ds : List D}, (ds.all isInt) = true → ∃ ns : List Int, ds = ns.map .int
  | [], _ => ⟨[], rfl⟩
  | d :: ds, h => by
    rw [List.all_cons, Bool.and_eq_true] at h
    obtain ⟨ns, rfl⟩ := allInt_map h.2
    cases d with
    | int i => exact ⟨i :: ns, rfl⟩
    | _ => cases h.1
theorem sumI_map (ns : List Int) : sumI (ns.map .int) = ns.sum := by
  unfold sumI
  have : ∀ (a : Int), List.foldl (fun a d => a + intOf d) a (ns.map .int) = a + ns.sum := by
    induction ns with
    | nil => intro a; simp
    | cons n ns ih => intro a; rw [List.map_cons, List.foldl_cons, ih, List.sum_cons]; show a + n + _ = _; omega
  rw [this]; omega
theorem RpAll.intsV {K : Frag} {Im : Hp} : ∀ {vs : List V} {ns : List Int}, RpAll K Im vs (ns.map .int) → vs = ns.map .int
  | [], [], _ => rfl
  | _ :: _, _ :: _, .cons r t => by
    cases r
    rw [RpAll.intsV t]
    rfl
theorem c_sum (hc : X.calm = true) : CallR X (.builtin "sum") (RC1 X.K .sum) := by
  intro pins s σ H xs us Q I r h
  obtain ⟨x, rfl, Im, rv, w, hs, hr, e, wt⟩ := h
  change a1_sum rv = some w at e
  unfold a1_sum at e
  split at e
  · split at e
    · rename_i hi
      cases e
      obtain ⟨ns, rfl⟩ := allInt_map hi
      obtain ⟨p, vs, rfl, hp, ra⟩ := hr.list hs
      have e1 := ra.intsV
      subst e1
      exact cr_sum hc pins s σ H _ us Q I r ⟨p, ns, rfl, SqL.of hp, by rw [sumI_map] at wt; exact wt.int hs⟩
    · cases e
  · split at e
    · rename_i hi
      cases e
      obtain ⟨ns, rfl⟩ := allInt_map hi
      obtain ⟨p, vs, rfl, hp, ra, _⟩ := hr.tuple hs
      have e1 := ra.intsV
      subst e1
      rw [sumI_map] at wt
      obtain ⟨its, rv, ht, hz⟩ := I.tuple hp.sq
      rw [Vals.ref1 r]
      obtain ⟨zs, e⟩ := rv.ints.allInts.items
      have hn : numsOf (intItems zs).toList = ns := by rw [← e]; exact rv.ints.numsOf
      rw [nums_intItems] at hn
      rw [e] at ht
      refine PySem.W.ktm_sumG (I.ok.hd hc) ht fun h' tk t' hk => ⟨.int ns.sum, H, I.kept hk, ?_, wt.int hs⟩
      rw [preSum_eq, List.take_of_length_le (by simp), hn]
      exact ⟨_, rfl⟩
    · cases e
  · cases e
theorem c_max2 (hc : X.calm = true) : CallR X (.builtin "max") (RC2 X.K .max2) := by
  intro pins s σ H xs us Q I r h
  obtain ⟨x, y, rfl, Im, rv, q, w, hs, hr, hr2, e, wt⟩ := h
  change a2_max2 rv q = some w at e
  unfold a2_max2 at e
  split at e
  · cases e
    have e1 := hr.int
    have e2 := hr2.int
    subst e1 e2
    exact call_max2 hc pins s σ H _ us Q I r ⟨_, _, rfl, wt.int hs⟩
  · cases e
theorem c_min2 (hc : X.calm = true) : CallR X (.builtin "min") (RC2 X.K .min2) := by
  intro pins s σ H xs us Q I r h
  obtain ⟨x, y, rfl, Im, rv, q, w, hs, hr, hr2, e, wt⟩ := h
  change a2_min2 rv q = some w at e
  unfold a2_min2 at e
  split at e
  · cases e
    have e1 := hr.int
    have e2 := hr2.int
    subst e1 e2
    exact call_min2 hc pins s σ H _ us Q I r ⟨_, _, rfl, wt.int hs⟩
  · cases e
theorem u_neg : UnR X (unaryOp .USub) (RAp1 X.K .neg) := by
  intro pins s σ H x v Q I rx h
  obtain ⟨Im, rv, w, hs, hr, e, wt⟩ := h
  change a1_neg rv = some w at e
  unfold a1_neg at e
  split at e
  · cases e
    have e1 := hr.int
    subst e1
    exact un_neg pins s σ H _ v Q I rx ⟨_, rfl, wt.int hs⟩
  · cases e
end
end PV
namespace PV
open PySem PySem.Spec PyProof.Rows L2
section
variable {X : Cx} {K : Frag} {σ σ' σ1 σ2 : St} {Im H Im' H' H0 Im1 H1 Im2 H2 : Hp} {s s' s1 s2 : Sg} {p : Addr} {c : Cell} {v : V} {w : W} {x : D}
theorem Rel.store0 (R : Rel K σ Im H s) (i : Nat) (o : Option V) : Rel K (σ.set i o) Im H (s.set i none) where
  len := by rw [List.length_set, List.length_set]; exact R.len
  sub := R.sub
  d := fun j x e => by
    rcases get_set e with ⟨_, h⟩ | ⟨hne, h⟩
    · cases h
    · rw [set_other hne]; exact R.d j x h
  m := fun j k c e => by
    rcases get_set e with ⟨_, h⟩ | ⟨hne, h⟩
    · cases h
    · rw [set_other hne]; exact R.m j k c h
  ne := fun a b k k' c c' p e1 e2 h1 h2 => by
    rcases get_set e1 with ⟨_, h⟩ | ⟨ha, h⟩
    · cases h
    · rcases get_set e2 with ⟨_, h'⟩ | ⟨hb, h'⟩
      · cases h'
      · rw [set_other ha] at h1
        rw [set_other hb] at h2
        exact R.ne a b k k' c c' p h h' h1 h2
theorem Sto.store0 {T : Addr → Prop} (i : Nat) (o : Option V) : Sto T σ s Im H (σ.set i o) (s.set i none) Im H :=
  { Stp.refl with
    own := fun j c p e1 e2 => by
      rcases get_set e1 with ⟨_, h⟩ | ⟨hne, h⟩
      · cases h
      · rw [set_other hne] at e2; exact .inr ⟨j, c, h, e2⟩
    old := fun j k c hk e => by
      rcases get_set e with ⟨_, h⟩ | ⟨hne, h⟩
      · cases h
      · exact ⟨c, h, set_other hne, fun _ => rfl⟩ }
theorem Sto.setD {T : Addr → Prop} (a : Sto T σ s Im H σ1 s1 Im1 H1) (i : Nat) : Sto T σ s Im H σ1 (s1.set i (some (.d x))) Im1 H1 :=
  { a with
    own := fun j c p e1 e2 => by
      rcases get_set e1 with ⟨_, h⟩ | ⟨hne, h⟩
      · cases h
      · exact a.own j c p h e2
    old := fun j k c hk e => by
      rcases get_set e with ⟨_, h⟩ | ⟨hne, h⟩
      · cases h
      · exact a.old j k c hk h }
theorem Rel.wipe (R : Rel K σ Im H s) : ∀ vs : List Nat, Rel K (L2.wipe σ vs) Im H (PV.wipe s vs)
  | [] => R
  | v :: vs => (Rel.wipe R vs).store0 v none
theorem Sto.wipe {T : Addr → Prop} (a : Sto T σ s Im H σ1 s1 Im1 H1) : ∀ vs : List Nat, Sto T σ s Im H (L2.wipe σ1 vs) (PV.wipe s1 vs) Im1 H1
  | [] => a
  | v :: vs => (Sto.wipe a vs).transT (T1 := fun _ => False) (Sto.store0 v none) fun _ h => h.elim
theorem wipe_get : ∀ (vs : List Nat) (i : Nat), (PV.wipe s vs)[i]? = if i ∈ vs then (s[i]?).map (fun _ => none) else s[i]?
  | [], i => by simp [PV.wipe]
  | v :: vs, i => by
    unfold PV.wipe
    rw [List.getElem?_set]
    have ih := wipe_get vs i
    have hl : (PV.wipe s vs).length = s.length := by
      clear ih
      induction vs with
      | nil => rfl
      | cons a b ih => unfold PV.wipe; rw [List.length_set, ih]
    by_cases h : v = i
    · subst h
      simp only [if_true, List.mem_cons, true_or, hl]
      by_cases hi : v < s.length
      · rw [if_pos hi, List.getElem?_eq_getElem hi]; rfl
      · rw [if_neg hi, List.getElem?_eq_none (by omega)]; rfl
    · rw [if_neg h, ih]
      have e : (i ∈ v :: vs) = (i ∈ vs) := by simp [Ne.symm h]
      simp only [e]
theorem wipeσ_get {σ : L2.St} : ∀ (vs : List Nat) (i : Nat), (L2.wipe σ vs)[i]? = if i ∈ vs then (σ[i]?).map (fun _ => none) else σ[i]?
  | [], i => by simp [L2.wipe]
  | v :: vs, i => by
    unfold L2.wipe
    rw [List.getElem?_set]
    have ih := wipeσ_get (σ := σ) vs i
    have hl : (L2.wipe σ vs).length = σ.length := wipe_length σ vs
    by_cases h : v = i
    · subst h
      simp only [if_true, List.mem_cons, true_or, hl]
      by_cases hi : v < σ.length
      · rw [if_pos hi, List.getElem?_eq_getElem hi]; rfl
      · rw [if_neg hi, List.getElem?_eq_none (by omega)]; rfl
    · rw [if_neg h, ih]
      have e : (i ∈ v :: vs) = (i ∈ vs) := by simp [Ne.symm h]
      simp only [e]
theorem back_get {old : Sg} (hl : s.length = old.length) : ∀ (vs : List Nat) (i : Nat), (back s old vs)[i]? = if i ∈ vs then old[i]? else s[i]?
  | [], i => by simp [back]
  | v :: vs, i => by
    unfold back
    rw [List.getElem?_set]
    have ih := back_get hl vs i
    have hl' : (back s old vs).length = s.length := by
      clear ih
      induction vs with
      | nil => rfl
      | cons a b ih => unfold back; rw [List.length_set, ih]
    by_cases h : v = i
    · subst h
      simp only [if_true, List.mem_cons, true_or, hl']
      by_cases hi : v < s.length
      · rw [if_pos hi, List.getElem?_eq_getElem (by omega)]; rfl
      · rw [if_neg hi, List.getElem?_eq_none (by omega)]
    · rw [if_neg h, ih]
      have e : (i ∈ v :: vs) = (i ∈ vs) := by simp [Ne.symm h]
      simp only [e]
theorem wipeσ_eq {σ σ' : L2.St} {vs : List Nat} (hl : σ'.length = σ.length) (h : ∀ i, i ∉ vs → σ'[i]? = σ[i]?) : L2.wipe σ' vs = L2.wipe σ vs := by
  refine List.ext_getElem? fun i => ?_
  rw [wipeσ_get, wipeσ_get]
  by_cases hi : i ∈ vs
  · rw [if_pos hi, if_pos hi]
    by_cases hj : i < σ.length
    · rw [List.getElem?_eq_getElem hj, List.getElem?_eq_getElem (by omega)]; rfl
    · rw [List.getElem?_eq_none (by omega), List.getElem?_eq_none (by omega)]
  · rw [if_neg hi, if_neg hi, h i hi]
theorem wipeσ_idem {σ : L2.St} {vs : List Nat} : L2.wipe (L2.wipe σ vs) vs = L2.wipe σ vs :=
  wipeσ_eq (wipe_length σ vs) fun i hi => by rw [wipeσ_get, if_neg hi]
def TGt (K : Frag) (t : Tgt) : TG := fun v σ H Q => ∃ s Im, Rel K σ Im H s ∧ ∃ x s', Rp K Im v x ∧ bindT t x s = some s' ∧
  ∀ σ', Rel K σ' Im H s' → Sto (Tch σ s) σ s Im H σ' s' Im H → σ'.length = σ.length → (∀ i, i ∉ t.slots → σ'[i]? = σ[i]?) → Q σ' H
theorem put_d {i : Nat} (e : put s i (.d x) = some s') : s' = s.set i (some (.d x)) ∧ i < s.length := by
  unfold put at e
  split at e
  · cases e
  · cases e
  · cases e
  · rename_i es
    cases e
    exact ⟨rfl, lt_of_get es⟩
theorem tgt_name {i : Nat} {Q : St → Hp → Prop} (h : TGt K (.name i) v σ H Q) : gName i v σ H Q := by
  obtain ⟨s, Im, R, x, s', r, e, k⟩ := h
  rw [bindT] at e
  obtain ⟨rfl, hl⟩ := put_d e
  have hl' : i < σ.length := by rw [← R.len]; exact hl
  have R1 := (R.store0 i (some v)).setD (List.getElem?_set_self hl') r
  rw [List.set_set] at R1
  have st := (Sto.store0 (T := Tch σ s) (σ := σ) (s := s) (Im := Im) (H := H) i (some v)).setD (x := x) i
  rw [List.set_set] at st
  exact k _ R1 st (by rw [List.length_set]) fun j hj => set_other fun z => hj (by simp [Tgt.slots, z])
def TGts (K : Frag) (t : Tgt) : TGs := fun vs σ H Q => ∃ s Im, Rel K σ Im H s ∧ ∃ ds s', RpAll K Im vs ds ∧ bindT t (.tuple ds) s = some s' ∧
  ∀ σ', Rel K σ' Im H s' → Sto (Tch σ s) σ s Im H σ' s' Im H → σ'.length = σ.length → (∀ i, i ∉ t.slots → σ'[i]? = σ[i]?) → Q σ' H
def lenT : Tgt → Nat
  | .tcons _ b => lenT b + 1
  | _ => 0
def isSeqT : Tgt → Bool
  | .tnil => true
  | .tcons _ b => isSeqT b
  | .name _ => false
theorem bindT_len : ∀ (t : Tgt) {ds : List D} {s s' : Sg}, isSeqT t = true → bindT t (.tuple ds) s = some s' → ds.length = lenT t
  | .tnil, [], _, _, _, _ => rfl
  | .tnil, _ :: _, _, _, _, e => by simp [bindT] at e
  | .tcons _ _, [], _, _, _, e => by simp [bindT] at e
  | .tcons a b, d :: ds, s, s', h, e => by
    rw [bindT] at e
    simp only [Option.bind_eq_bind, Option.bind_eq_some_iff] at e
    obtain ⟨s1, _, e2⟩ := e
    rw [List.length_cons, bindT_len b h e2]
    rfl
theorem tgts_nil {vs : List V} {Q : St → Hp → Prop} (h : TGts K .tnil vs σ H Q) : gNil vs σ H Q := by
  obtain ⟨s, Im, R, ds, s', r, e, k⟩ := h
  cases ds with
  | nil =>
    rw [bindT] at e
    cases e
    cases r
    exact ⟨rfl, k σ R .refl rfl fun _ _ => rfl⟩
  | cons _ _ => simp [bindT] at e
theorem tgts_cons {a b : Tgt} {vs : List V} {Q : St → Hp → Prop} (h : TGts K (.tcons a b) vs σ H Q) : gCons (TGt K a) (TGts K b) vs σ H Q := by
  obtain ⟨s, Im, R, ds, s', r, e, k⟩ := h
  cases ds with
  | nil => simp [bindT] at e
  | cons d ds =>
    rw [bindT] at e
    simp only [Option.bind_eq_bind, Option.bind_eq_some_iff] at e
    obtain ⟨s1, e1, e2⟩ := e
    cases r with
    | cons r1 r2 =>
      refine ⟨_, _, rfl, s, Im, R, d, s1, r1, e1, fun σ1 R1 st1 l1 o1 => ⟨s1, Im, R1, ds, s', r2, e2, fun σ2 R2 st2 l2 o2 => ?_⟩⟩
      refine k σ2 R2 (st1.trans st2) (l2.trans l1) fun i hi => ?_
      simp only [Tgt.slots, List.mem_append, not_or] at hi
      rw [o2 i hi.2, o1 i hi.1]
theorem tgt_tup {t : Tgt} {Q : St → Hp → Prop} (ht : isSeqT t = true) (h : TGt K t v σ H Q) : gTup K (lenT t) (TGts K t) v σ H Q := by
  obtain ⟨s, Im, R, x, s', r, e, k⟩ := h
  have hx : ∃ ds, x = .tuple ds := by
    cases t with
    | name i => cases ht
    | tnil =>
      unfold bindT at e
      split at e <;> first | exact ⟨_, rfl⟩ | cases e | (rename_i h; cases h)
    | tcons a b =>
      unfold bindT at e
      split at e <;> first | exact ⟨_, rfl⟩ | cases e | (rename_i h; cases h)
  obtain ⟨ds, rfl⟩ := hx
  cases r with
  | tup hp rv => exact ⟨_, _, rfl, (hp.keep fun _ => R.sub _ _).sq, by rw [rv.length]; exact bindT_len t ht e, s, Im, R, ds, s', rv, e, k⟩
/-- what stood at the walked objects stands there -/
def Kept (v v' : V) (H1 H : Hp) : Prop := ∀ p o, (v = .ref p ∨ v' = .ref p) → H1 p = some o → H p = some o
/-- the i-th of xs, as data -/
def Yd (K : Frag) (Im1 : Hp) (xs : List D) (i : Nat) (H : Hp) (x : V) (H' : Hp) : Prop := ∀ Im, Sub Im1 Im → Sub Im H → ∃ Im' d, Grow Im H Im' H' ∧ xs[i]? = some d ∧ Rp K Im' x d
def TIt (K : Frag) (kk : ItK) (fa fb : Sg → Option (W × Sg)) : TI := fun σ H R => ∃ s Im, Rel K σ Im H s ∧ ∃ w s1 u s2 r q xs, fa s = some (w, s1) ∧ twoE kk.two fb s1 = some (u, s2) ∧ val s2 w = some r ∧ val s2 u = some q ∧ walkL kk r q = some xs ∧
  ∀ Im' v v' H' J, Rel K σ Im' H' s2 → Sto (Tch σ s) σ s Im H σ s2 Im' H' → WR K σ H Im' H' s2 w v → WR K σ H Im' H' s2 u v' → Walk J xs.length (Kept v v' H') (Yd K Im' xs) → R J H'
theorem _root_.L2.PI.of {tg e : Expr} {t t' : TI} (h : PI X tg e t) (g : ∀ σ H R, t' σ H R → t σ H R) : PI X tg e t' := ⟨fun pins s σ H R I q => h.run pins s σ H R I (g σ H R q)⟩
theorem pi_or {tg e : Expr} {t t' : TI} (h : PI X tg e t) (h' : PI X tg e t') : PI X tg e (fun σ H R => t σ H R ∨ t' σ H R) :=
  ⟨fun pins s σ H R I q => q.elim (h.run pins s σ H R I) (h'.run pins s σ H R I)⟩
theorem yd_at {vs : List V} {xs : List D} {i : Nat} {x : V} (r : RpAll K Im1 vs xs) (y : YAt vs i H x H') : Yd K Im1 xs i H x H' := fun Im g hs => by
  obtain ⟨rfl, e⟩ := y
  obtain ⟨d, h1, h2⟩ := r.getV e
  exact ⟨Im, d, Grow.refl hs, h1, h2.mono g⟩
variable (sig : SigF) (cf : CF)
theorem walk_l {a : Addr} {vs : List V} {xs : List D} {v' : V} (hp : H1 a = some (.lst vs)) (r : RpAll K Im1 vs xs) : Walk (Itl K a) xs.length (Kept (.ref a) v' H1) (Yd K Im1 xs) := by
  rw [← r.length]
  exact walk_list.mono (fun H g => SqL.of (g _ _ (.inl rfl) hp)) fun i H x H' _ _ y => yd_at r y
theorem walk_t {a : Addr} {vs : List V} {xs : List D} {v' : V} (hp : TupAt H1 a vs) (r : RpAll K Im1 vs xs) : Walk (Itt K a) xs.length (Kept (.ref a) v' H1) (Yd K Im1 xs) := by
  rw [← r.length]
  exact walk_tup.mono (fun H g => (hp.keep fun _ => g _ _ (.inl rfl)).sq) fun i H x H' _ _ y => yd_at r y
theorem tit_val {fa fb : Sg → Option (W × Sg)} {R : It → Hp → Prop} (h : TIt K .val fa fb σ H R) : iList K (TEv K fa) σ H R ∨ iTup K (TEv K fa) σ H R := by
  obtain ⟨s, Im, Re, w, s1, u, s2, r, q, xs, e1, e2, e3, e4, e5, k⟩ := h
  simp only [twoE, ItK.two, Bool.false_eq_true, if_false, Option.some.injEq, Prod.mk.injEq] at e2
  obtain ⟨rfl, rfl⟩ := e2
  change rv1 r = some xs at e5
  unfold rv1 at e5
  split at e5
  · cases e5
    refine .inl ⟨s, Im, Re, w, s1, e1, fun Im1 v H1 R1 st1 x1 => ?_⟩
    obtain ⟨p, vs, rfl, hp, rv⟩ := (x1.rv R1 e3).list R1.sub
    exact ⟨p, rfl, ⟨vs, SqL.of hp⟩, k Im1 _ .non H1 _ R1 st1 x1 (.d .non) (walk_l hp rv)⟩
  · cases e5
    refine .inr ⟨s, Im, Re, w, s1, e1, fun Im1 v H1 R1 st1 x1 => ?_⟩
    obtain ⟨p, vs, rfl, hp, rv, _⟩ := (x1.rv R1 e3).tuple R1.sub
    exact ⟨p, rfl, ⟨vs, hp.sq⟩, k Im1 _ .non H1 _ R1 st1 x1 (.d .non) (walk_t hp rv)⟩
  · cases e5
theorem s_itval {tg e : Expr} {ea eb : E} (he : PE X e (TEv X.K (ev sig cf ea))) : PI X tg e (TIt X.K .val (ev sig cf ea) (ev sig cf eb)) :=
  (pi_or (pi_list he) (pi_tup he)).of fun σ H R q => tit_val q
theorem yd_fn {f : Nat → V} {xs : List D} {i : Nat} {x : V} (hx : ∃ d, xs[i]? = some d ∧ ∀ Im, Rp K Im (f i) d) (y : YFn f i H x H') : Yd K Im1 xs i H x H' := fun Im g hs => by
  obtain ⟨rfl, rfl⟩ := y
  obtain ⟨d, h1, h2⟩ := hx
  exact ⟨Im, d, Grow.refl hs, h1, h2 Im⟩
theorem rangeD_length (lo : Int) (n : Nat) : (rangeD lo n).length = n := by simp [rangeD]
theorem rangeD_get {lo : Int} {n i : Nat} (h : i < n) : (rangeD lo n)[i]? = some (.int (lo + (i : Int))) := by simp [rangeD, h]
theorem walk_rg {lo : Int} {n : Nat} {v v' : V} : Walk (Itr lo n) (rangeD lo n).length (Kept v v' H1) (Yd K Im1 (rangeD lo n)) := by
  rw [rangeD_length]
  exact walk_range.mono (fun _ _ => trivial) fun i H x H' hi _ y => yd_fn ⟨_, rangeD_get hi, fun Im => .int _⟩ y
theorem rangeDown_length (hi : Int) (n : Nat) : (rangeDown hi n).length = n := by simp [rangeDown]
theorem rangeDown_get {hi : Int} {n i : Nat} (h : i < n) : (rangeDown hi n)[i]? = some (.int (hi - (i : Int))) := by simp [rangeDown, h]
theorem walk_rgd {lo : Int} {n : Nat} {v v' : V} : Walk (Itc lo (-1) n) (rangeDown lo n).length (Kept v v' H1) (Yd K Im1 (rangeDown lo n)) := by
  rw [rangeDown_length]
  exact walk_rangeC.mono (fun _ _ => trivial) fun i H x H' hi _ y => yd_fn ⟨_, rangeDown_get hi, fun Im => by rw [show lo + (i : Int) * -1 = lo - (i : Int) by omega]; exact .int _⟩ y
theorem rangeTwo_length (lo : Int) (n : Nat) : (rangeTwo lo n).length = n := by simp [rangeTwo]
theorem rangeTwo_get {lo : Int} {n i : Nat} (h : i < n) : (rangeTwo lo n)[i]? = some (.int (lo + (i : Int) * 2)) := by simp [rangeTwo, h]
theorem walk_rg2 {lo : Int} {n : Nat} {v v' : V} : Walk (Itc lo 2 n) (rangeTwo lo n).length (Kept v v' H1) (Yd K Im1 (rangeTwo lo n)) := by
  rw [rangeTwo_length]
  exact walk_rangeC.mono (fun _ _ => trivial) fun i H x H' hi _ y => yd_fn ⟨_, rangeTwo_get hi, fun Im => .int _⟩ y
theorem rangeSize_two (a b : Int) : Builtin.Range.rangeSize a b 2 = (((b - a + 1) / 2).toNat : Int) := by
  unfold Builtin.Range.rangeSize
  simp only [show ((2 : Int) > 0) by decide, if_true]
  split <;> omega
theorem rgC_two {a b : Int} (ha : -16777216 ≤ a) (ha' : a ≤ 16777216) (hb : b ≤ 16777216) (hb' : -16777216 ≤ b) : RgC a b 2 ((b - a + 1) / 2).toNat := by
  refine ⟨by decide, by decide, ?_, rangeSize_two a b⟩
  unfold Builtin.Range.small
  rw [rangeSize_two]
  simp only [Builtin.Range.rangeFitsLong, Bool.and_eq_true, Bool.or_eq_true, decide_eq_true_eq, beq_iff_eq, show ((2 : Int) > 0) by decide, if_true]
  omega
theorem rangeLine_eq : rangeLine = 16777216 := by decide
theorem walkL_range1 {r q : RV} {xs : List D} (e : walkL .range1 r q = some xs) : ∃ n : Int, r = .d (.int n) ∧ (n ≤ 16777216 ∧ -16777216 ≤ n) ∧ xs = rangeD 0 n.toNat := by
  cases r with
  | dct _ => simp [walkL] at e
  | d x =>
    cases x with
    | int n =>
      have e : (if n ≤ rangeLine ∧ -rangeLine ≤ n then some (rangeD 0 n.toNat) else none) = some xs := e
      split at e
      · rename_i hb
        rw [rangeLine_eq] at hb
        cases e
        exact ⟨n, rfl, hb, rfl⟩
      · cases e
    | _ => simp [walkL] at e
theorem walkL_range2 {r q : RV} {xs : List D} (e : walkL .range2 r q = some xs) : ∃ a b : Int, r = .d (.int a) ∧ q = .d (.int b) ∧ (-16777216 ≤ a ∧ a ≤ 16777216 ∧ b ≤ 16777216 ∧ -16777216 ≤ b) ∧ xs = rangeD a (b - a).toNat := by
  cases r with
  | dct _ => simp [walkL] at e
  | d x =>
    cases x with
    | int a =>
      cases q with
      | dct _ => simp [walkL] at e
      | d y =>
        cases y with
        | int b =>
          have e : (if -rangeLine ≤ a ∧ a ≤ rangeLine ∧ b ≤ rangeLine ∧ -rangeLine ≤ b then some (rangeD a (b - a).toNat) else none) = some xs := e
          split at e
          · rename_i hb
            rw [rangeLine_eq] at hb
            cases e
            exact ⟨a, b, rfl, rfl, hb, rfl⟩
          · cases e
        | _ => simp [walkL] at e
    | _ => simp [walkL] at e
theorem walkL_range3 {r q : RV} {xs : List D} (e : walkL .range3 r q = some xs) : ∃ a b : Int, r = .d (.int a) ∧ q = .d (.int b) ∧ (-16777216 ≤ a ∧ a ≤ 16777216 ∧ b ≤ 16777216 ∧ -16777216 ≤ b) ∧ xs = rangeDown a (a - b).toNat := by
  cases r with
  | dct _ => simp [walkL] at e
  | d x =>
    cases x with
    | int a =>
      cases q with
      | dct _ => simp [walkL] at e
      | d y =>
        cases y with
        | int b =>
          have e : (if -rangeLine ≤ a ∧ a ≤ rangeLine ∧ b ≤ rangeLine ∧ -rangeLine ≤ b then some (rangeDown a (a - b).toNat) else none) = some xs := e
          split at e
          · rename_i hb
            rw [rangeLine_eq] at hb
            cases e
            exact ⟨a, b, rfl, rfl, hb, rfl⟩
          · cases e
        | _ => simp [walkL] at e
    | _ => simp [walkL] at e
theorem walkL_range4 {r q : RV} {xs : List D} (e : walkL .range4 r q = some xs) : ∃ a b : Int, r = .d (.int a) ∧ q = .d (.int b) ∧ (-16777216 ≤ a ∧ a ≤ 16777216 ∧ b ≤ 16777216 ∧ -16777216 ≤ b) ∧ xs = rangeTwo a ((b - a + 1) / 2).toNat := by
  cases r with
  | dct _ => simp [walkL] at e
  | d x =>
    cases x with
    | int a =>
      cases q with
      | dct _ => simp [walkL] at e
      | d y =>
        cases y with
        | int b =>
          have e : (if -rangeLine ≤ a ∧ a ≤ rangeLine ∧ b ≤ rangeLine ∧ -rangeLine ≤ b then some (rangeTwo a ((b - a + 1) / 2).toNat) else none) = some xs := e
          split at e
          · rename_i hb
            rw [rangeLine_eq] at hb
            cases e
            exact ⟨a, b, rfl, rfl, hb, rfl⟩
          · cases e
        | _ => simp [walkL] at e
    | _ => simp [walkL] at e
theorem tit_range1 {fa fb : Sg → Option (W × Sg)} {R : It → Hp → Prop} (h : TIt K .range1 fa fb σ H R) : iRng1 (tCons (TEv K fa) tNil) σ H R := by
  obtain ⟨s, Im, Re, w, s1, u, s2, r, q, xs, e1, e2, e3, e4, e5, k⟩ := h
  simp only [twoE, ItK.two, Bool.false_eq_true, if_false, Option.some.injEq, Prod.mk.injEq] at e2
  obtain ⟨rfl, rfl⟩ := e2
  obtain ⟨n, rfl, hb, rfl⟩ := walkL_range1 e5
  refine ⟨s, Im, Re, w, s1, e1, fun Im1 v H1 R1 st1 x1 => ?_⟩
  have e := (x1.rv R1 e3).int
  subst e
  exact ⟨n, rfl, by omega, by omega, k Im1 _ .non H1 _ R1 st1 x1 (.d .non) walk_rg⟩
theorem tit_range2 {fa fb : Sg → Option (W × Sg)} {R : It → Hp → Prop} (h : TIt K .range2 fa fb σ H R) : iRng2 (tCons (TEv K fa) (tCons (TEv K fb) tNil)) σ H R := by
  obtain ⟨s, Im, Re, w, s1, u, s2, r, q, xs, e1, e2, e3, e4, e5, k⟩ := h
  simp only [twoE, ItK.two, if_true] at e2
  obtain ⟨a, b, rfl, rfl, hb, rfl⟩ := walkL_range2 e5
  refine ⟨s, Im, Re, w, s1, e1, fun Im1 v H1 R1 st1 x1 => ⟨s1, Im1, R1, u, s2, e2, fun Im2 v2 H2 R2 st2 x2 => ?_⟩⟩
  have x1 := x1.later st2
  have ev1 := (x1.rv R2 e3).int
  have ev2 := (x2.rv R2 e4).int
  subst ev1 ev2
  exact ⟨a, b, rfl, ⟨by omega, by omega, by omega, by omega⟩, k Im2 _ _ H2 _ R2 (st1.trans st2) x1 (x2.before st1) walk_rg⟩
theorem tit_range3 {fa fb : Sg → Option (W × Sg)} {R : It → Hp → Prop} (h : TIt K .range3 fa fb σ H R) : iRng3 (tCons (TEv K fa) (tCons (TEv K fb) (tCons (tUn (rU fun i => .int (-i)) (tC (.int 1))) tNil))) σ H R := by
  obtain ⟨s, Im, Re, w, s1, u, s2, r, q, xs, e1, e2, e3, e4, e5, k⟩ := h
  simp only [twoE, ItK.two, if_true] at e2
  obtain ⟨a, b, rfl, rfl, hb, rfl⟩ := walkL_range3 e5
  refine ⟨s, Im, Re, w, s1, e1, fun Im1 v H1 R1 st1 x1 => ⟨s1, Im1, R1, u, s2, e2, fun Im2 v2 H2 R2 st2 x2 => ?_⟩⟩
  have x1 := x1.later st2
  have ev1 := (x1.rv R2 e3).int
  have ev2 := (x2.rv R2 e4).int
  subst ev1 ev2
  exact ⟨1, rfl, a, b, -1, _, rfl, RgC.neg (by omega) (by omega) (by omega) (by omega), k Im2 _ _ H2 _ R2 (st1.trans st2) x1 (x2.before st1) walk_rgd⟩
theorem tit_range4 {fa fb : Sg → Option (W × Sg)} {R : It → Hp → Prop} (h : TIt K .range4 fa fb σ H R) : iRng3 (tCons (TEv K fa) (tCons (TEv K fb) (tCons (tC (.int 2)) tNil))) σ H R := by
  obtain ⟨s, Im, Re, w, s1, u, s2, r, q, xs, e1, e2, e3, e4, e5, k⟩ := h
  simp only [twoE, ItK.two, if_true] at e2
  obtain ⟨a, b, rfl, rfl, hb, rfl⟩ := walkL_range4 e5
  refine ⟨s, Im, Re, w, s1, e1, fun Im1 v H1 R1 st1 x1 => ⟨s1, Im1, R1, u, s2, e2, fun Im2 v2 H2 R2 st2 x2 => ?_⟩⟩
  have x1 := x1.later st2
  have ev1 := (x1.rv R2 e3).int
  have ev2 := (x2.rv R2 e4).int
  subst ev1 ev2
  exact ⟨a, b, 2, _, rfl, rgC_two (by omega) (by omega) (by omega) (by omega), k Im2 _ _ H2 _ R2 (st1.trans st2) x1 (x2.before st1) walk_rg2⟩
/-- the turn gives a new pair -/
def YPairF (f g : Nat → Option V) : Nat → Hp → V → Hp → Prop := fun i H v H' => ∃ T x y o, v = .ref T ∧ H T = none ∧ o.dict = none ∧ H' = upd H T (.frz o (.tup [x, y])) ∧ f i = some x ∧ g i = some y
theorem yd_pair {f g : Nat → Option V} {xs : List D} {i : Nat} {x : V} (hx : ∀ a b, f i = some a → g i = some b → ∃ d e, xs[i]? = some (.tuple [d, e]) ∧ Rp K Im1 a d ∧ Rp K Im1 b e) (y : YPairF f g i H x H') : Yd K Im1 xs i H x H' := fun Im gm hs => by
  obtain ⟨T, a, b, o, rfl, hT, ho, rfl, h1, h2⟩ := y
  obtain ⟨d, e, h3, r1, r2⟩ := hx a b h1 h2
  have g := Grow.data (o := .frz o (.tup [a, b])) hs hT
  exact ⟨_, _, g, h3, .tup (tupAt_new ho) (.cons ((r1.mono gm).mono g.mono) (.cons ((r2.mono gm).mono g.mono) .nil))⟩
theorem enumD_get : ∀ (xs : List D) (n i : Nat) {d : D}, xs[i]? = some d → (enumD xs n)[i]? = some (.tuple [.int ((n + i : Nat) : Int), d])
  | [], _, _, _, e => by simp at e
  | x :: xs, n, 0, d, e => by simp at e; subst e; simp [enumD]
  | x :: xs, n, i + 1, d, e => by
    have q := enumD_get xs (n + 1) i (d := d) (by simpa using e)
    rw [enumD]
    simp only [List.getElem?_cons_succ]
    rw [q]
    congr 5
    omega
theorem enumD_length : ∀ (xs : List D) (n : Nat), (enumD xs n).length = xs.length
  | [], _ => rfl
  | x :: xs, n => by rw [enumD, List.length_cons, List.length_cons, enumD_length xs (n + 1)]
theorem Rel.mode {i : Nat} {k k' : Mode} (R : Rel K σ Im H s) (e : s[i]? = some (some (.m k c))) : Rel K σ Im H (s.set i (some (.m k' c))) where
  len := by rw [List.length_set]; exact R.len
  sub := R.sub
  d := fun j x h => by
    rcases get_set h with ⟨_, h⟩ | ⟨_, h⟩
    · cases h
    · exact R.d j x h
  m := fun j q c' h => by
    rcases get_set h with ⟨hj, h2⟩ | ⟨_, h2⟩
    · subst hj
      cases h2
      exact R.m _ _ _ e
    · exact R.m j q c' h2
  ne := fun a b q q' c1 c2 p e1 e2 h1 h2 => by
    have f : ∀ (j : Nat) (q : Mode) (c1 : Cell), (s.set i (some (.m k' c)))[j]? = some (some (.m q c1)) → ∃ q c1, s[j]? = some (some (.m q c1)) := fun j q c1 h => by
      rcases get_set h with ⟨rfl, _⟩ | ⟨_, h⟩
      · exact ⟨_, _, e⟩
      · exact ⟨_, _, h⟩
    obtain ⟨_, _, g1⟩ := f a q c1 e1
    obtain ⟨_, _, g2⟩ := f b q' c2 e2
    exact R.ne a b _ _ _ _ p g1 g2 h1 h2
theorem lockW_rel (R : Rel K σ Im H s) (e : lockW s w = some s') : Rel K σ Im H s' := by
  cases w with
  | own i =>
    have e : (match s[i]? with
      | some (some (.m _ c)) => some (s.set i (some (.m .lock c)))
      | _ => none) = some s' := e
    split at e
    · rename_i k c es
      cases e
      exact R.mode es
    · cases e
  | d x => cases e; exact R
  | new c => cases e; exact R
theorem unlock_rel {k : Mode} (R : Rel K σ Im H s) (e : unlock s k w = some s') : Rel K σ Im H s' := by
  cases w with
  | own i =>
    have e : (match s[i]? with
      | some (some (.m .lock c)) => some (s.set i (some (.m k c)))
      | _ => none) = some s' := e
    split at e
    · rename_i c es
      cases e
      exact R.mode es
    · cases e
  | d x => cases e; exact R
  | new c => cases e; exact R
theorem lock_sto {s3 : Sg} (h : lockW s w = some s1) (b : Sto (Tch σ s1) σ s1 Im H σ' s2 Im' H') (u : unlock s2 (modeOf s w) w = some s3) : Sto (Tch σ s) σ s Im H σ' s3 Im' H' := by
  cases w with
  | d x => cases h; cases u; exact b
  | new c => cases h; cases u; exact b
  | own i =>
    have h : (match s[i]? with
      | some (some (.m _ c)) => some (s.set i (some (.m .lock c)))
      | _ => none) = some s1 := h
    split at h
    · rename_i k c es
      cases h
      have em : modeOf s (.own i) = k := by
        show (match s[i]? with
          | some (some (.m k _)) => k
          | _ => .lock) = k
        rw [es]
      rw [em] at u
      have u : (match s2[i]? with
        | some (some (.m .lock c)) => some (s2.set i (some (.m k c)))
        | _ => none) = some s3 := u
      split at u
      · rename_i c' es2
        cases u
        have hl := lt_of_get es
        have sub : ∀ p, Tch σ (s.set i (some (.m .lock c))) p → Tch σ s p := fun p ⟨j, q, c1, hq, e1, e2⟩ => by
          rcases get_set e1 with ⟨_, h⟩ | ⟨_, h⟩
          · cases h; exact absurd rfl hq
          · exact ⟨j, q, c1, hq, h, e2⟩
        obtain ⟨c0, q1, q2, q3⟩ := b.old i .lock c' (by decide) es2
        have q3 := q3 rfl
        subst q3
        rw [List.getElem?_set_self hl] at q1
        have q1 : c = c' := by injection q1 with q1; injection q1 with q1; injection q1
        subst q1
        refine { (b.monoT sub) with own := fun j c1 p e1 e2 => ?_, old := fun j q c1 hq e1 => ?_ }
        · rcases get_set e1 with ⟨rfl, h⟩ | ⟨hne, h⟩
          · cases h
            exact .inr ⟨_, _, es, by rw [← q2]; exact e2⟩
          · rcases b.own j c1 p h e2 with z | ⟨j', c2, g1, g2⟩
            · exact .inl z
            · rcases get_set g1 with ⟨_, h⟩ | ⟨_, h⟩
              · cases h
              · exact .inr ⟨j', c2, h, g2⟩
        · rcases get_set e1 with ⟨rfl, h⟩ | ⟨hne, h⟩
          · cases h
            exact ⟨_, es, q2, fun _ => rfl⟩
          · obtain ⟨c2, g1, g2, g3⟩ := b.old j q c1 hq h
            rw [set_other hne] at g1
            exact ⟨c2, g1, g2, g3⟩
      · cases u
    · cases h
theorem Rel.updApart {o : HO} {D : Addr} (R : Rel K σ Im H s) (hi : Im D = none) (hn : ∀ (i : Nat) (k : Mode) (c' : Cell), s[i]? = some (some (.m k c')) → σ[i]? ≠ some (some (.ref D))) : Rel K σ Im (upd H D o) s where
  len := R.len
  sub := fun a u e => by rw [upd_ne (ne_of_none e hi)]; exact R.sub _ _ e
  d := R.d
  m := fun i k c e => by
    obtain ⟨q, h1, h2, h3⟩ := R.m i k c e
    refine ⟨q, h1, h2.keep (Sub.refl _) fun o eo => ?_, h3⟩
    rw [upd_ne]
    · exact eo
    · rintro rfl
      exact hn i k c e h1
  ne := R.ne
theorem back_ok {vs : List Nat} {sI : Sg} (R4 : Rel K σ Im1 H1 s) (R5 : Rel K (L2.wipe σ vs) Im' H' (PV.wipe sI vs)) (st : Sto (Tch (L2.wipe σ vs) (PV.wipe s vs)) (L2.wipe σ vs) (PV.wipe s vs) Im1 H1 (L2.wipe σ vs) (PV.wipe sI vs) Im' H') :
    Rel K σ Im' H' (back sI s vs) ∧ Sto (Tch σ s) σ s Im1 H1 σ (back sI s vs) Im' H' := by
  have wl : ∀ (s : Sg), (PV.wipe s vs).length = s.length := fun s => by
    induction vs with
    | nil => rfl
    | cons a b ih =>
      unfold PV.wipe
      rw [List.length_set]
      clear R5 st ih
      induction b with
      | nil => rfl
      | cons a b ih => unfold PV.wipe; rw [List.length_set, ih]
  have hl : sI.length = s.length := by
    have h1 := R5.len
    rw [wl, wipe_length, ← R4.len] at h1
    exact h1
  have bg := back_get (s := sI) (old := s) hl vs
  have inW : ∀ (i : Nat) {z : Option Slot}, i ∉ vs → sI[i]? = some z → (PV.wipe sI vs)[i]? = some z := fun i z hi e => by rw [wipe_get, if_neg hi]; exact e
  have inσ : ∀ (i : Nat), i ∉ vs → (L2.wipe σ vs)[i]? = σ[i]? := fun i hi => by rw [wipeσ_get, if_neg hi]
  have sub : ∀ p, Tch (L2.wipe σ vs) (PV.wipe s vs) p → Tch σ s p := fun p ⟨i, k, c, hk, e1, e2⟩ => by
    by_cases hi : i ∈ vs
    · rw [wipe_get, if_pos hi] at e1
      cases h : s[i]? with
      | none => rw [h] at e1; cases e1
      | some z => rw [h] at e1; cases e1
    · rw [wipe_get, if_neg hi] at e1
      rw [inσ i hi] at e2
      exact ⟨i, k, c, hk, e1, e2⟩
  -- a slot of old that is not seen within
  have hid : ∀ (i : Nat) (k : Mode) (c : Cell), i ∈ vs → s[i]? = some (some (.m k c)) → ∃ p, σ[i]? = some (some (.ref p)) ∧ CellM K Im1 H1 p c ∧ CellM K Im' H' p c ∧ Im' p = none ∧ (∀ (j : Nat) (k' : Mode) (c' : Cell), j ∉ vs → sI[j]? = some (some (.m k' c')) → σ[j]? ≠ some (some (.ref p))) := fun i k c hi es => by
    obtain ⟨p, h1, h2, h3⟩ := R4.m i k c es
    have nT : ¬ Tch (L2.wipe σ vs) (PV.wipe s vs) p := fun ⟨j, k', c', hk, e1, e2⟩ => by
      by_cases hj : j ∈ vs
      · rw [wipe_get, if_pos hj] at e1
        cases h : s[j]? with
        | none => rw [h] at e1; cases e1
        | some z => rw [h] at e1; cases e1
      · rw [wipe_get, if_neg hj] at e1
        rw [inσ j hj] at e2
        have := R4.ne i j _ _ _ _ p es e1 h1 e2
        exact hj (this ▸ hi)
    obtain ⟨u, hu⟩ := h2.there
    refine ⟨p, h1, h2, h2.keep st.mono fun o e => st.keep p o e nT, ?_, fun j k' c' hj e1 e2 => ?_⟩
    · cases q : Im' p with
      | none => rfl
      | some o =>
        rcases st.new p o q with z | z | z
        · rw [h3] at z; cases z
        · rw [hu] at z; cases z
        · exact absurd z nT
    · have e3 := inW j hj e1
      have e4 : (L2.wipe σ vs)[j]? = some (some (.ref p)) := by rw [inσ j hj]; exact e2
      by_cases ho : k' = .own
      · subst ho
        rcases st.own j c' p e3 e4 with z | ⟨j', c2, g1, g2⟩
        · rw [hu] at z; cases z
        · exact nT ⟨j', _, c2, by decide, g1, g2⟩
      · obtain ⟨c2, g1, g2, _⟩ := st.old j k' c' ho e3
        rw [wipe_get, if_neg hj] at g1
        have := R4.ne i j _ _ _ _ p es g1 h1 e2
        exact hj (this ▸ hi)
  refine ⟨⟨?_, R5.sub, fun i x e => ?_, fun i k c e => ?_, fun i j k k' c c' p e1 e2 h1 h2 => ?_⟩, ?_⟩
  · rw [← R4.len, ← hl]
    have : (back sI s vs).length = sI.length := by
      clear R5 st bg inW inσ sub hid wl
      induction vs with
      | nil => rfl
      | cons a b ih => unfold back; rw [List.length_set, ih]
    exact this
  · rw [bg] at e
    by_cases hi : i ∈ vs
    · rw [if_pos hi] at e
      obtain ⟨v, h1, h2⟩ := R4.d i x e
      exact ⟨v, h1, h2.mono st.mono⟩
    · rw [if_neg hi] at e
      obtain ⟨v, h1, h2⟩ := R5.d i x (inW i hi e)
      rw [inσ i hi] at h1
      exact ⟨v, h1, h2⟩
  · rw [bg] at e
    by_cases hi : i ∈ vs
    · rw [if_pos hi] at e
      obtain ⟨p, h1, _, h2, h3, _⟩ := hid i k c hi e
      exact ⟨p, h1, h2, h3⟩
    · rw [if_neg hi] at e
      obtain ⟨p, h1, h2⟩ := R5.m i k c (inW i hi e)
      rw [inσ i hi] at h1
      exact ⟨p, h1, h2⟩
  · rw [bg] at e1 e2
    by_cases hi : i ∈ vs
    · rw [if_pos hi] at e1
      obtain ⟨q, g1, _, _, _, g2⟩ := hid i k c hi e1
      rw [h1] at g1
      cases g1
      by_cases hj : j ∈ vs
      · rw [if_pos hj] at e2
        exact R4.ne i j _ _ _ _ p e1 e2 h1 h2
      · rw [if_neg hj] at e2
        exact absurd h2 (g2 j _ _ hj e2)
    · rw [if_neg hi] at e1
      by_cases hj : j ∈ vs
      · rw [if_pos hj] at e2
        obtain ⟨q, g1, _, _, _, g2⟩ := hid j _ _ hj e2
        rw [h2] at g1
        cases g1
        exact absurd h1 (g2 i _ _ hi e1)
      · rw [if_neg hj] at e2
        exact R5.ne i j _ _ _ _ p (inW i hi e1) (inW j hj e2) (by rw [inσ i hi]; exact h1) (by rw [inσ j hj]; exact h2)
  · refine { (st.monoT sub).toStp with own := fun i c' p e1 e2 => ?_, old := fun i k c' hk e1 => ?_ }
    · rw [bg] at e1
      by_cases hi : i ∈ vs
      · rw [if_pos hi] at e1
        exact .inr ⟨i, c', e1, e2⟩
      · rw [if_neg hi] at e1
        rcases st.own i c' p (inW i hi e1) (by rw [inσ i hi]; exact e2) with z | ⟨j, c2, g1, g2⟩
        · exact .inl z
        · refine .inr ⟨j, c2, ?_⟩
          by_cases hj : j ∈ vs
          · rw [wipe_get, if_pos hj] at g1
            cases h : s[j]? with
            | none => rw [h] at g1; cases g1
            | some z => rw [h] at g1; cases g1
          · rw [wipe_get, if_neg hj] at g1
            rw [inσ j hj] at g2
            exact ⟨g1, g2⟩
    · rw [bg] at e1
      by_cases hi : i ∈ vs
      · rw [if_pos hi] at e1
        exact ⟨c', e1, rfl, fun _ => rfl⟩
      · rw [if_neg hi] at e1
        obtain ⟨c2, g1, _, g3⟩ := st.old i k c' hk (inW i hi e1)
        rw [wipe_get, if_neg hi] at g1
        exact ⟨c2, g1, rfl, g3⟩
end
end PV
namespace PVE
open PySem
open PySem.Sem (wp)
open Builtin Builtin.Str
theorem meets_enumerate_newT (l : Addr) (items : Array Value) (n : Nat) (dct : Option Addr) (sl : Array (Option Value)) :
    Meets (Builtin.«enumerate.__new__» ⟨[.type "enumerate", .ref l], []⟩) (fun _ R s => s.heap.get? l = some { cls := .type "tuple", dict := dct, data := .seq items n, slots := sl } ∧
      R (.ok (.ret (.ref (s.heap.push { cls := .type "tuple_iterator", data := .fields #[.ref l, .int 0 0] }).objs.size)))
        { s with heap := (s.heap.push { cls := .type "tuple_iterator", data := .fields #[.ref l, .int 0 0] }).push { cls := .type "enumerate", data := .fields #[.none, .bool false, .ref s.heap.objs.size, rawInt 0, .none, .none] } }) :=
  .of_wp fun prog w A R s h => by
    obtain ⟨hp, g, d, tk, os⟩ := s; obtain ⟨hl, h⟩ := h
    have hsub := sub_enumerate
    have hL : Heap.IsTuple (Shared.heap ⟨hp, g, d, tk, os⟩) l items := ⟨_, hl, rfl, n, rfl⟩
    wp_walk using wpAny_loadPart' hl
    refine wpAny_stack_any fun st => wpAny_pure ?_
    split
    · rename_i c _ _ _ _ _
      cases (c == Value.type "enumerate")
      · wp_walk using wpAny_loadPart' hl, wpAny_pyIter_tuple hL
        exact ⟨_, rfl, h⟩
      · wp_walk using wpAny_loadPart' hl, wpAny_pyIter_tuple hL
        exact ⟨_, rfl, h⟩
    · wp_walk using wpAny_loadPart' hl, wpAny_pyIter_tuple hL
      exact ⟨_, rfl, h⟩
section
variable {prog : Program} {w : World} {A : Around} {E : Value → Shared → Prop} {s : Shared}
theorem call_enumerate_tup {l : Addr} {items : Array Value} {Q : Value → Shared → Prop} (hL : s.heap.IsTuple l items)
    (h : ∀ h', IsEnum h' (s.heap.objs.size + 1) s.heap.objs.size 0 .none → h'.IsTupleIter s.heap.objs.size l 0 → h'.objs.size = s.heap.objs.size + 2 →
      (∀ b o, s.heap.get? b = some o → h'.get? b = some o) → Q (.ref (s.heap.objs.size + 1)) { s with heap := h' }) :
    wpAny (model prog w) A (call (.type "enumerate") [.ref l]) Q E s := by
  obtain ⟨⟨c, dct, dt, sl⟩, hl, hc, n, hd⟩ := hL
  replace hc : c = .type "tuple" := hc
  replace hd : dt = .seq items n := hd
  subst hc hd
  refine callType_new F.called_enumerate (by decide) (F.typeCall_enumerate_1 _) (F.newCall_enumerate_1 _) (fun obj => F.args_object_init_2 obj _) F.entry_enumerate_new
    (meets_enumerate_newT l items n dct sl) ⟨hl, ?_⟩
  have hz : (s.heap.push { cls := .type "tuple_iterator", data := .fields #[.ref l, .int 0 0] }).objs.size = s.heap.objs.size + 1 := Heap.size_push ..
  show _ ∧ _
  rw [hz]
  have he : IsEnum ((s.heap.push { cls := .type "tuple_iterator", data := .fields #[.ref l, .int 0 0] }).push
      { cls := .type "enumerate", data := .fields #[.none, .bool false, .ref s.heap.objs.size, rawInt 0, .none, .none] }) (s.heap.objs.size + 1) s.heap.objs.size 0 .none := by
    have := Heap.get?_push_size (s.heap.push { cls := .type "tuple_iterator", data := .fields #[.ref l, .int 0 0] })
      (o := { cls := .type "enumerate", data := .fields #[.none, .bool false, .ref s.heap.objs.size, rawInt 0, .none, .none] }) rfl
    rw [hz] at this; exact this
  refine ⟨⟨_, he, rfl⟩, h _ he ⟨_, Heap.get?_push_of_some _ (Heap.get?_push_size _ rfl), rfl, rfl⟩ (by rw [Heap.size_push, hz]) fun b o x => Heap.get?_push_of_some _ (Heap.get?_push_of_some _ x)⟩
end
end PVE
namespace PV
open PySem PySem.Spec PyProof.Rows L2
def SqK : Bool → Frag → Hp → Addr → List V → Prop
  | true => SqL
  | false => SqT
def IsK : Bool → Heap → Addr → Array Value → Prop
  | true => Heap.IsList
  | false => Heap.IsTuple
def ItrK : Bool → Heap → Addr → Addr → Nat → Prop
  | true => Heap.IsListIter
  | false => Heap.IsTupleIter
theorem seqK {X : Cx} {pins : List (Addr × Obj)} {σ : L2.St} {H : Hp} {s : Shared} {a : Addr} {xs : List V} (I : Inv X pins σ H s) : ∀ {kd : Bool}, SqK kd X.K H a xs → ∃ its : List Value, Vals xs its ∧ IsK kd s.heap a its.toArray ∧ a < s.heap.objs.size
  | true, h => by
    obtain ⟨its, rv, p, _⟩ := I.list h
    exact ⟨its, rv, p.isList, p.lt⟩
  | false, h => by
    obtain ⟨its, rv, p, _⟩ := I.tuple h
    exact ⟨its, rv, p, by obtain ⟨o, ho, _⟩ := p; exact Heap.lt_size ho⟩
theorem seqK_inj {X : Cx} {pins : List (Addr × Obj)} {σ : L2.St} {H : Hp} {s : Shared} {a : Addr} {xs ys : List V} (I : Inv X pins σ H s) : ∀ {kd : Bool}, SqK kd X.K H a xs → SqK kd X.K H a ys → xs = ys
  | true, h, h' => I.list_inj h h'
  | false, h, h' => I.tuple_inj h h'
theorem drawsK {prog : Program} {w : World} {A : Around} (hh : A.handled = none) (it l : Addr) (hne : l ≠ it) (items : Array Value) : ∀ kd : Bool, Draws prog w A it [it, l] items.size (fun i v => items[i]? = some v) (fun i h => ItrK kd h it l i ∧ IsK kd h l items)
  | true => Draws.list hh it l hne items
  | false => Draws.tuple hh it l hne items
theorem ItrK.obj : ∀ {kd : Bool} {h : Heap} {it a : Addr} {i : Nat}, ItrK kd h it a i → ∃ o, h.get? it = some o ∧ ∀ v, o.data ≠ .cell v
  | true, _, _, _, _, ⟨o, ho, _, hd⟩ => ⟨o, ho, fun v q => by rw [hd] at q; cases q⟩
  | false, _, _, _, _, ⟨o, ho, _, hd⟩ => ⟨o, ho, fun v q => by rw [hd] at q; cases q⟩
theorem ItrK.at : ∀ {kd : Bool} {h h' : Heap} {it a : Addr} {i : Nat}, ItrK kd h it a i → (∀ o, h.get? it = some o → h'.get? it = some o) → ItrK kd h' it a i
  | true, _, _, _, _, _, st, e => Heap.IsListIter.at st e
  | false, _, _, _, _, _, st, e => Heap.IsTupleIter.at st e
/-- the sequence at a, each item in a new pair -/
def Itek (K : Frag) (kd : Bool) (a : Addr) : It :=
  ⟨fun i H => ∃ (xs : List V) (x : V), SqK kd K H a xs ∧ xs[i]? = some x, fun i H v H' => ∃ T x o, v = .ref T ∧ H T = none ∧ o.dict = none ∧ H' = upd H T (.frz o (.tup [.int (i : Nat), x])) ∧ ∀ xs, SqK kd K H a xs → xs[i]? = some x, fun i H => ∃ xs : List V, SqK kd K H a xs ∧ xs.length = i⟩
theorem turn_enumK {P : Program} {w : World} {K : Frag} {elts : List Expr} {kk : Nat} {tpos : Pos} (kd : Bool) (a e it : Addr) :
    Turn P w K (.Tuple elts kk tpos) (Itek K kd a) [e, it] e (fun i h => (∃ old, IsEnum h e it ((i : Nat) : Int) old) ∧ ItrK kd h it a i ∧ e ≠ it ∧ a ≠ it ∧ e ≠ a) where
  mem := by simp
  obj := fun i h st b hb => by
    obtain ⟨⟨old, he⟩, hit, _⟩ := st
    have e' : b = e ∨ b = it := by simpa using hb
    rcases e' with z | z
    · rw [z]; exact ⟨_, he, fun v q => nomatch q⟩
    · rw [z]; exact hit.obj
  keep := fun i h h' st k => let ⟨⟨old, he⟩, hi, hne⟩ := st; ⟨⟨old, k e (by simp) _ he⟩, hi.at fun o q => k it (by simp) o q, hne⟩
  item := by
    intro X hP hw hK hc i pins s σ H E I hf st hg
    subst hP hw hK
    obtain ⟨⟨old, he⟩, hit, hne, hai, hea⟩ := st
    obtain ⟨xs, x, hq, hx⟩ := hg
    obtain ⟨its, rv, p, hal⟩ := seqK I hq
    obtain ⟨u, hu, ru⟩ := rv.get hx
    have hel : e < s.heap.objs.size := Heap.lt_size he
    have hil : it < s.heap.objs.size := by obtain ⟨_, q, _⟩ := hit.obj; exact Heap.lt_size q
    have hlt : i < its.toArray.size := by
      rw [List.size_toArray]
      exact lt_of_get hu
    refine wpAny_pyNext_enum_itemD (drawsK (prog := X.prog) (w := X.w) (A := X.A.in1) (I.ok.hd hc) it a hai its.toArray kd) he ⟨hit, p⟩ hlt hne (by simp [hne, hea]) fun x' h' tk hx' ho hit' hT hsz hk => ?_
    have ex : x' = u := by
      have : its.toArray[i]? = some u := by simpa using hu
      rw [this] at hx'
      exact (Option.some.inj hx').symm
    subst ex
    refine ⟨_, rfl, wpAny_letOwnedTupleGo_enum (s := { s with heap := h', toks := tk + 1 }) ho fun h'' he' sb => ?_⟩
    have hT2 : h''.get? s.heap.objs.size = some { cls := .type "tuple", data := .seq #[.int i tk, x'] } := (sb.2 _ (Nat.ne_of_gt hel)).trans hT
    have new : ObjOk X.prog X.w (upd H s.heap.objs.size (.frz (tupO [.int i tk, x']) (.tup [.int (i : Nat), x]))) h'' s.heap.objs.size (.frz (tupO [.int i tk, x']) (.tup [.int (i : Nat), x])) :=
      newOk hT2 (.cons ⟨_, rfl⟩ (.cons ru .nil)) (by show 2 ≤ sizeLine; decide)
    have I1 : Inv X pins σ (upd H s.heap.objs.size (.frz (tupO [.int i tk, x']) (.tup [.int (i : Nat), x]))) { s with heap := h'', toks := tk + 1 } :=
      I.turnedNew (ch := [e, it]) (fun b ob hb q => (sb.2 b (fun z => hb (by simp [z]))).trans (hk b ob (fun z => hb (by simp [z])) (fun z => hb (by simp [z])) q)) hf (Nat.le_refl _) new
    refine ⟨.ref s.heap.objs.size, _, I1, rfl, ⟨_, x, _, rfl, I.hok.fresh (Nat.le_refl _), rfl, rfl, fun ys hy => by rw [seqK_inj I hy hq]; exact hx⟩, ⟨⟨x', ?_⟩, hit'.1.at fun o q => (sb.2 it (Ne.symm hne)).trans q, hne, hai, hea⟩, fun b hb => ?_⟩
    · have e1 : ((i + 1 : Nat) : Int) = (i : Int) + 1 := by omega
      rw [e1]; exact he'
    · have hb' : b < s.heap.objs.size := by
        have e' : b = e ∨ b = it := by simpa using hb
        rcases e' with z | z
        · rw [z]; exact hel
        · rw [z]; exact hil
      rw [upd_ne (Nat.ne_of_lt hb')]
      exact (hf b hb).1
  done := by
    intro X hP hw hK hc i pins s σ H E I hf st hg
    subst hP hw hK
    obtain ⟨⟨old, he⟩, hit, hne, hai, hea⟩ := st
    obtain ⟨xs, hq, hx⟩ := hg
    obtain ⟨its, rv, p, hal⟩ := seqK I hq
    obtain ⟨f0, f1, f2, f3, f4, f5⟩ := hf it (by simp)
    have hl := rv.length
    have hsz : its.toArray.size = i := by rw [List.size_toArray]; omega
    subst hsz
    exact wpAny_pyNext_enum_endD (drawsK (prog := X.prog) (w := X.w) (A := X.A.in1) (I.ok.hd hc) it a hai its.toArray kd) he ⟨hit, p⟩ fun h' eb => ⟨rfl, I.turned (t' := s.toks) (fun b o hb q => eb b o hb q) f0 f1 f3 f4 f5⟩
  self := fun A i s Q E st h => let ⟨⟨_, he⟩, _⟩ := st; wpAny_pyIter_enum he h
def iEnumK (K : Frag) (kd : Bool) (ta : TA) : TI := fun σ H R => ta σ H fun vs H1 => ∃ a xs, vs = [.ref a] ∧ SqK kd K H1 a xs ∧ R (Itek K kd a) H1
theorem call_enumK {prog : Program} {w : World} {A : Around} {E : Value → Shared → Prop} {s : Shared} {l : Addr} {items : Array Value} {Q : Value → Shared → Prop} : ∀ {kd : Bool}, IsK kd s.heap l items →
    (∀ h', IsEnum h' (s.heap.objs.size + 1) s.heap.objs.size 0 .none → ItrK kd h' s.heap.objs.size l 0 → h'.objs.size = s.heap.objs.size + 2 →
      (∀ b o, s.heap.get? b = some o → h'.get? b = some o) → Q (.ref (s.heap.objs.size + 1)) { s with heap := h' }) →
    wpAny (model prog w) A (call (.type "enumerate") [.ref l]) Q E s
  | true, p, h => call_enumerate_list p h
  | false, p, h => PVE.call_enumerate_tup p h
theorem pi_enumK {X : Cx} {e : Expr} {ta : TA} {p pos tpos : Pos} {elts : List Expr} {kk : Nat} (kd : Bool) (hg : Gl X "enumerate") (hm : X.mg "enumerate" = none) (ha : PA X [e] ta) (hs : starEach [e] X.env = [(false, eval e X.env)]) :
    PI X (.Tuple elts kk tpos) (.Call (.Name "enumerate" p) [e] [] pos) (iEnumK X.K kd ta) := by
  refine ⟨fun pins s σ H R I h => ?_⟩
  refine Call_ (ld_blt I hg hm PyProof.Rows.boot_enumerate (PyProof.Rows.callWith_type1 (thn (ha.run pos pins s σ H _ I h) fun us s1 ⟨vs, H1, I1, r1, q1⟩ => ?_) hs rfl))
  obtain ⟨a, xs, ex, hq, q⟩ := q1
  subst ex
  cases r1 with
  | cons r rr =>
    cases rr
    cases r
    obtain ⟨its, rv, p', hal⟩ := seqK I1 hq
    refine call_enumK p' fun h' he hit hsz hk => wpAny_pyIter_enum he ?_
    have I2 : Inv X pins σ H1 { s1 with heap := h' } := I1.kept (t' := s1.toks) hk
    refine ⟨s1.heap.objs.size + 1, [s1.heap.objs.size + 1, s1.heap.objs.size], _, _, H1, rfl, I2, turn_enumK kd a (s1.heap.objs.size + 1) s1.heap.objs.size, ⟨⟨.none, he⟩, hit, Nat.succ_ne_self _, Nat.ne_of_lt hal, Nat.ne_of_gt (Nat.lt_succ_of_lt hal)⟩, fun b hb => ?_, q⟩
    have e' : b = s1.heap.objs.size + 1 ∨ b = s1.heap.objs.size := by simpa using hb
    have hle : s1.heap.objs.size ≤ b := by
      rcases e' with z | z
      · rw [z]; exact Nat.le_add_right _ _
      · rw [z]; exact Nat.le_refl _
    exact I1.fpOk hle (I1.hok.fresh hle)
/-- the items as they stand in the heap -/
def AtK : Bool → Hp → Addr → List V → Prop
  | true, H, a, vs => H a = some (.lst vs)
  | false, H, a, vs => TupAt H a vs
theorem AtK.sq {K : Frag} {H H' : Hp} {a : Addr} {vs : List V} : ∀ {kd : Bool}, AtK kd H a vs → (∀ o, H a = some o → H' a = some o) → SqK kd K H' a vs
  | true, e, k => SqL.of (k _ e)
  | false, e, k => TupAt.sq (TupAt.keep e k)
def sqD : Bool → List D → D
  | true, xs => .list xs
  | false, xs => .tuple xs
theorem rv_sq {K : Frag} {Im H : Hp} {v : V} {ds : List D} (hs : Sub Im H) : ∀ {kd : Bool}, RVR K Im H v (.d (sqD kd ds)) → ∃ p vs, v = .ref p ∧ AtK kd H p vs ∧ RpAll K Im vs ds
  | true, h => h.list hs
  | false, h => by
    obtain ⟨p, vs, h1, h2, h3, _⟩ := h.tuple hs
    exact ⟨p, vs, h1, h2, h3⟩
section
variable {K : Frag} {σ : St} {H Im1 H1 : Hp}
theorem walk_enumK {kd : Bool} {a : Addr} {xs : List V} : Walk (Itek K kd a) xs.length (fun H => SqK kd K H a xs) (YPairF (fun i => some (.int (i : Nat))) (fun i => xs[i]?)) := by
  refine ⟨fun i _ hi q => ⟨xs, xs[i], q, by simp [hi]⟩, fun _ q => ⟨xs, q, rfl⟩, fun i H v H' _ q y => ?_⟩
  obtain ⟨T, x, o, h1, h2, h3, h4, h5⟩ := y
  exact ⟨T, .int (i : Nat), x, o, h1, h2, h3, h4, rfl, h5 xs q⟩
theorem walk_en {kd : Bool} {a : Addr} {vs : List V} {xs : List D} {v' : V} (hp : AtK kd H1 a vs) (r : RpAll K Im1 vs xs) : Walk (Itek K kd a) (enumD xs 0).length (Kept (.ref a) v' H1) (Yd K Im1 (enumD xs 0)) := by
  rw [enumD_length, ← r.length]
  refine walk_enumK.mono (fun H g => hp.sq fun _ => g _ _ (.inl rfl)) fun i H x H' _ _ y => yd_pair (fun a b h1 h2 => ?_) y
  cases h1
  obtain ⟨d, e, q⟩ := r.getV h2
  exact ⟨_, d, by rw [enumD_get xs 0 i e], by rw [Nat.zero_add]; exact .int _, q⟩
theorem walkL_enum {r q : RV} {xs : List D} (e : walkL .enum r q = some xs) : ∃ kd a, r = .d (sqD kd a) ∧ xs = enumD a 0 := by
  cases r with
  | dct _ => simp [walkL] at e
  | d x =>
    cases x with
    | list ds => cases e; exact ⟨true, _, rfl, rfl⟩
    | tuple ds => cases e; exact ⟨false, _, rfl, rfl⟩
    | _ => simp [walkL, seqOf] at e
theorem tit_enum {fa fb : Sg → Option (W × Sg)} {R : It → Hp → Prop} (h : TIt K .enum fa fb σ H R) : iEnumK K true (tCons (TEv K fa) tNil) σ H R ∨ iEnumK K false (tCons (TEv K fa) tNil) σ H R := by
  obtain ⟨s, Im, Re, w, s1, u, s2, r, q, xs, e1, e2, e3, e4, e5, k⟩ := h
  simp only [twoE, ItK.two, Bool.false_eq_true, if_false, Option.some.injEq, Prod.mk.injEq] at e2
  obtain ⟨rfl, rfl⟩ := e2
  obtain ⟨kd, ds, rfl, rfl⟩ := walkL_enum e5
  have core : iEnumK K kd (tCons (TEv K fa) tNil) σ H R := by
    refine ⟨s, Im, Re, w, s1, e1, fun Im1 v H1 R1 st1 x1 => ?_⟩
    obtain ⟨p, vs, rfl, hp, rv⟩ := rv_sq R1.sub (x1.rv R1 e3)
    exact ⟨p, vs, rfl, hp.sq fun _ e => e, k Im1 _ .non H1 _ R1 st1 x1 (.d .non) (walk_en hp rv)⟩
  cases kd
  · exact .inr core
  · exact .inl core
theorem zipD_get : ∀ (xs ys : List D) (i : Nat) {d e : D}, xs[i]? = some d → ys[i]? = some e → (zipD xs ys)[i]? = some (.tuple [d, e])
  | [], _, _, _, _, h, _ => by simp at h
  | _ :: _, [], _, _, _, _, h => by simp at h
  | x :: xs, y :: ys, 0, d, e, h1, h2 => by simp at h1 h2; subst h1 h2; simp [zipD]
  | x :: xs, y :: ys, i + 1, d, e, h1, h2 => by
    rw [zipD, List.getElem?_cons_succ]
    exact zipD_get xs ys i (by simpa using h1) (by simpa using h2)
theorem zipD_length : ∀ (xs ys : List D), (zipD xs ys).length = min xs.length ys.length
  | [], ys => by simp [zipD]
  | _ :: _, [] => by simp [zipD]
  | x :: xs, y :: ys => by rw [zipD, List.length_cons, zipD_length xs ys, List.length_cons, List.length_cons]; omega
end
end PV
namespace PV
open PySem PySem.Spec PyProof.Rows L2
def Itzx (K : Frag) (k1 k2 : Bool) (a b : Addr) : It :=
  ⟨fun i H => ∃ (xs ys : List V) (x y : V), SqK k1 K H a xs ∧ SqK k2 K H b ys ∧ xs[i]? = some x ∧ ys[i]? = some y,
    fun i H v H' => ∃ T x y o, v = .ref T ∧ H T = none ∧ o.dict = none ∧ H' = upd H T (.frz o (.tup [x, y])) ∧ (∀ xs, SqK k1 K H a xs → xs[i]? = some x) ∧ ∀ ys, SqK k2 K H b ys → ys[i]? = some y,
    fun i H => ∃ xs ys : List V, SqK k1 K H a xs ∧ SqK k2 K H b ys ∧ i ≤ xs.length ∧ i ≤ ys.length ∧ (i = xs.length ∨ i = ys.length)⟩
theorem turn_zipX {P : Program} {w : World} {K : Frag} {elts : List Expr} {kk : Nat} {tpos : Pos} {k1 k2 : Bool} {a b z TI TO i1 i2 : Addr} (S : ZipSep2 z TI TO i1 i2 [i1, a] [i2, b]) (ha1 : a ≠ i1) (hb2 : b ≠ i2) :
    Turn P w K (.Tuple elts kk tpos) (Itzx K k1 k2 a b) [z, TI, TO, i1, i2] z (fun i h => IsZip h z TI TO .none ∧ IsTupOf2 h TI (.ref i1) (.ref i2) ∧ (∃ x y, IsTupOf2 h TO x y) ∧ ItrK k1 h i1 a i ∧ ItrK k2 h i2 b i) where
  mem := by simp
  obj := fun i h st c hc => by
    obtain ⟨hz, hTI, ⟨x, y, hTO⟩, h1, h2⟩ := st
    have e' : c = z ∨ c = TI ∨ c = TO ∨ c = i1 ∨ c = i2 := by simpa using hc
    rcases e' with q | q | q | q | q
    · rw [q]; exact ⟨_, hz, fun v q => nomatch q⟩
    · rw [q]; exact ⟨_, hTI, fun v q => nomatch q⟩
    · rw [q]; exact ⟨_, hTO, fun v q => nomatch q⟩
    · rw [q]; exact h1.obj
    · rw [q]; exact h2.obj
  keep := fun i h h' st k => by
    obtain ⟨hz, hTI, ⟨x, y, hTO⟩, h1, h2⟩ := st
    exact ⟨k z (by simp) _ hz, k TI (by simp) _ hTI, ⟨x, y, k TO (by simp) _ hTO⟩, h1.at fun o q => k i1 (by simp) o q, h2.at fun o q => k i2 (by simp) o q⟩
  item := by
    intro X hP hw hK hc i pins s σ H E I hf st hg
    subst hP hw hK
    obtain ⟨hz, hTI, ⟨x0, y0, hTO⟩, h1, h2⟩ := st
    obtain ⟨xs, ys, x, y, hqx, hqy, hx, hy⟩ := hg
    obtain ⟨its, rv, p, _⟩ := seqK I hqx
    obtain ⟨its2, rv2, p2, _⟩ := seqK I hqy
    obtain ⟨u, hu, ru⟩ := rv.get hx
    obtain ⟨u2, hu2, ru2⟩ := rv2.get hy
    have hzl : z < s.heap.objs.size := Heap.lt_size hz
    refine wpAny_pyNext_zipD2_item S (drawsK (prog := X.prog) (w := X.w) (A := X.A.in1) (I.ok.hd hc) i1 a ha1 its.toArray k1) (drawsK (prog := X.prog) (w := X.w) (A := X.A.in1) (I.ok.hd hc) i2 b hb2 its2.toArray k2) hz hTI hTO ⟨h1, p⟩ ⟨h2, p2⟩ (by rw [List.size_toArray]; exact lt_of_get hu) (by rw [List.size_toArray]; exact lt_of_get hu2) fun v1 v2 h' tk e1 e2 z' TO' st1 st2 hT hsz hk => ?_
    have e1 : v1 = u := by
      have : its.toArray[i]? = some u := by simpa using hu
      rw [this] at e1
      exact (Option.some.inj e1).symm
    have e2 : v2 = u2 := by
      have : its2.toArray[i]? = some u2 := by simpa using hu2
      rw [this] at e2
      exact (Option.some.inj e2).symm
    subst e1 e2
    refine ⟨_, rfl, wpAny_letOwnedTupleGo_zip (s := { s with heap := h', toks := tk }) z' fun h'' z'' sb => ?_⟩
    have hT2 : h''.get? s.heap.objs.size = some { cls := .type "tuple", data := .seq #[v1, v2] } := (sb.2 _ (Nat.ne_of_gt hzl)).trans hT
    have new : ObjOk X.prog X.w (upd H s.heap.objs.size (.frz (tupO [v1, v2]) (.tup [x, y]))) h'' s.heap.objs.size (.frz (tupO [v1, v2]) (.tup [x, y])) :=
      newOk hT2 (.cons ru (.cons ru2 .nil)) (by show 2 ≤ sizeLine; decide)
    have I1 : Inv X pins σ (upd H s.heap.objs.size (.frz (tupO [v1, v2]) (.tup [x, y]))) { s with heap := h'', toks := tk } :=
      I.turnedNew (ch := [z, TI, TO, i1, i2]) (fun c o hb q => (sb.2 c (fun q' => hb (by simp [q']))).trans (hk c o (fun q' => hb (by simp [q'])) (fun q' => hb (by simp [q'])) (fun q' => hb (by simp [q'])) (fun q' => hb (by simp [q'])) q)) hf (Nat.le_refl _) new
    refine ⟨.ref s.heap.objs.size, _, I1, rfl, ⟨_, x, y, _, rfl, I.hok.fresh (Nat.le_refl _), rfl, rfl, fun l hl => by rw [seqK_inj I hl hqx]; exact hx, fun l hl => by rw [seqK_inj I hl hqy]; exact hy⟩, ⟨z'', ?_, ⟨v1, v2, ?_⟩, ?_, ?_⟩, fun c hcm => ?_⟩
    · exact (sb.2 _ S.TIz).trans (hk _ _ S.TIz S.TITO S.TIi1 S.TIi2 hTI)
    · exact (sb.2 _ S.TOz).trans TO'
    · exact st1.1.at fun o q => (sb.2 i1 (Ne.symm S.zi1)).trans q
    · exact st2.1.at fun o q => (sb.2 i2 (Ne.symm S.zi2)).trans q
    · obtain ⟨o, ho⟩ : ∃ o, s.heap.get? c = some o := by
        have e' : c = z ∨ c = TI ∨ c = TO ∨ c = i1 ∨ c = i2 := by simpa using hcm
        rcases e' with q | q | q | q | q
        · rw [q]; exact ⟨_, hz⟩
        · rw [q]; exact ⟨_, hTI⟩
        · rw [q]; exact ⟨_, hTO⟩
        · rw [q]; obtain ⟨o, ho, _⟩ := h1.obj; exact ⟨o, ho⟩
        · rw [q]; obtain ⟨o, ho, _⟩ := h2.obj; exact ⟨o, ho⟩
      rw [upd_ne (Nat.ne_of_lt (Heap.lt_size ho))]
      exact (hf c hcm).1
  done := by
    intro X hP hw hK hc i pins s σ H E I hf st hg
    subst hP hw hK
    obtain ⟨hz, hTI, ⟨x0, y0, hTO⟩, h1, h2⟩ := st
    obtain ⟨xs, ys, hqx, hqy, hl1, hl2, hend⟩ := hg
    obtain ⟨its, rv, p, _⟩ := seqK I hqx
    obtain ⟨its2, rv2, p2, _⟩ := seqK I hqy
    have e1 := rv.length
    have e2 := rv2.length
    exact wpAny_pyNext_zipD2_end S (drawsK (prog := X.prog) (w := X.w) (A := X.A.in1) (I.ok.hd hc) i1 a ha1 its.toArray k1) (drawsK (prog := X.prog) (w := X.w) (A := X.A.in1) (I.ok.hd hc) i2 b hb2 its2.toArray k2) hz hTI hTO ⟨h1, p⟩ ⟨h2, p2⟩ (by rw [List.size_toArray]; omega) (by rw [List.size_toArray]; omega) (by rw [List.size_toArray, List.size_toArray]; omega) fun h' tk hk =>
      ⟨rfl, I.turnedL (t' := tk) (ch := [z, TI, TO, i1, i2]) (fun c o hb q => hk c o (fun q' => hb (by simp [q'])) (fun q' => hb (by simp [q'])) (fun q' => hb (by simp [q'])) (fun q' => hb (by simp [q'])) q) hf⟩
  self := fun A i s Q E st h => wpAny_pyIter_zip st.1 h
def itObj : Bool → Addr → Obj
  | true, l => { cls := .type "list_iterator", data := .fields #[.ref l, .int 0 0] }
  | false, l => { cls := .type "tuple_iterator", data := .fields #[.ref l, .int 0 0] }
theorem beginsK (l : Addr) (items : Array Value) : ∀ kd : Bool, Begins (.ref l) (itObj kd l) (fun h => IsK kd h l items)
  | true => begins_list l items
  | false => begins_tuple l items
theorem itr_of {h : Heap} {it l : Addr} : ∀ {kd : Bool}, h.get? it = some (itObj kd l) → ItrK kd h it l 0
  | true, e => ⟨_, e, rfl, rfl⟩
  | false, e => ⟨_, e, rfl, rfl⟩
def iZipX (K : Frag) (k1 k2 : Bool) (ta : TA) : TI := fun σ H R => ta σ H fun vs H1 => ∃ a b xs ys, vs = [.ref a, .ref b] ∧ SqK k1 K H1 a xs ∧ SqK k2 K H1 b ys ∧ R (Itzx K k1 k2 a b) H1
theorem pi_zipX {X : Cx} {e e2 : Expr} {ta : TA} {p pos tpos : Pos} {elts : List Expr} {kk : Nat} (k1 k2 : Bool) (hg : Gl X "zip") (hm : X.mg "zip" = none) (ha : PA X [e, e2] ta)
    (hs : starEach [e, e2] X.env = (false, eval e X.env) :: starEach [e2] X.env) (hpl : (backTo pos (starEach [e2] X.env)).any (·.1) = false) :
    PI X (.Tuple elts kk tpos) (.Call (.Name "zip" p) [e, e2] [] pos) (iZipX X.K k1 k2 ta) := by
  refine ⟨fun pins s σ H R I h => ?_⟩
  refine Call_ (ld_blt I hg hm PyProof.Rows.boot_zip (PyProof.Rows.callWith_type1 (thn (ha.run pos pins s σ H _ I h) fun us s1 ⟨vs, H1, I1, r1, q1⟩ => ?_) hs hpl))
  obtain ⟨a, b, xs, ys, ex, hqx, hqy, q⟩ := q1
  subst ex
  cases r1 with
  | cons r rr =>
    cases rr with
    | cons r' rr =>
      cases rr
      cases r
      cases r'
      obtain ⟨its, rv, p1, la⟩ := seqK I1 hqx
      obtain ⟨its2, rv2, p2, lb⟩ := seqK I1 hqy
      refine zip_begins2 (beginsK a its.toArray k1) (beginsK b its2.toArray k2) p1 p2 fun h' hz hTI hTO h1 h2 hsz hk => wpAny_pyIter_zip hz ?_
      have I2 : Inv X pins σ H1 { s1 with heap := h' } := I1.kept (t' := s1.toks) hk
      have na : ∀ j : Nat, a ≠ s1.heap.objs.size + j := fun j => Nat.ne_of_lt (Nat.lt_of_lt_of_le la (Nat.le_add_right _ _))
      have nb : ∀ j : Nat, b ≠ s1.heap.objs.size + j := fun j => Nat.ne_of_lt (Nat.lt_of_lt_of_le lb (Nat.le_add_right _ _))
      have ne : ∀ i j : Nat, i ≠ j → s1.heap.objs.size + i ≠ s1.heap.objs.size + j := fun i j h e => h (Nat.add_left_cancel e)
      have S : ZipSep2 (s1.heap.objs.size + 4) (s1.heap.objs.size + 2) (s1.heap.objs.size + 3) s1.heap.objs.size (s1.heap.objs.size + 1) [s1.heap.objs.size, a] [s1.heap.objs.size + 1, b] := by
        refine ⟨ne 2 4 (by decide), ne 3 4 (by decide), ne 2 3 (by decide), ne 2 0 (by decide), List.mem_cons_self .., ?_, ?_, ne 2 1 (by decide), List.mem_cons_self .., ?_, ?_, ?_, ?_⟩
        · simp only [List.mem_cons, List.not_mem_nil, or_false, not_or]; exact ⟨ne 4 0 (by decide), (na 4).symm⟩
        · simp only [List.mem_cons, List.not_mem_nil, or_false, not_or]; exact ⟨ne 3 0 (by decide), (na 3).symm⟩
        · simp only [List.mem_cons, List.not_mem_nil, or_false, not_or]; exact ⟨ne 4 1 (by decide), (nb 4).symm⟩
        · simp only [List.mem_cons, List.not_mem_nil, or_false, not_or]; exact ⟨ne 3 1 (by decide), (nb 3).symm⟩
        · simp only [List.mem_cons, List.not_mem_nil, or_false, not_or]; exact ⟨ne 0 1 (by decide), (nb 0).symm⟩
        · simp only [List.mem_cons, List.not_mem_nil, or_false, not_or]; exact ⟨ne 1 0 (by decide), (na 1).symm⟩
      refine ⟨s1.heap.objs.size + 4, [s1.heap.objs.size + 4, s1.heap.objs.size + 2, s1.heap.objs.size + 3, s1.heap.objs.size, s1.heap.objs.size + 1], _, _, H1, rfl, I2, turn_zipX S (na 0) (nb 1), ⟨hz, hTI, ⟨_, _, hTO⟩, itr_of h1, itr_of h2⟩, fun c hcm => ?_, q⟩
      have e' : c = s1.heap.objs.size + 4 ∨ c = s1.heap.objs.size + 2 ∨ c = s1.heap.objs.size + 3 ∨ c = s1.heap.objs.size ∨ c = s1.heap.objs.size + 1 := by simpa using hcm
      have hle : s1.heap.objs.size ≤ c := by
        rcases e' with z | z | z | z | z
        · rw [z]; exact Nat.le_add_right _ _
        · rw [z]; exact Nat.le_add_right _ _
        · rw [z]; exact Nat.le_add_right _ _
        · rw [z]; exact Nat.le_refl _
        · rw [z]; exact Nat.le_add_right _ _
      exact I1.fpOk hle (I1.hok.fresh hle)
section
variable {K : Frag} {σ : L2.St} {H Im1 H1 : Hp}
theorem walk_zipX {k1 k2 : Bool} {a b : Addr} {xs ys : List V} {n : Nat} (hn : n = min xs.length ys.length) : Walk (Itzx K k1 k2 a b) n (fun H => SqK k1 K H a xs ∧ SqK k2 K H b ys) (YPairF (fun i => xs[i]?) (fun i => ys[i]?)) := by
  subst hn
  refine ⟨fun i _ hi q => ?_, fun _ q => ⟨xs, ys, q.1, q.2, by omega, by omega, by omega⟩, fun i H v H' _ q y => ?_⟩
  · have h1 : i < xs.length := by omega
    have h2 : i < ys.length := by omega
    exact ⟨xs, ys, xs[i], ys[i], q.1, q.2, by simp [h1], by simp [h2]⟩
  · obtain ⟨T, x, z, o, h1, h2, h3, h4, h5, h6⟩ := y
    exact ⟨T, x, z, o, h1, h2, h3, h4, h5 xs q.1, h6 ys q.2⟩
theorem walk_zx {k1 k2 : Bool} {a b : Addr} {vs us : List V} {xs ys : List D} (hp : AtK k1 H1 a vs) (hq : AtK k2 H1 b us) (r : RpAll K Im1 vs xs) (r' : RpAll K Im1 us ys) : Walk (Itzx K k1 k2 a b) (zipD xs ys).length (Kept (.ref a) (.ref b) H1) (Yd K Im1 (zipD xs ys)) := by
  rw [zipD_length]
  refine (walk_zipX (xs := vs) (ys := us) (by rw [r.length, r'.length])).mono (fun H g => ⟨hp.sq fun _ => g _ _ (.inl rfl), hq.sq fun _ => g _ _ (.inr rfl)⟩) fun i H x H' _ _ y => yd_pair (fun a b h1 h2 => ?_) y
  obtain ⟨d, e, q⟩ := r.getV h1
  obtain ⟨d', e', q'⟩ := r'.getV h2
  exact ⟨d, d', zipD_get xs ys i e e', q, q'⟩
theorem walkL_zip {r q : RV} {xs : List D} (e : walkL .zip r q = some xs) : ∃ k1 k2 a b, r = .d (sqD k1 a) ∧ q = .d (sqD k2 b) ∧ xs = zipD a b := by
  cases r with
  | dct _ => simp [walkL] at e
  | d x =>
    cases q with
    | dct _ => cases x <;> simp [walkL] at e
    | d y =>
      cases x <;> cases y <;> first | (simp [walkL] at e; done) | skip
      · cases e; exact ⟨true, true, _, _, rfl, rfl, rfl⟩
      · cases e; exact ⟨true, false, _, _, rfl, rfl, rfl⟩
      · cases e; exact ⟨false, true, _, _, rfl, rfl, rfl⟩
      · cases e; exact ⟨false, false, _, _, rfl, rfl, rfl⟩
theorem tit_zip {fa fb : Sg → Option (W × Sg)} {R : It → Hp → Prop} (h : TIt K .zip fa fb σ H R) : (iZipX K true true (tCons (TEv K fa) (tCons (TEv K fb) tNil)) σ H R ∨ iZipX K true false (tCons (TEv K fa) (tCons (TEv K fb) tNil)) σ H R) ∨ (iZipX K false true (tCons (TEv K fa) (tCons (TEv K fb) tNil)) σ H R ∨ iZipX K false false (tCons (TEv K fa) (tCons (TEv K fb) tNil)) σ H R) := by
  obtain ⟨s, Im, Re, w, s1, u, s2, r, q, xs, e1, e2, e3, e4, e5, k⟩ := h
  simp only [twoE, ItK.two, if_true] at e2
  obtain ⟨k1, k2, a, b, rfl, rfl, rfl⟩ := walkL_zip e5
  have core : iZipX K k1 k2 (tCons (TEv K fa) (tCons (TEv K fb) tNil)) σ H R := by
    refine ⟨s, Im, Re, w, s1, e1, fun Im1 v H1 R1 st1 x1 => ⟨s1, Im1, R1, u, s2, e2, fun Im2 v2 H2 R2 st2 x2 => ?_⟩⟩
    have x1 := x1.later st2
    obtain ⟨p, vs, rfl, hp, rv⟩ := rv_sq R2.sub (x1.rv R2 e3)
    obtain ⟨p2, us, rfl, hp2, ru⟩ := rv_sq R2.sub (x2.rv R2 e4)
    exact ⟨p, p2, vs, us, rfl, hp.sq fun _ e => e, hp2.sq fun _ e => e, k Im2 _ _ H2 _ R2 (st1.trans st2) x1 (x2.before st1) (walk_zx hp hp2 rv ru)⟩
  cases k1 <;> cases k2
  · exact .inr (.inr core)
  · exact .inr (.inl core)
  · exact .inl (.inr core)
  · exact .inl (.inl core)
end
end PV
namespace PV
open PySem PySem.Spec PyProof.Rows L2
section
variable {X : Cx} {K : Frag} {σ σ' σ1 σ2 : St} {Im H Im' H' H0 Im1 H1 Im2 H2 : Hp} {s s' s1 s2 : Sg} {p : Addr} {c : Cell} {v : V} {w : W} {x : D}
/-- what stands apart: no slot's, no data -/
structure Apart (σ : St) (Im H : Hp) (s : Sg) (D : Addr) (o : HO) : Prop where
  at_ : H D = some o
  im : Im D = none
  no : ∀ (i : Nat) (k : Mode) (c' : Cell), s[i]? = some (some (.m k c')) → σ[i]? ≠ some (some (.ref D))
theorem Apart.nT {D : Addr} {o : HO} (h : Apart σ Im H s D o) : ¬ Tch σ s D := fun ⟨i, k, c, _, e1, e2⟩ => h.no i k c e1 e2
theorem Apart.laterT {T : Addr → Prop} {D : Addr} {o : HO} (h : Apart σ Im H s D o) (b : Sto T σ s Im H σ' s' Im' H') (nT : ¬ T D) : Apart σ' Im' H' s' D o where
  at_ := b.keep D o h.at_ nT
  im := by
    cases q : Im' D with
    | none => rfl
    | some u =>
      rcases b.new D u q with z | z | z
      · rw [h.im] at z; cases z
      · rw [h.at_] at z; cases z
      · exact absurd z nT
  no := fun i k c' e1 e2 => by
    by_cases ho : k = .own
    · subst ho
      rcases b.own i c' D e1 e2 with z | ⟨j, c, g1, g2⟩
      · rw [h.at_] at z; cases z
      · exact h.no j _ c g1 g2
    · obtain ⟨c, g1, g2, _⟩ := b.old i k c' ho e1
      exact h.no i k c g1 (by rw [← g2]; exact e2)
theorem Apart.later {D : Addr} {o : HO} (h : Apart σ Im H s D o) (b : Sto (Tch σ s) σ s Im H σ' s' Im' H') : Apart σ' Im' H' s' D o := h.laterT b h.nT
/-- .. its content changed -/
theorem Apart.upd {D : Addr} {o o' : HO} (h : Apart σ Im H s D o) : Apart σ Im (upd H D o') s D o' := ⟨upd_same, h.im, h.no⟩
theorem Sto.updApart {T : Addr → Prop} {D : Addr} {o : HO} : Sto (fun p => T p ∨ p = D) σ s Im H σ s Im (upd H D o) :=
  { mono := Sub.refl _
    keep := fun p u e n => by rw [upd_ne (fun z => n (.inr z))]; exact e
    there := fun p u e => by
      by_cases h : p = D
      · exact ⟨o, by rw [h]; exact upd_same⟩
      · exact ⟨u, by rw [upd_ne h]; exact e⟩
    new := fun q u e => .inl e
    own := fun i c p e1 e2 => .inr ⟨i, c, e1, e2⟩
    old := fun i k c _ e => ⟨c, e, rfl, fun _ => rfl⟩ }
theorem wipe_len {s : Sg} : ∀ vs : List Nat, (PV.wipe s vs).length = s.length
  | [] => rfl
  | v :: vs => by unfold PV.wipe; rw [List.length_set, wipe_len vs]
theorem lenLine_eq : lenLine = sizeLine := by rw [sizeLine_eq]; decide
theorem lockW_at {j : Nat} {k : Mode} (e : lockW s w = some s') (h : s'[j]? = some (some (.m k c))) : ∃ k0, s[j]? = some (some (.m k0 c)) ∧ (k ≠ .lock → k0 = k ∧ w ≠ .own j) := by
  cases w with
  | d x => cases e; exact ⟨k, h, fun _ => ⟨rfl, fun z => nomatch z⟩⟩
  | new c => cases e; exact ⟨k, h, fun _ => ⟨rfl, fun z => nomatch z⟩⟩
  | own i =>
    have e : (match s[i]? with
      | some (some (.m _ c)) => some (s.set i (some (.m .lock c)))
      | _ => none) = some s' := e
    split at e
    · rename_i k1 c1 es
      cases e
      rcases get_set h with ⟨hj, h2⟩ | ⟨hne, h2⟩
      · subst hj
        cases h2
        exact ⟨k1, es, fun z => absurd rfl z⟩
      · exact ⟨k, h2, fun _ => ⟨rfl, fun z => hne (by cases z; rfl)⟩⟩
    · cases e
theorem lockW_own {i : Nat} (e : lockW s (.own i) = some s') : ∃ k c, s[i]? = some (some (.m k c)) := by
  have e : (match s[i]? with
    | some (some (.m _ c)) => some (s.set i (some (.m .lock c)))
    | _ => none) = some s' := e
  split at e
  · rename_i k1 c1 es
    exact ⟨_, _, es⟩
  · cases e
theorem unlock_at {j : Nat} {k k1 : Mode} (e : unlock s k w = some s') (h : s'[j]? = some (some (.m k1 c))) : ∃ k0, s[j]? = some (some (.m k0 c)) := by
  cases w with
  | d x => cases e; exact ⟨k1, h⟩
  | new c => cases e; exact ⟨k1, h⟩
  | own i =>
    have e : (match s[i]? with
      | some (some (.m .lock c)) => some (s.set i (some (.m k c)))
      | _ => none) = some s' := e
    split at e
    · rename_i c1 es
      cases e
      rcases get_set h with ⟨hj, h2⟩ | ⟨hne, h2⟩
      · subst hj
        cases h2
        exact ⟨_, es⟩
      · exact ⟨k1, h2⟩
    · cases e
theorem out1 {j : Nat} {k : Mode} (R : Rel K σ Im H s) (x : WR K σ H0 Im H s w v) (hv : v = .ref p) (es : s[j]? = some (some (.m k c))) (eσ : σ[j]? = some (some (.ref p))) (hn : w ≠ .own j) (hl : ∀ i, w = .own i → ∃ k c, s[i]? = some (some (.m k c))) (hd : ∀ m, w ≠ .d (.dict m)) : False := by
  subst hv
  obtain ⟨q, g1, g2, g3⟩ := R.m j k c es
  rw [eσ] at g1
  cases g1
  cases x with
  | d r =>
    cases r with
    | lst e _ => rw [g3] at e; cases e
    | tup e _ => exact let ⟨_, e, _⟩ := e; by rw [g3] at e; cases e
    | scr _ => exact hd _ rfl
    | emp e => rw [g3] at e; cases e
  | own e =>
    obtain ⟨k', c', h⟩ := hl _ rfl
    have := R.ne _ _ _ _ _ _ _ h es e eσ
    subst this
    exact hn rfl
  | new h0 hc hi hno => exact hno j k c es eσ
theorem walkL_plain {kk : ItK} {r q : RV} {xs : List D} (e : walkL kk r q = some xs) : (∀ m, r ≠ .d (.dict m)) ∧ (kk.two = true → ∀ m, q ≠ .d (.dict m)) := by
  constructor
  · rintro m rfl
    cases kk <;> first | (simp [walkL, rv1, seqOf] at e; done) | (cases q <;> simp [walkL, rv1, seqOf] at e)
  · rintro hk m rfl
    cases kk <;> first | (simp [ItK.two] at hk; done) | skip
    · cases r with
      | dct _ => simp [walkL] at e
      | d x => cases x <;> simp [walkL] at e
    · cases r with
      | dct _ => simp [walkL] at e
      | d x => cases x <;> simp [walkL] at e
    · cases r with
      | dct _ => simp [walkL] at e
      | d x => simp [walkL, seqOf] at e
    · cases r with
      | dct _ => simp [walkL] at e
      | d x => cases x <;> simp [walkL] at e
variable (sig : SigF) (cf : CF)
/-- the tests of the clause -/
def evIf (c : E) (s : Sg) : Option (Bool × Sg) := testE c.isNil (fun s => ev sig cf c s) s
theorem tev_comp {elt : E} {t : Tgt} {kk : ItK} {ea eb ec : E} {Q : VK} (h : TEv K (ev sig cf (.comp elt t kk ea eb ec)) σ H Q) :
    tLc (TIt K kk (ev sig cf ea) (ev sig cf eb)) (TGt K t) (TTv K (evIf sig cf ec)) (TEv K (ev sig cf elt)) t.slots σ H Q := by
  obtain ⟨s, Im, R, w, s', e, k⟩ := h
  rw [ev] at e
  simp only [Option.bind_eq_bind, Option.bind_eq_some_iff, Option.pure_def] at e
  obtain ⟨⟨w1, s1⟩, e1, ⟨u, s2⟩, e2, r, e3, q, e4, xs, e5, _, e6, s3, e7, s4, e8, ⟨ys, s5⟩, e9, s6, e10, s7, e11, e12⟩ := e
  simp only [Option.some.injEq, Prod.mk.injEq] at e12
  obtain ⟨rfl, rfl⟩ := e12
  have hlen : xs.length ≤ lenLine := by
    unfold okLen at e6
    split at e6
    · assumption
    · cases e6
  refine ⟨s, Im, R, w1, s1, u, s2, r, q, xs, e1, e2, e3, e4, e5, fun Im1 v v' H1 J R2 st2 x1 x2 wk D hD => ?_⟩
  have R3 := lockW_rel R2 e7
  have R4 := lockW_rel R3 e8
  generalize hvs : t.slots = vs at *
  generalize hB : Tch (L2.wipe σ vs) (PV.wipe s4 vs) = B
  have hDI : Im1 D = none := none_of_sub R2.sub hD
  -- D is no slot's
  have noD : ∀ (i : Nat) (k : Mode) (c' : Cell), (PV.wipe s4 vs)[i]? = some (some (.m k c')) → (L2.wipe σ vs)[i]? ≠ some (some (.ref D)) := fun i k c' f1 f2 => by
    obtain ⟨p, g1, g2, _⟩ := (R4.wipe vs).m i k c' f1
    rw [f2] at g1
    cases g1
    obtain ⟨o, ho⟩ := g2.there
    rw [hD] at ho
    cases ho
  have stB : Sto (fun p => B p ∨ p = D) (L2.wipe σ vs) (PV.wipe s4 vs) Im1 H1 (L2.wipe σ vs) (PV.wipe s4 vs) Im1 (upd H1 D (.lst [])) := .updApart
  have RB : Rel K (L2.wipe σ vs) Im1 (upd H1 D (.lst [])) (PV.wipe s4 vs) := (R4.wipe vs).updApart hDI noD
  refine lc_it wk (fun i Hh => ∃ Im' sI acc ds ysr, Rel K (L2.wipe σ vs) Im' Hh (PV.wipe sI vs) ∧ Sto (fun p => B p ∨ p = D) (L2.wipe σ vs) (PV.wipe s4 vs) Im1 H1 (L2.wipe σ vs) (PV.wipe sI vs) Im' Hh ∧
      Apart (L2.wipe σ vs) Im' Hh (PV.wipe sI vs) D (.lst acc) ∧ RpAll K Im' acc ds ∧ acc.length ≤ i ∧ compGo (fun s => ev sig cf elt s) (fun s => testE ec.isNil (fun s => ev sig cf ec s) s) t (xs.drop i) sI = some (ysr, s5) ∧ ds ++ ysr = ys)
    ⟨Im1, s4, [], [], ys, RB, stB, ⟨upd_same, hDI, noD⟩, .nil, Nat.le_refl _, e9, rfl⟩ (fun i Hh hi ⟨Im', sI, acc, ds, ysr, Rh, sth, ap, _⟩ => ?_) (fun i x Hh H' hi ⟨Im', sI, acc, ds, ysr, Rh, sth, ap, ra, hal, hgo, hys⟩ y => ?_) (fun Hh ⟨Im', sI, acc, ds, ysr, Rh, sth, ap, ra, hal, hgo, hys⟩ => ?_)
  · -- what is walked stands as it stood
    intro p o hp ho
    refine sth.keep p o ho fun hT => ?_
    rcases hT with hT | rfl
    · subst hB
      obtain ⟨j, k', c', hk, f1, f2⟩ := hT
      by_cases hj : j ∈ vs
      · rw [wipe_get, if_pos hj] at f1
        cases h : s4[j]? with
        | none => rw [h] at f1; cases f1
        | some z => rw [h] at f1; cases f1
      · rw [wipe_get, if_neg hj] at f1
        rw [wipeσ_get, if_neg hj] at f2
        obtain ⟨k3, f3, f4⟩ := lockW_at e8 f1
        obtain ⟨hk3, f4'⟩ := f4 hk
        subst hk3
        obtain ⟨k2, f5, f6⟩ := lockW_at e7 f3
        obtain ⟨hk2, f6'⟩ := f6 hk
        subst hk2
        have pl := walkL_plain e5
        rcases hp with hp | hp
        · refine out1 R2 x1 hp f5 f2 f6' (fun i hi => by subst hi; exact lockW_own e7) fun m hm => ?_
          subst hm
          cases e3
          exact pl.1 _ rfl
        · refine out1 R2 x2 hp f5 f2 f4' (fun i hi => ?_) fun m hm => ?_
          · subst hi
            obtain ⟨k5, c5, h5⟩ := lockW_own e8
            obtain ⟨k6, h6, _⟩ := lockW_at e7 h5
            exact ⟨_, _, h6⟩
          · subst hm
            cases e4
            cases hk2 : kk.two with
            | true => exact pl.2 hk2 _ rfl
            | false =>
              rw [hk2] at e2
              cases e2
    · rw [hD] at ho; cases ho
  · -- a turn
    obtain ⟨Im2, d, g, hd, rd⟩ := y Im' sth.mono Rh.sub
    have hdr : xs.drop i = d :: xs.drop (i + 1) := by
      obtain ⟨hl, rfl⟩ := List.getElem?_eq_some_iff.mp hd
      exact List.drop_eq_getElem_cons hl
    rw [hdr, compGo, hvs] at hgo
    simp only [Option.bind_eq_bind, Option.bind_eq_some_iff] at hgo
    obtain ⟨sb, hb, ⟨b, sc⟩, hc, hgo⟩ := hgo
    have R' := Rh.grow g
    refine ⟨PV.wipe sI vs, Im2, by rw [show L2.wipe σ vs = L2.wipe σ vs from rfl]; exact R', d, sb, rd, hb, fun σ2 Rσ2 stb hl2 ho2 => ?_⟩
    rw [hvs] at ho2
    have hw : L2.wipe σ2 vs = L2.wipe σ vs := by rw [← wipeσ_idem (σ := σ)]; exact wipeσ_eq hl2 ho2
    have ap1 : Apart σ2 Im2 H' sb D (.lst acc) := (ap.later (g.sto)).later stb
    have bk : ∀ {p : Addr} {σ1 : L2.St} {s1 : Sg} {Im1' H1' : Hp}, Sto (fun p => B p ∨ p = D) (L2.wipe σ vs) (PV.wipe s4 vs) Im1 H1 σ1 s1 Im1' H1' → Tch σ1 s1 p → H1 p = none ∨ (B p ∨ p = D) := fun a h => by
      subst hB
      rcases a.back h with z | z
      · exact .inl z
      · exact .inr (.inl z)
    have sthg := sth.grow g
    have st1 := sthg.transT stb fun p hT => bk sthg hT
    refine ⟨hw, sb, Im2, Rσ2, b, sc, hc, fun Im3 H3 R3' st3 => ?_⟩
    have ap3 := ap1.later st3
    have st13 := st1.transT st3 fun p hT => bk st1 hT
    have wipeA : ∀ {Im3 H3 : Hp} {sc : Sg} {o : HO}, Apart σ2 Im3 H3 sc D o → Apart (L2.wipe σ vs) Im3 H3 (PV.wipe sc vs) D o := fun {Im3 H3 sc o} ap3 => ⟨ap3.at_, ap3.im, fun j k' c' f1 f2 => by
      by_cases hj : j ∈ vs
      · rw [wipe_get, if_pos hj] at f1
        cases h : sc[j]? with
        | none => rw [h] at f1; cases f1
        | some z => rw [h] at f1; cases f1
      · rw [wipe_get, if_neg hj] at f1
        rw [← hw, wipeσ_get, if_neg hj] at f2
        exact ap3.no j k' c' f1 f2⟩
    cases b with
    | false =>
      simp only [Bool.false_eq_true, if_false] at hgo ⊢
      have Rw := R3'.wipe vs
      have stw := st13.wipe vs
      rw [hw] at Rw stw
      exact ⟨Im3, sc, acc, ds, ysr, Rw, stw, wipeA ap3, ra.mono (g.mono.trans st3.mono), Nat.le_succ_of_le hal, hgo, hys⟩
    | true =>
      simp only [if_true, Option.bind_eq_some_iff, Option.pure_def, Option.some.injEq, Prod.mk.injEq] at hgo ⊢
      obtain ⟨⟨wf, se⟩, hf, ⟨yd, sf⟩, hy, ⟨yr, s5'⟩, hr, rfl, rfl⟩ := hgo
      refine ⟨sc, Im3, R3', wf, se, hf, fun Im4 z H4 R4' st4 x4 => ?_⟩
      have ap4 := ap3.later st4
      obtain ⟨Im5, R5, bt, rz⟩ := toD_ok R4' x4 hy
      have nD : ¬ (Tch σ2 se D ∨ NewAt wf z D) := fun h => h.elim ap4.nT fun n => by
        have := x4.newAt n
        rw [ap3.at_] at this
        cases this
      have ap5 := ap4.laterT bt nD
      have st14 := st13.transT st4 fun p hT => bk st13 hT
      have st15 := st14.transT bt fun p hT => hT.elim (fun h => bk st14 h) fun n => .inl (none_of_there st13.there (x4.newAt n))
      refine ⟨acc, ap5.at_, by have := hal; rw [lenLine_eq] at hlen; omega, ?_⟩
      have R6 : Rel K σ2 Im5 (upd H4 D (.lst (acc ++ [z]))) sf := R5.updApart ap5.im ap5.no
      have st6 : Sto (fun p => B p ∨ p = D) (L2.wipe σ vs) (PV.wipe s4 vs) Im1 H1 σ2 sf Im5 (upd H4 D (.lst (acc ++ [z]))) :=
        st15.transT (T1 := fun p => False ∨ p = D) (.updApart) fun p h => h.elim (fun h => h.elim) fun h => .inr (.inr h)
      have Rw := R6.wipe vs
      have stw := st6.wipe vs
      rw [hw] at Rw stw
      refine ⟨Im5, sf, acc ++ [z], ds ++ [yd], yr, Rw, stw, wipeA ap5.upd, (ra.mono ((g.mono.trans st3.mono).trans (st4.mono.trans bt.mono))).append (.cons rz .nil), by rw [List.length_append]; exact Nat.succ_le_succ hal, hr, ?_⟩
      rw [← hys, List.append_assoc]
      rfl
  · -- the end
    rw [List.drop_length, compGo] at hgo
    cases hgo
    rw [List.append_nil] at hys
    subst hys
    have sth1 : Sto (Tch (L2.wipe σ vs) (PV.wipe s4 vs)) (L2.wipe σ vs) (PV.wipe s4 vs) Im1 H1 (L2.wipe σ vs) (PV.wipe s5 vs) Im' Hh := by
      rw [hB]
      refine Sto.transT (T1 := fun p => B p ∨ p = D) .refl sth fun p h => h.elim .inr fun h => .inl (by rw [h]; exact hD)
    obtain ⟨Rb, stb⟩ := back_ok R4 Rh sth1
    have R6 := unlock_rel Rb e10
    have R7 := unlock_rel R6 e11
    have sto3 := lock_sto e8 stb e10
    have sto2 := lock_sto e7 sto3 e11
    refine k Im' (.ref D) Hh R7 (st2.trans sto2) ?_
    have apE : Apart σ Im' Hh s7 D (.lst acc) := ⟨ap.at_, ap.im, fun j k' c' f1 f2 => ?_⟩
    · exact .new (none_of_there st2.there hD) (.lst ap.at_ ra) ap.im apE.no
    · obtain ⟨k1, f3⟩ := unlock_at e11 f1
      obtain ⟨k2, f4⟩ := unlock_at e10 f3
      have hl5 : s5.length = s4.length := by
        have h1 := Rh.len
        rw [wipe_len, wipe_length, ← R4.len] at h1
        exact h1
      rw [back_get hl5] at f4
      by_cases hj : j ∈ vs
      · rw [if_pos hj] at f4
        obtain ⟨q', h1, h2, _⟩ := R4.m _ _ _ f4
        rw [f2] at h1
        cases h1
        obtain ⟨o, ho⟩ := h2.there
        rw [hD] at ho
        cases ho
      · rw [if_neg hj] at f4
        exact ap.no j k2 c' (by rw [wipe_get, if_neg hj]; exact f4) (by rw [wipeσ_get, if_neg hj]; exact f2)
end
end PV
namespace PV
open PySem PySem.Spec PyProof.Rows L2
def news : List W → List V → List Addr
  | .new _ :: ws, .ref p :: vs => p :: news ws vs
  | _ :: ws, _ :: vs => news ws vs
  | _, _ => []
def refsA : List PM → List V → List Addr
  | r :: rs, v :: vs => match r with
    | .ref => (match v with
      | .ref p => p :: refsA rs vs
      | _ => refsA rs vs)
    | _ => refsA rs vs
  | _, _ => []
inductive ArgsR (K : Frag) (Im H : Hp) : List PM → List A → List V → List Addr → Prop
  | nil : ArgsR K Im H [] [] [] []
  | d {r : PM} {x : D} {v : V} {rs as vs ps} : r ≠ .ref → Rp K Im v x → ArgsR K Im H rs as vs ps → ArgsR K Im H (r :: rs) (.d x :: as) (v :: vs) ps
  | m {r : PM} {c : Cell} {p : Addr} {rs as vs ps} : r ≠ .val → CellM K Im H p c → Im p = none → p ∉ ps → ArgsR K Im H rs as vs ps → ArgsR K Im H (r :: rs) (.m c :: as) (.ref p :: vs) (p :: ps)
/-- the objects of the changed parameters, behind the call -/
abbrev RefsR (K : Frag) (Im H : Hp) : List Addr → List Cell → Prop := Paired fun p c => CellM K Im H p c ∧ Im p = none
/-- a def's promise -/
def spOf (K : Frag) (refs : List PM) (f : List A → Option (W × List Cell)) : Sp := fun vs H Q _ => ∃ Im as ps, Sub Im H ∧ ArgsR K Im H refs as vs ps ∧ ∃ w cs, f as = some (w, cs) ∧
  ∀ Im' v H', Sub Im' H' → Stp (fun p => p ∈ refsA refs vs) Im H Im' H' → RefsR K Im' H' (refsA refs vs) cs → ResR K H Im' H' w v → Q v H'
theorem ArgsR.len {K : Frag} {Im H : Hp} : ∀ {rs as vs ps}, ArgsR K Im H rs as vs ps → vs.length = rs.length
  | _, _, _, _, .nil => rfl
  | _, _, _, _, .d _ _ t => by rw [List.length_cons, List.length_cons, t.len]
  | _, _, _, _, .m _ _ _ _ t => by rw [List.length_cons, List.length_cons, t.len]
section
variable {X : Cx} {K : Frag} {σ σ' σ1 σ2 : St} {Im H Im' H' H0 Im1 H1 Im2 H2 : Hp} {s s' s1 s2 : Sg} {p : Addr} {c : Cell} {v : V} {w : W} {x : D}
theorem newAt_news {ws : List W} {vs : List V} (h : NewAt w v p) : p ∈ news (w :: ws) (v :: vs) := by
  cases w with
  | new c =>
    have e : v = .ref p := h
    subst e
    exact List.mem_cons_self ..
  | d x => exact h.elim
  | own i => exact h.elim
theorem news_tail {ws : List W} {vs : List V} (h : p ∈ news ws vs) : p ∈ news (w :: ws) (v :: vs) := by
  cases w with
  | new c => cases v <;> first | exact h | exact List.mem_cons_of_mem _ h
  | d x => exact h
  | own i => exact h
theorem news_cases {ws : List W} {vs : List V} (h : p ∈ news (w :: ws) (v :: vs)) : NewAt w v p ∨ p ∈ news ws vs := by
  cases w with
  | new c =>
    cases v with
    | ref q =>
      rcases List.mem_cons.mp h with h | h
      · exact .inl (by rw [h]; exact rfl)
      · exact .inr h
    | _ => exact .inr h
  | d x => exact .inr h
  | own i => exact .inr h
theorem news_nodup {ws : List W} {vs : List V} (h : (news (w :: ws) (v :: vs)).Nodup) : (news ws vs).Nodup ∧ ∀ p, NewAt w v p → p ∉ news ws vs := by
  cases w with
  | new c =>
    cases v with
    | ref q =>
      have h : (q :: news ws vs).Nodup := h
      refine ⟨(List.nodup_cons.mp h).2, fun p hp => ?_⟩
      have e : V.ref q = V.ref p := hp
      cases e
      exact (List.nodup_cons.mp h).1
    | _ => exact ⟨h, fun p hp => nomatch (show _ = V.ref p from hp)⟩
  | d x => exact ⟨h, fun p hp => hp.elim⟩
  | own i => exact ⟨h, fun p hp => hp.elim⟩
theorem WR.no (h : WR K σ H0 Im H s w v) (n : NewAt w v p) : ∀ (i : Nat) (k : Mode) (c' : Cell), s[i]? = some (some (.m k c')) → σ[i]? ≠ some (some (.ref p)) := by
  cases h with
  | d r => exact n.elim
  | own e => exact n.elim
  | new h0 hc hi hn =>
    have e : V.ref _ = V.ref p := n
    cases e
    exact hn
theorem news_info : ∀ {ws : List W} {vs : List V}, Paired (WR K σ H0 Im H s) ws vs → p ∈ news ws vs → H0 p = none ∧ ∀ (i : Nat) (k : Mode) (c' : Cell), s[i]? = some (some (.m k c')) → σ[i]? ≠ some (some (.ref p))
  | _, _, .nil, h => nomatch h
  | _, _, .cons r t, h => by
    rcases news_cases h with n | h
    · exact ⟨r.newAt n, r.no n⟩
    · exact news_info t h
theorem pw_later {T : Addr → Prop} (b : Sto T σ s Im H σ s' Im' H') : ∀ {ws : List W} {vs : List V}, Paired (WR K σ H0 Im H s) ws vs → (∀ p, p ∈ news ws vs → (∀ (i : Nat) (k : Mode) (c' : Cell), s[i]? = some (some (.m k c')) → σ[i]? ≠ some (some (.ref p))) → ¬ T p) → Paired (WR K σ H0 Im' H' s') ws vs
  | _, _, .nil, _ => .nil
  | _, _, .cons r t, h => .cons (r.laterT b fun p n hn => h p (newAt_news n) hn) (pw_later b t fun p hp => h p (news_tail hp))
theorem toD_slot {j : Nat} (e : toD s w = some (x, s')) (h : w ≠ .own j) : s'[j]? = s[j]? := by
  unfold toD at e
  split at e
  · cases e; rfl
  · cases e; rfl
  · cases e
  · rename_i i
    split at e
    · cases e
      exact set_other fun z => h (by rw [z])
    · cases e
theorem owns_tail {ws : List W} (h : (ownsOf (w :: ws)).Nodup) : (ownsOf ws).Nodup ∧ ∀ i, w = .own i → i ∉ ownsOf ws := by
  cases w with
  | own i => exact ⟨(List.nodup_cons.mp h).2, fun j e => by cases e; exact (List.nodup_cons.mp h).1⟩
  | d x => exact ⟨h, fun j e => nomatch e⟩
  | new c => exact ⟨h, fun j e => nomatch e⟩
theorem owns_mem {ws : List W} {j : Nat} (h : j ∉ ownsOf (w :: ws)) : w ≠ .own j ∧ j ∉ ownsOf ws := by
  cases w with
  | own i => exact ⟨fun e => by cases e; exact h (List.mem_cons_self ..), fun m => h (List.mem_cons_of_mem _ m)⟩
  | d x => exact ⟨(fun e => nomatch e), h⟩
  | new c => exact ⟨(fun e => nomatch e), h⟩
theorem owns_cons {ws : List W} {j : Nat} (h : j ∈ ownsOf ws) : j ∈ ownsOf (w :: ws) := by
  cases w with
  | own i => exact List.mem_cons_of_mem _ h
  | d x => exact h
  | new c => exact h
/-- the slot that takes the changed object back -/
def IsR (H0 : Hp) (σ : St) (s : Sg) (o : Option Nat) (p : Addr) : Prop := match o with
  | some i => (∃ k c, k ≠ Mode.lock ∧ s[i]? = some (some (.m k c))) ∧ σ[i]? = some (some (.ref p))
  | none => H0 p = none ∧ ∀ (i : Nat) (k : Mode) (c' : Cell), s[i]? = some (some (.m k c')) → σ[i]? ≠ some (some (.ref p))
structure ArgsOk (K : Frag) (H0 : Hp) (σ : St) (Im H : Hp) (s : Sg) (rs : List PM) (ws : List W) (vs : List V) (as : List A) (is : List (Option Nat)) (s' : Sg) (Im' : Hp) (ps : List Addr) : Prop where
  rel : Rel K σ Im' H s'
  sto : Sto (fun p => Tch σ s p ∨ p ∈ news ws vs) σ s Im H σ s' Im' H
  args : ArgsR K Im' H rs as vs ps
  isr : Paired (IsR H0 σ s') is (refsA rs vs)
  slot : ∀ j, j ∉ ownsOf ws → s'[j]? = s[j]?
  addr : ∀ p ∈ ps, p ∈ news ws vs ∨ ∃ j ∈ ownsOf ws, (∃ k c, s[j]? = some (some (.m k c))) ∧ σ[j]? = some (some (.ref p))
/-- the next argument is data -/
theorem ArgsOk.data {r : PM} {rs ws vs as is} {s1 : Sg} {Im1 : Hp} {ps : List Addr} (hr : r ≠ .ref) (hnd : (ownsOf (w :: ws)).Nodup) (b : Sto (fun p => Tch σ s p ∨ NewAt w v p) σ s Im H σ s1 Im1 H) (hs : ∀ j, w ≠ .own j → s1[j]? = s[j]?) (hx : Rp K Im1 v x)
    (a : ArgsOk K H0 σ Im1 H s1 rs ws vs as is s' Im' ps) : ArgsOk K H0 σ Im H s (r :: rs) (w :: ws) (v :: vs) (.d x :: as) is s' Im' ps where
  rel := a.rel
  sto := (b.monoT fun p h => h.imp_right newAt_news).transT a.sto fun p h => h.elim (fun h => (b.back h).imp_right .inl) fun h => .inr (.inr (news_tail h))
  args := .d hr (hx.mono a.sto.mono) a.args
  isr := by
    cases r with
    | ref => exact absurd rfl hr
    | val => exact a.isr
    | peek => exact a.isr
  slot := fun j hj => by
    obtain ⟨h1, h2⟩ := owns_mem hj
    rw [a.slot j h2, hs j h1]
  addr := fun p hp => by
    rcases a.addr p hp with h | ⟨j, hj, ⟨k, c, e⟩, e2⟩
    · exact .inl (news_tail h)
    · refine .inr ⟨j, owns_cons hj, ⟨k, c, ?_⟩, e2⟩
      rw [hs j fun z => (owns_tail hnd).2 j z hj] at e
      exact e
theorem args_ok : ∀ (rs : List PM) {ws : List W} {vs : List V} {as : List A} {is : List (Option Nat)} {s s' : Sg} {Im : Hp}, Rel K σ Im H s → Paired (WR K σ H0 Im H s) ws vs → (news ws vs).Nodup → (ownsOf ws).Nodup → argsOf s rs ws = some (as, is, s') →
    ∃ Im' ps, ArgsOk K H0 σ Im H s rs ws vs as is s' Im' ps := by
  intro rs
  induction rs with
  | nil =>
    intro ws vs as is s s' Im R pw hn ho e
    cases ws with
    | nil =>
      cases e
      cases pw
      exact ⟨Im, [], R, .refl, .nil, .nil, fun _ _ => rfl, fun p hp => nomatch hp⟩
    | cons w ws => simp [argsOf] at e
  | cons r rs ih =>
    intro ws vs as is s s' Im R pw hn ho e
    cases pw with
    | nil => cases r <;> simp [argsOf] at e
    | @cons w v ws vs hw t =>
      obtain ⟨hn1, hn2⟩ := news_nodup hn
      obtain ⟨ho1, ho2⟩ := owns_tail ho
      -- an object that is handed on
      have obj : ∀ {r : PM} {c : Cell} {p : Addr} {as is ps} {Im' : Hp}, r ≠ .val → v = .ref p → ArgsOk K H0 σ Im H s rs ws vs as is s' Im' ps → CellM K Im' H p c → Im' p = none → p ∉ ps → (∀ j, w = .own j → (∃ k c, s[j]? = some (some (.m k c))) ∧ σ[j]? = some (some (.ref p))) → ((∃ i, w = .own i) ∨ NewAt w v p) →
          ∀ is', Paired (IsR H0 σ s') is' (refsA (r :: rs) (v :: vs)) → ArgsOk K H0 σ Im H s (r :: rs) (w :: ws) (v :: vs) (.m c :: as) is' s' Im' (p :: ps) := fun {r c p as is ps Im'} hr hv a hc hi hp hj hk is' hI => by
        subst hv
        refine ⟨a.rel, a.sto.monoT fun q h => h.imp_right news_tail, .m hr hc hi hp a.args, hI, fun j hj => a.slot j (owns_mem hj).2, fun q hq => ?_⟩
        rcases List.mem_cons.mp hq with rfl | hq
        · rcases hk with ⟨i, rfl⟩ | hk
          · exact .inr ⟨i, List.mem_cons_self .., hj i rfl⟩
          · exact .inl (newAt_news hk)
        · rcases a.addr q hq with h | ⟨j, h1, h2⟩
          · exact .inl (news_tail h)
          · exact .inr ⟨j, owns_cons h1, h2⟩
      -- a new one
      have new : ∀ {c : Cell} {as is ps} {Im' : Hp}, w = .new c → ArgsOk K H0 σ Im H s rs ws vs as is s' Im' ps → ∃ p, v = .ref p ∧ CellM K Im' H p c ∧ Im' p = none ∧ p ∉ ps ∧ NewAt w v p ∧ IsR H0 σ s' none p := fun {c as is ps Im'} hwc a => by
        subst hwc
        cases hw with
        | @new c p h0 hc hi hno =>
          have nT : ¬ (Tch σ s p ∨ p ∈ news ws vs) := fun h => h.elim (fun ⟨j, k, c', _, e1, e2⟩ => hno j k c' e1 e2) (hn2 p rfl)
          have hw' := (WR.new (K := K) h0 hc hi hno).laterT a.sto fun q n _ => by
            have e : V.ref p = V.ref q := n
            cases e
            exact nT
          cases hw' with
          | new h0' hc' hi' hno' =>
            refine ⟨p, rfl, hc', hi', fun hp => ?_, rfl, h0, hno'⟩
            rcases a.addr p hp with h | ⟨j, _, ⟨k, c', e⟩, e2⟩
            · exact hn2 p rfl h
            · exact hno j k c' e e2
      -- a slot's
      have own : ∀ {i : Nat} {k : Mode} {c : Cell} {as is ps} {Im' : Hp}, w = .own i → s[i]? = some (some (.m k c)) → ArgsOk K H0 σ Im H s rs ws vs as is s' Im' ps → ∃ p, v = .ref p ∧ σ[i]? = some (some (.ref p)) ∧ CellM K Im' H p c ∧ Im' p = none ∧ p ∉ ps ∧ s'[i]? = some (some (.m k c)) := fun {i k c as is ps Im'} hwi es a => by
        subst hwi
        cases hw with
        | own e1 =>
          obtain ⟨p, g1, g2, g3⟩ := R.m i k c es
          rw [e1] at g1
          cases g1
          have es' : s'[i]? = some (some (.m k c)) := by rw [a.slot i (ho2 i rfl)]; exact es
          obtain ⟨q, h1, h2, h3⟩ := a.rel.m i k c es'
          rw [e1] at h1
          cases h1
          refine ⟨p, rfl, e1, h2, h3, fun hp => ?_, es'⟩
          rcases a.addr p hp with h | ⟨j, hj, ⟨k', c', e⟩, e2⟩
          · exact (news_info t h).2 i k c es e1
          · have := R.ne i j _ _ _ _ p es e e1 e2
            subst this
            exact ho2 i rfl hj
      cases r with
      | val =>
        rw [argsOf] at e
        simp only [Option.bind_eq_bind, Option.bind_eq_some_iff, Option.pure_def, Option.some.injEq, Prod.mk.injEq] at e
        obtain ⟨⟨x, s1⟩, e1, ⟨as1, is1, s2⟩, e2, rfl, rfl, rfl⟩ := e
        obtain ⟨Im1, R1, b, rx⟩ := toD_ok R hw e1
        have t1 := pw_later b t fun p hp hno h => h.elim (fun ⟨j, k, c', _, f1, f2⟩ => hno j k c' f1 f2) fun n => hn2 p n hp
        obtain ⟨Im2, ps, a⟩ := ih R1 t1 hn1 ho1 e2
        exact ⟨Im2, ps, a.data (by decide) ho b (fun j hj => toD_slot e1 hj) rx⟩
      | peek =>
        cases w with
        | d x =>
          rw [argsOf] at e
          simp only [Option.bind_eq_bind, Option.bind_eq_some_iff, Option.pure_def, Option.some.injEq, Prod.mk.injEq] at e
          obtain ⟨⟨as1, is1, s2⟩, e2, rfl, rfl, rfl⟩ := e
          obtain ⟨Im2, ps, a⟩ := ih R t hn1 ho1 e2
          cases hw with
          | d rx => exact ⟨Im2, ps, a.data (by decide) ho .refl (fun _ _ => rfl) rx⟩
        | new c =>
          rw [argsOf] at e
          simp only [Option.bind_eq_bind, Option.bind_eq_some_iff, Option.pure_def, Option.some.injEq, Prod.mk.injEq] at e
          obtain ⟨⟨as1, is1, s2⟩, e2, rfl, rfl, rfl⟩ := e
          obtain ⟨Im2, ps, a⟩ := ih R t hn1 ho1 e2
          obtain ⟨p, hv, hc, hi, hp, hN, _⟩ := new rfl a
          exact ⟨Im2, p :: ps, obj (by decide) hv a hc hi hp (fun j e => nomatch e) (.inr hN) is1 a.isr⟩
        | own i =>
          rw [argsOf] at e
          split at e
          · rename_i k c es
            simp only [Option.bind_eq_bind, Option.bind_eq_some_iff, Option.pure_def, Option.some.injEq, Prod.mk.injEq] at e
            obtain ⟨⟨as1, is1, s2⟩, e2, rfl, rfl, rfl⟩ := e
            obtain ⟨Im2, ps, a⟩ := ih R t hn1 ho1 e2
            obtain ⟨p, hv, he, hc, hi, hp, _⟩ := own rfl es a
            exact ⟨Im2, p :: ps, obj (by decide) hv a hc hi hp (fun j e => by cases e; exact ⟨⟨_, _, es⟩, he⟩) (.inl ⟨_, rfl⟩) is1 a.isr⟩
          · cases e
      | ref =>
        cases w with
        | d x => simp [argsOf] at e
        | new c =>
          rw [argsOf] at e
          simp only [Option.bind_eq_bind, Option.bind_eq_some_iff, Option.pure_def, Option.some.injEq, Prod.mk.injEq] at e
          obtain ⟨⟨as1, is1, s2⟩, e2, rfl, rfl, rfl⟩ := e
          obtain ⟨Im2, ps, a⟩ := ih R t hn1 ho1 e2
          obtain ⟨p, hv, hc, hi, hp, hN, hI⟩ := new rfl a
          refine ⟨Im2, p :: ps, obj (by decide) hv a hc hi hp (fun j e => nomatch e) (.inr hN) _ ?_⟩
          subst hv
          exact .cons hI a.isr
        | own i =>
          rw [argsOf] at e
          have fin : ∀ {k : Mode} {c : Cell}, k ≠ .lock → s[i]? = some (some (.m k c)) → (∃ as1 is1, argsOf s rs ws = some (as1, is1, s') ∧ .m c :: as1 = as ∧ some i :: is1 = is) → ∃ Im' ps, ArgsOk K H0 σ Im H s (.ref :: rs) (.own i :: ws) (v :: vs) as is s' Im' ps := fun {k c} hk es ⟨as1, is1, e2, h1, h2⟩ => by
            subst h1 h2
            obtain ⟨Im2, ps, a⟩ := ih R t hn1 ho1 e2
            obtain ⟨p, hv, he, hc, hi, hp, es'⟩ := own rfl es a
            refine ⟨Im2, p :: ps, obj (by decide) hv a hc hi hp (fun j e => by cases e; exact ⟨⟨_, _, es⟩, he⟩) (.inl ⟨_, rfl⟩) _ ?_⟩
            subst hv
            exact .cons ⟨⟨k, c, hk, es'⟩, he⟩ a.isr
          split at e
          · rename_i c es
            simp only [Option.bind_eq_bind, Option.bind_eq_some_iff, Option.pure_def, Option.some.injEq, Prod.mk.injEq] at e
            obtain ⟨⟨as1, is1, s2⟩, e2, rfl, rfl, rfl⟩ := e
            exact fin (by decide) es ⟨_, _, e2, rfl, rfl⟩
          · rename_i c es
            simp only [Option.bind_eq_bind, Option.bind_eq_some_iff, Option.pure_def, Option.some.injEq, Prod.mk.injEq] at e
            obtain ⟨⟨as1, is1, s2⟩, e2, rfl, rfl, rfl⟩ := e
            exact fin (by decide) es ⟨_, _, e2, rfl, rfl⟩
          · cases e
variable (sig : SigF) (cf : CF)
def TAw (K : Frag) (f : Sg → Option (List W × Sg)) : TA := fun σ H Q => ∃ s Im, Rel K σ Im H s ∧ ∃ ws s', f s = some (ws, s') ∧
  ∀ Im' vs H', Rel K σ Im' H' s' → Sto (Tch σ s) σ s Im H σ s' Im' H' → Paired (WR K σ H Im' H' s') ws vs → (news ws vs).Nodup → Q vs H'
theorem taw_nil {Q : List V → Hp → Prop} (h : TAw K (evs sig cf .nil) σ H Q) : tNil σ H Q := by
  obtain ⟨s, Im, R, ws, s', e, k⟩ := h
  rw [evs] at e
  cases e
  exact k Im [] H R .refl .nil List.nodup_nil
theorem pw_early {H0 H1 : Hp} (g : ∀ p, H1 p = none → H0 p = none) : ∀ {ws : List W} {vs : List V}, Paired (WR K σ H1 Im H s) ws vs → Paired (WR K σ H0 Im H s) ws vs
  | _, _, .nil => .nil
  | _, _, .cons r t => .cons (r.early g) (pw_early g t)
theorem taw_cons {ea eb : E} {Q : List V → Hp → Prop} (h : TAw K (evs sig cf (.cons ea eb)) σ H Q) : tCons (TEv K (ev sig cf ea)) (TAw K (evs sig cf eb)) σ H Q := by
  obtain ⟨s, Im, R, ws, s', e, k⟩ := h
  rw [evs] at e
  simp only [Option.bind_eq_bind, Option.bind_eq_some_iff, Option.pure_def, Option.some.injEq, Prod.mk.injEq] at e
  obtain ⟨⟨w1, s1⟩, e1, ⟨ws1, s2⟩, e2, rfl, rfl⟩ := e
  refine ⟨s, Im, R, w1, s1, e1, fun Im1 v1 H1 R1 st1 x1 => ⟨s1, Im1, R1, ws1, s2, e2, fun Im2 vs H2 R2 st2 pw nd => ?_⟩⟩
  refine k Im2 (v1 :: vs) H2 R2 (st1.trans st2) (.cons (x1.later st2) (pw_early (fun p n => none_of_there st1.there n) pw)) ?_
  cases w1 with
  | d x => exact nd
  | own i => exact nd
  | new c =>
    cases x1 with
    | @new c p h0 hc hi hno =>
      refine List.nodup_cons.mpr ⟨fun hp => ?_, nd⟩
      have := (news_info pw hp).1
      obtain ⟨o, ho⟩ := hc.there
      rw [this] at ho
      cases ho
theorem s_argn : PA X [] (TAw X.K (evs sig cf .nil)) := pa_nil.of fun σ H Q q => taw_nil sig cf q
theorem s_argc {a : Expr} {as : List Expr} {ea eb : E} (ha : PE X a (TEv X.K (ev sig cf ea))) (hb : PA X as (TAw X.K (evs sig cf eb))) (hs : starEach (a :: as) X.env = (false, eval a X.env) :: starEach as X.env) : PA X (a :: as) (TAw X.K (evs sig cf (.cons ea eb))) :=
  (pa_cons ha hb hs).of fun σ H Q q => taw_cons sig cf q
theorem handBack_at : ∀ (is : List (Option Nat)) (cs : List Cell) {s s' : Sg} {j : Nat} {z : Option Slot}, handBack s is cs = some s' → s'[j]? = some z →
    (s[j]? = some z ∧ some j ∉ is) ∨ ∃ k c c', s[j]? = some (some (.m k c)) ∧ z = some (.m k c') ∧ (some j, c') ∈ is.zip cs
  | [], [], _, _, _, _, e, h => by cases e; exact .inl ⟨h, by simp⟩
  | none :: is, _ :: cs, s, s', j, z, e, h => by
    rw [handBack] at e
    rcases handBack_at is cs e h with ⟨h1, h2⟩ | ⟨k, c, c', h1, h2, h3⟩
    · exact .inl ⟨h1, by simp [h2]⟩
    · exact .inr ⟨k, c, c', h1, h2, by simp [h3]⟩
  | some i :: is, c0 :: cs, s, s', j, z, e, h => by
    rw [handBack] at e
    split at e
    · rename_i k c1 es
      rcases handBack_at is cs e h with ⟨h1, h2⟩ | ⟨k', c, c', h1, h2, h3⟩
      · rcases get_set h1 with ⟨g1, g2⟩ | ⟨g1, g2⟩
        · subst g1
          exact .inr ⟨k, c1, c0, es, g2, by simp⟩
        · exact .inl ⟨g2, by simp [h2, Ne.symm g1]⟩
      · rcases get_set h1 with ⟨g1, g2⟩ | ⟨g1, g2⟩
        · subst g1
          cases g2
          exact .inr ⟨k, c1, c', es, h2, by simp [h3]⟩
        · exact .inr ⟨k', c, c', g2, h2, by simp [h3]⟩
    · cases e
  | [], _ :: _, _, _, _, _, e, _ => by simp [handBack] at e
  | none :: _, [], _, _, _, _, e, _ => by simp [handBack] at e
  | some _ :: _, [], _, _, _, _, e, _ => by simp [handBack] at e
theorem handBack_len : ∀ (is : List (Option Nat)) (cs : List Cell) {s s' : Sg}, handBack s is cs = some s' → s'.length = s.length
  | [], [], _, _, e => by cases e; rfl
  | none :: is, _ :: cs, s, s', e => by rw [handBack] at e; exact handBack_len is cs e
  | some i :: is, c0 :: cs, s, s', e => by
    rw [handBack] at e
    split at e
    · rw [handBack_len is cs e, List.length_set]
    · cases e
  | [], _ :: _, _, _, e => by simp [handBack] at e
  | none :: _, [], _, _, e => by simp [handBack] at e
  | some _ :: _, [], _, _, e => by simp [handBack] at e
theorem zip_mid {α β γ : Type} {F : α → β → Prop} {G : β → γ → Prop} {a : α} {c : γ} : ∀ {l1 : List α} {l2 : List β} {l3 : List γ}, Paired F l1 l2 → Paired G l2 l3 → (a, c) ∈ l1.zip l3 → ∃ b, F a b ∧ G b c ∧ b ∈ l2
  | _, _, _, .nil, .nil, h => by simp at h
  | _, _, _, .cons f t, .cons g t', h => by
    rw [List.zip_cons_cons] at h
    rcases List.mem_cons.mp h with h | h
    · cases h; exact ⟨_, f, g, List.mem_cons_self ..⟩
    · obtain ⟨b, h1, h2, h3⟩ := zip_mid t t' h
      exact ⟨b, h1, h2, List.mem_cons_of_mem _ h3⟩
theorem paired_mem2 {α β : Type} {F : α → β → Prop} {b : β} : ∀ {l1 : List α} {l2 : List β}, Paired F l1 l2 → b ∈ l2 → ∃ a ∈ l1, F a b
  | _, _, .cons f t, h => by
    rcases List.mem_cons.mp h with rfl | h
    · exact ⟨_, List.mem_cons_self .., f⟩
    · obtain ⟨a, h1, h2⟩ := paired_mem2 t h
      exact ⟨a, List.mem_cons_of_mem _ h1, h2⟩
theorem hand_ok {is : List (Option Nat)} {cs : List Cell} {rp : List Addr} (R : Rel K σ Im H s) (hI : Paired (IsR H0 σ s) is rp) (st : Stp (fun p => p ∈ rp) Im H Im' H') (hS : Sub Im' H') (hc : RefsR K Im' H' rp cs) (e : handBack s is cs = some s') :
    Rel K σ Im' H' s' ∧ Sto (fun p => p ∈ rp) σ s Im H σ s' Im' H' := by
  have same : ∀ {j : Nat} {k : Mode} {c : Cell}, s[j]? = some (some (.m k c)) → some j ∉ is → ∃ p, σ[j]? = some (some (.ref p)) ∧ CellM K Im' H' p c ∧ Im' p = none := fun {j k c} es hj => by
    obtain ⟨p, h1, h2, h3⟩ := R.m j k c es
    have nT : p ∉ rp := fun hp => by
      obtain ⟨o, ho, hI'⟩ := paired_mem2 hI hp
      cases o with
      | none => exact hI'.2 j k c es h1
      | some i =>
        obtain ⟨⟨k', c', _, e1⟩, e2⟩ := hI'
        have := R.ne i j _ _ _ _ p e1 es e2 h1
        subst this
        exact hj ho
    obtain ⟨u, hu⟩ := h2.there
    refine ⟨p, h1, h2.keep st.mono fun o e => st.keep p o e nT, ?_⟩
    cases q : Im' p with
    | none => rfl
    | some o =>
      rcases st.new p o q with z | z | z
      · rw [h3] at z; cases z
      · rw [hu] at z; cases z
      · exact absurd z nT
  have back : ∀ {j : Nat} {k : Mode} {c : Cell}, s'[j]? = some (some (.m k c)) → ∃ c0, s[j]? = some (some (.m k c0)) ∧ ((c = c0 ∧ some j ∉ is) ∨ (some j, c) ∈ is.zip cs) := fun {j k c} h => by
    rcases handBack_at is cs e h with ⟨h1, h2⟩ | ⟨k', c1, c', h1, h2, h3⟩
    · exact ⟨c, h1, .inl ⟨rfl, h2⟩⟩
    · cases h2
      exact ⟨c1, h1, .inr h3⟩
  refine ⟨⟨?_, hS, fun j x h => ?_, fun j k c h => ?_, fun i j k k' c c' p e1 e2 h1 h2 => ?_⟩, { st with own := fun j c p e1 e2 => ?_, old := fun j k c hk e1 => ?_ }⟩
  · rw [handBack_len is cs e]; exact R.len
  · rcases handBack_at is cs e h with ⟨h1, h2⟩ | ⟨k', c1, c', h1, h2, h3⟩
    · obtain ⟨v, g1, g2⟩ := R.d j x h1
      exact ⟨v, g1, g2.mono st.mono⟩
    · cases h2
  · obtain ⟨c0, h1, ⟨rfl, h2⟩ | h2⟩ := back h
    · exact same h1 h2
    · obtain ⟨p, f, g, _⟩ := zip_mid hI hc h2
      exact ⟨p, f.2, g.1, g.2⟩
  · obtain ⟨c0, g1, _⟩ := back e1
    obtain ⟨c1, g2, _⟩ := back e2
    exact R.ne i j _ _ _ _ p g1 g2 h1 h2
  · obtain ⟨c0, g1, _⟩ := back e1
    exact .inr ⟨j, c0, g1, e2⟩
  · obtain ⟨c0, g1, g2⟩ := back e1
    refine ⟨c0, g1, rfl, fun hl => ?_⟩
    rcases g2 with ⟨rfl, _⟩ | g2
    · rfl
    · obtain ⟨p, f, _⟩ := zip_mid hI hc g2
      obtain ⟨⟨k', c', hk', f1⟩, _⟩ := f
      rw [g1] at f1
      cases f1
      exact absurd hl hk'
theorem tev_call {f : String} {args : E} {Q : VK} {E : XK} {refs : List PM} (hs : sig f = some refs) (h : TEv K (ev sig cf (.call f args)) σ H Q) : tCall (spOf K refs (cf f)) [] E (TAw K (evs sig cf args)) σ H Q := by
  obtain ⟨s, Im, R, w, s', e, k⟩ := h
  rw [ev] at e
  simp only [Option.bind_eq_bind, Option.bind_eq_some_iff, Option.pure_def, Option.some.injEq, Prod.mk.injEq, hs] at e
  obtain ⟨⟨ws, s1⟩, e1, rs, hrs, _, e2, ⟨as, is, s2⟩, e3, ⟨w1, cs⟩, e4, s3, e5, rfl, rfl⟩ := e
  have hrs : refs = rs := hrs
  subst hrs
  have ho : (ownsOf ws).Nodup := by
    have e2 : okOwns ws = some _ := e2
    unfold okOwns at e2
    split at e2
    · assumption
    · cases e2
  refine ⟨s, Im, R, ws, s1, e1, fun Im1 vs H1 R1 st1 pw nd => ?_⟩
  obtain ⟨Im2, ps, a⟩ := args_ok _ R1 pw nd ho e3
  rw [List.append_nil]
  refine ⟨Im2, as, ps, a.rel.sub, a.args, w1, cs, e4, fun Im3 v H3 hS st3 hc rr => ?_⟩
  obtain ⟨R3, st4⟩ := hand_ok a.rel a.isr st3 hS hc e5
  have st2 : Sto (Tch σ s) σ s Im H σ s2 Im2 H1 := st1.transT a.sto fun p h => h.elim (fun h => st1.back h) fun h => .inl (news_info pw h).1
  have inRef : ∀ p, p ∈ refsA refs vs → H p = none ∨ Tch σ s p := fun p hp => by
    obtain ⟨o, _, hI⟩ := paired_mem2 a.isr hp
    cases o with
    | some i =>
      obtain ⟨⟨k', c', hk', f1⟩, f2⟩ := hI
      exact st2.back ⟨i, k', c', hk', f1, f2⟩
    | none => exact .inl hI.1
  have st5 := st2.transT st4 inRef
  refine k Im3 v H3 R3 st5 ?_
  cases rr with
  | d r => exact .d r
  | @new c p h1 h2 h3 =>
    refine .new (none_of_there st2.there h1) h3 h2 fun j k' c' f1 f2 => ?_
    obtain ⟨q, g1, g2, _⟩ := R3.m j k' c' f1
    rw [f2] at g1
    cases g1
    have f3 : ∃ k0 c0, s2[j]? = some (some (.m k0 c0)) := by
      rcases handBack_at is cs e5 f1 with ⟨h, _⟩ | ⟨k0, c0, _, h, _⟩
      · exact ⟨_, _, h⟩
      · exact ⟨_, _, h⟩
    obtain ⟨k0, c0, f3⟩ := f3
    obtain ⟨q, g1, g2, _⟩ := a.rel.m j k0 c0 f3
    rw [f2] at g1
    cases g1
    obtain ⟨o, ho⟩ := g2.there
    rw [h1] at ho
    cases ho
end
end PV
namespace PV
open PySem PySem.Spec PyProof.Rows L2
def OutOk (K : Frag) (σ : St) (H0 Im H : Hp) (s : Sg) (D : Ends) : Out → Prop
  | .nx => D.nx σ H
  | .brk => D.bk σ H
  | .ret w => ∀ v, WR K σ H0 Im H s w v → D.rt v H
def TEx (K : Frag) (f : Sg → Option (Out × Sg)) : TS := fun D σ H => ∃ s Im, Rel K σ Im H s ∧ ∃ o s', f s = some (o, s') ∧
  ∀ Im' σ' H', Rel K σ' Im' H' s' → Sto (Tch σ s) σ s Im H σ' s' Im' H' → OutOk K σ' H Im' H' s' D o
section
variable {X : Cx} {K : Frag} {σ σ' σ1 σ2 : St} {Im H Im' H' H0 Im1 H1 Im2 H2 : Hp} {s s' s1 s2 : Sg} {p : Addr} {c : Cell} {v : V} {w : W} {x : D} {DE : Ends}
variable (sig : SigF) (cf : CF)
theorem OutOk.early {o : Out} {H1 : Hp} (g : ∀ p, H1 p = none → H0 p = none) (h : OutOk K σ H0 Im H s DE o) : OutOk K σ H1 Im H s DE o := by
  cases o with
  | nx => exact h
  | brk => exact h
  | ret w => exact fun v hw => h v (hw.early g)
theorem tex_skip (h : TEx K (ex sig cf .skip) DE σ H) : tNext DE σ H := by
  obtain ⟨s, Im, R, o, s', e, k⟩ := h
  rw [ex] at e
  cases e
  exact k Im σ H R .refl
theorem tex_seq {a b : S} (h : TEx K (ex sig cf (.seq a b)) DE σ H) : tSeq (TEx K (ex sig cf a)) (TEx K (ex sig cf b)) DE σ H := by
  obtain ⟨s, Im, R, o, s', e, k⟩ := h
  rw [ex] at e
  simp only [Option.bind_eq_bind, Option.bind_eq_some_iff] at e
  obtain ⟨⟨o1, s1⟩, e1, e2⟩ := e
  refine ⟨s, Im, R, o1, s1, e1, fun Im1 σ1 H1 R1 st1 => ?_⟩
  cases o1 with
  | nx => exact ⟨s1, Im1, R1, o, s', e2, fun Im2 σ2 H2 R2 st2 => (k Im2 σ2 H2 R2 (st1.trans st2)).early fun p n => none_of_there st1.there n⟩
  | brk =>
    cases e2
    exact k Im1 σ1 H1 R1 st1
  | ret w =>
    cases e2
    exact k Im1 σ1 H1 R1 st1
theorem tex_drop {e : E} (h : TEx K (ex sig cf (.drop e)) DE σ H) : tDrop (TEv K (ev sig cf e)) DE σ H := by
  obtain ⟨s, Im, R, o, s', e, k⟩ := h
  rw [ex] at e
  simp only [Option.bind_eq_bind, Option.bind_eq_some_iff, Option.pure_def, Option.some.injEq, Prod.mk.injEq] at e
  obtain ⟨⟨w1, s1⟩, e1, rfl, rfl⟩ := e
  exact ⟨s, Im, R, w1, s1, e1, fun Im1 v H1 R1 st1 _ => k Im1 σ H1 R1 st1⟩
theorem tex_ret {e : E} (h : TEx K (ex sig cf (.ret e)) DE σ H) : tRet (TEv K (ev sig cf e)) DE σ H := by
  obtain ⟨s, Im, R, o, s', e, k⟩ := h
  rw [ex] at e
  simp only [Option.bind_eq_bind, Option.bind_eq_some_iff, Option.pure_def, Option.some.injEq, Prod.mk.injEq] at e
  obtain ⟨⟨w1, s1⟩, e1, rfl, rfl⟩ := e
  exact ⟨s, Im, R, w1, s1, e1, fun Im1 v H1 R1 st1 x1 => k Im1 σ H1 R1 st1 v x1⟩
theorem tex_retN (h : TEx K (ex sig cf (.ret (.con .none))) DE σ H) : tRetN DE σ H := by
  have q := tex_ret sig cf h
  exact tev_con (d := .none) (v := .non) (K := K) (by simpa only [tRet, TEv, ev] using q) fun _ => .non
theorem tex_brk (h : TEx K (ex sig cf .brk) DE σ H) : tBreak DE σ H := by
  obtain ⟨s, Im, R, o, s', e, k⟩ := h
  rw [ex] at e
  cases e
  exact k Im σ H R .refl
theorem tex_raise (h : TEx K (ex sig cf .raise) DE σ H) : False := by
  obtain ⟨s, Im, R, o, s', e, k⟩ := h
  rw [ex] at e
  cases e
theorem evC_eq {c : E} (h : c.isNil = false) (s : Sg) : evC sig cf c s = evB (ev sig cf c) s := by
  unfold evC testE
  rw [h]
  rfl
theorem tex_if {c : E} {a b : S} (hc : c.isNil = false) (h : TEx K (ex sig cf (.ifs c a b)) DE σ H) : tIfS (TTv K (evB (ev sig cf c))) (TEx K (ex sig cf a)) (TEx K (ex sig cf b)) DE σ H := by
  obtain ⟨s, Im, R, o, s', e, k⟩ := h
  rw [ex] at e
  simp only [Option.bind_eq_bind, Option.bind_eq_some_iff] at e
  obtain ⟨⟨t, s1⟩, e1, e2⟩ := e
  rw [evC_eq sig cf hc] at e1
  refine ⟨s, Im, R, t, s1, e1, fun Im1 H1 R1 st1 => ?_⟩
  cases t with
  | true => exact ⟨s1, Im1, R1, o, s', e2, fun Im2 σ2 H2 R2 st2 => (k Im2 σ2 H2 R2 (st1.trans st2)).early fun p n => none_of_there st1.there n⟩
  | false => exact ⟨s1, Im1, R1, o, s', e2, fun Im2 σ2 H2 R2 st2 => (k Im2 σ2 H2 R2 (st1.trans st2)).early fun p n => none_of_there st1.there n⟩
theorem Rel.setM {i : Nat} {k : Mode} (R : Rel K σ Im H s) (hi : i < σ.length) (hc : CellM K Im H p c) (hp : Im p = none) (hn : ∀ (j : Nat) (k : Mode) (c' : Cell), i ≠ j → s[j]? = some (some (.m k c')) → σ[j]? ≠ some (some (.ref p))) : Rel K (σ.set i (some (.ref p))) Im H (s.set i (some (.m k c))) where
  len := by rw [List.length_set, List.length_set]; exact R.len
  sub := R.sub
  d := fun j x h => by
    rcases get_set h with ⟨_, h⟩ | ⟨hne, h⟩
    · cases h
    · rw [set_other hne]; exact R.d j x h
  m := fun j q c' h => by
    rcases get_set h with ⟨hj, h2⟩ | ⟨hne, h2⟩
    · subst hj
      cases h2
      exact ⟨p, List.getElem?_set_self hi, hc, hp⟩
    · rw [set_other hne]; exact R.m j q c' h2
  ne := fun a b q q' c1 c2 p' e1 e2 h1 h2 => by
    rcases get_set e1 with ⟨ha, g1⟩ | ⟨ha, g1⟩
    · rcases get_set e2 with ⟨hb, g2⟩ | ⟨hb, g2⟩
      · rw [← ha, ← hb]
      · subst ha
        rw [List.getElem?_set_self hi] at h1
        cases h1
        rw [set_other hb] at h2
        exact absurd h2 (hn b _ _ hb g2)
    · rcases get_set e2 with ⟨hb, g2⟩ | ⟨hb, g2⟩
      · subst hb
        rw [List.getElem?_set_self hi] at h2
        cases h2
        rw [set_other ha] at h1
        exact absurd h1 (hn a _ _ ha g1)
      · rw [set_other ha] at h1
        rw [set_other hb] at h2
        exact R.ne a b _ _ _ _ p' g1 g2 h1 h2
theorem put_ok {T : Addr → Prop} {σ0 : St} {s0 : Sg} {Im0 : Hp} {i : Nat} (R : Rel K σ Im H s) (st : Sto T σ0 s0 Im0 H0 σ s Im H) (hw : WR K σ H0 Im H s w v) (e : put s i w = some s') :
    Rel K (σ.set i (some v)) Im H s' ∧ Sto T σ0 s0 Im0 H0 (σ.set i (some v)) s' Im H := by
  unfold put at e
  split at e
  · cases e
  · cases e
  · cases e
  · rename_i z _ _ es
    have hi : i < σ.length := by rw [← R.len]; exact lt_of_get es
    split at e
    · cases e
      cases hw with
      | d r =>
        rename_i x0
        have R1 := (R.store0 i (some v)).setD (List.getElem?_set_self hi) r
        rw [List.set_set] at R1
        have st1 := (st.transT (T1 := fun _ => False) (Sto.store0 i (some v)) fun _ h => h.elim).setD (x := x0) i
        rw [List.set_set] at st1
        exact ⟨R1, st1⟩
    · cases e
      cases hw with
      | @new c p h0 hc hi' hn =>
        refine ⟨R.setM hi hc hi' fun j k c' _ => hn j k c', { st with own := fun j c' q e1 e2 => ?_, old := fun j k c' hk e1 => ?_ }⟩
        · rcases get_set e1 with ⟨hj, h2⟩ | ⟨hne, h2⟩
          · subst hj
            rw [List.getElem?_set_self hi] at e2
            cases e2
            exact .inl h0
          · rw [set_other hne] at e2
            exact st.own j c' q h2 e2
        · rcases get_set e1 with ⟨hj, h2⟩ | ⟨hne, h2⟩
          · cases h2
            exact absurd rfl hk
          · rw [set_other hne]
            exact st.old j k c' hk h2
    · rename_i j
      split at e
      · rename_i c ej
        cases e
        cases hw with
        | own e1 =>
          obtain ⟨p, g1, g2, g3⟩ := R.m j .own c ej
          rw [e1] at g1
          cases g1
          have hj : j < s.length := lt_of_get ej
          have hn : ∀ (l : Nat) (k : Mode) (c' : Cell), (s.set j none)[l]? = some (some (.m k c')) → σ[l]? ≠ some (some (.ref p)) := fun l k c' h1 h2 => by
            rcases get_set h1 with ⟨_, h⟩ | ⟨hne, h⟩
            · cases h
            · exact hne (R.ne _ _ _ _ _ _ p ej h e1 h2)
          have R1 := R.setNone j
          refine ⟨R1.setM hi g2 g3 fun l k c' _ => hn l k c', { st with own := fun l c' q f1 f2 => ?_, old := fun l k c' hk f1 => ?_ }⟩
          · rcases get_set f1 with ⟨hl, h2⟩ | ⟨hne, h2⟩
            · subst hl
              rw [List.getElem?_set_self hi] at f2
              cases f2
              exact st.own j c p ej e1
            · rw [set_other hne] at f2
              rcases get_set h2 with ⟨_, h⟩ | ⟨_, h⟩
              · cases h
              · exact st.own l c' q h f2
          · rcases get_set f1 with ⟨hl, h2⟩ | ⟨hne, h2⟩
            · cases h2
              exact absurd rfl hk
            · rw [set_other hne]
              rcases get_set h2 with ⟨_, h⟩ | ⟨_, h⟩
              · cases h
              · exact st.old l k c' hk h
      · cases e
theorem tex_set {i : Nat} {e : E} (h : TEx K (ex sig cf (.set i e)) DE σ H) : tAsg (TEv K (ev sig cf e)) (gName i) DE σ H := by
  obtain ⟨s, Im, R, o, s', e, k⟩ := h
  rw [ex] at e
  simp only [Option.bind_eq_bind, Option.bind_eq_some_iff, Option.pure_def, Option.some.injEq, Prod.mk.injEq] at e
  obtain ⟨⟨w1, s1⟩, e1, s2, e2, rfl, rfl⟩ := e
  refine ⟨s, Im, R, w1, s1, e1, fun Im1 v H1 R1 st1 x1 => ?_⟩
  obtain ⟨R2, st2⟩ := put_ok R1 st1 x1 e2
  exact k Im1 _ H1 R2 st2
theorem tex_unpack {t : Tgt} {e : E} (h : TEx K (ex sig cf (.unpack t e)) DE σ H) : tAsg (TEv K (ev sig cf e)) (TGt K t) DE σ H := by
  obtain ⟨s, Im, R, o, s', e, k⟩ := h
  rw [ex] at e
  simp only [Option.bind_eq_bind, Option.bind_eq_some_iff, Option.pure_def, Option.some.injEq, Prod.mk.injEq] at e
  obtain ⟨⟨w1, s1⟩, e1, ⟨x, s2⟩, e2, s3, e3, rfl, rfl⟩ := e
  refine ⟨s, Im, R, w1, s1, e1, fun Im1 v H1 R1 st1 x1 => ?_⟩
  obtain ⟨Im2, R2, st2, r, _⟩ := toD_next R1 st1 x1 e2
  exact ⟨s2, Im2, R2, x, s3, r, e3, fun σ3 R3 st3 _ _ => k Im2 σ3 H1 R3 (st2.trans st3)⟩
theorem Rel.updCell {i : Nat} {k : Mode} {c' : Cell} {o : HO} (R : Rel K σ Im H s) (es : s[i]? = some (some (.m k c))) (ep : σ[i]? = some (some (.ref p))) (hc : CellM K Im (upd H p o) p c') : Rel K σ Im (upd H p o) (s.set i (some (.m k c'))) where
  len := by rw [List.length_set]; exact R.len
  sub := fun a u e => by
    obtain ⟨q, g1, _, g3⟩ := R.m i k c es
    rw [ep] at g1
    cases g1
    rw [upd_ne (ne_of_none e g3)]
    exact R.sub _ _ e
  d := fun j x h => by
    rcases get_set h with ⟨_, h⟩ | ⟨_, h⟩
    · cases h
    · exact R.d j x h
  m := fun j q c1 h => by
    rcases get_set h with ⟨hj, h2⟩ | ⟨hne, h2⟩
    · subst hj
      cases h2
      obtain ⟨q', g1, _, g3⟩ := R.m i k c es
      rw [ep] at g1
      cases g1
      exact ⟨p, ep, hc, g3⟩
    · obtain ⟨q', g1, g2, g3⟩ := R.m j q c1 h2
      refine ⟨q', g1, g2.keep (Sub.refl _) fun u eu => ?_, g3⟩
      rw [upd_ne]
      · exact eu
      · rintro rfl
        exact hne (R.ne i j _ _ _ _ _ es h2 ep g1)
  ne := fun a b q q' c1 c2 p' e1 e2 h1 h2 => by
    have f : ∀ (j : Nat) (q : Mode) (c1 : Cell), (s.set i (some (.m k c')))[j]? = some (some (.m q c1)) → ∃ q c1, s[j]? = some (some (.m q c1)) := fun j q c1 h => by
      rcases get_set h with ⟨rfl, _⟩ | ⟨_, h⟩
      · exact ⟨_, _, es⟩
      · exact ⟨_, _, h⟩
    obtain ⟨_, _, g1⟩ := f a q c1 e1
    obtain ⟨_, _, g2⟩ := f b q' c2 e2
    exact R.ne a b _ _ _ _ p' g1 g2 h1 h2
theorem Sto.updCell {T : Addr → Prop} {i : Nat} {k : Mode} {c' : Cell} {o : HO} (hk : k ≠ .lock) (es : s[i]? = some (some (.m k c))) (ep : σ[i]? = some (some (.ref p))) : Sto (Tch σ s) σ s Im H σ (s.set i (some (.m k c'))) Im (upd H p o) where
  mono := Sub.refl _
  keep := fun q u e n => by
    rw [upd_ne]
    · exact e
    · rintro rfl
      exact n ⟨i, k, c, hk, es, ep⟩
  there := fun q u e => by
    by_cases h : q = p
    · exact ⟨o, by rw [h]; exact upd_same⟩
    · exact ⟨u, by rw [upd_ne h]; exact e⟩
  new := fun q u e => .inl e
  own := fun j c1 q e1 e2 => by
    rcases get_set e1 with ⟨hj, h⟩ | ⟨_, h⟩
    · subst hj
      cases h
      exact .inr ⟨i, c, es, e2⟩
    · exact .inr ⟨j, c1, h, e2⟩
  old := fun j q c1 hq e1 => by
    rcases get_set e1 with ⟨hj, h⟩ | ⟨_, h⟩
    · subst hj
      cases h
      exact ⟨c, es, rfl, fun z => absurd z hk⟩
    · exact ⟨c1, h, rfl, fun _ => rfl⟩
theorem okSlot_is {i : Nat} {z : Unit} (R : Rel K σ Im H s) (e : okSlot s i = some z) : ∃ p, σ[i]? = some (some (.ref p)) := by
  unfold okSlot at e
  split at e
  · rename_i k c es
    obtain ⟨p, h, _⟩ := R.m i k c es
    exact ⟨p, h⟩
  · cases e
theorem ixN_of {n m : Nat} {j : Int} (h : ixPos n j = some m) : L2.ixN n j = some m := by
  unfold ixPos at h
  split at h
  · rename_i hb
    rw [← h]
    unfold L2.ixN
    by_cases h0 : 0 ≤ j
    · rw [if_pos h0, if_pos h0, if_pos hb.2]
    · rw [if_neg h0, if_neg h0, if_pos (by omega)]
  · cases h
/-- a list's place or a dict's key takes v -/
def rSetA (K : Frag) : V → V → V → Hp → (Hp → Prop) → Prop := fun o i v H Q => rSetL o i v H Q ∨ rSetD K o i v H Q
theorem set_any (hu : X.A.units + 65 < cLine) : PSet X (rSetA X.K) := fun pins s σ H o i v ov iv u Q I ro ri rv h => h.elim (set_list pins s σ H o i v ov iv u Q I ro ri rv) (set_dct hu pins s σ H o i v ov iv u Q I ro ri rv)
/-- s[i]'s object takes k ↦ v -/
theorem put_list {i : Nat} {kd vd : D} {Q : Hp → Prop} {kv : V} (R : Rel K σ Im H s) (e : putIx s i kd vd = some s') (hk : Rp K Im kv kd) (hv : Rp K Im v vd) (ep : σ[i]? = some (some (.ref p)))
    (h : ∀ H', Rel K σ Im H' s' → Sto (Tch σ s) σ s Im H σ s' Im H' → Q H') : rSetA K (.ref p) kv v H Q := by
  unfold putIx at e
  split at e
  · rename_i q ds es
    split at e
    · cases e
    · rename_i hq
      split at e
      · rename_i j
        cases e0 : ixPos ds.length j with
        | none => rw [e0] at e; cases e
        | some n =>
          rw [e0] at e
          cases e
          obtain ⟨p', g1, g2, g3⟩ := R.m i q _ es
          rw [ep] at g1
          cases g1
          cases g2 with
          | @lst vs _ hp r =>
            cases hk
            refine .inl ⟨p, vs, j, n, rfl, rfl, hp, ixN_of (by rw [r.length]; exact e0), ?_⟩
            have hc : CellM K Im (upd H p (.lst (vs.set n v))) p (.lst (ds.set n vd)) := .lst upd_same (RpAll.set hv _ r)
            exact h _ (R.updCell es ep hc) (Sto.updCell (T := fun _ => False) hq es ep)
      · cases e
  · rename_i q kvs es
    split at e
    · cases e
    · rename_i hq
      split at e
      · rename_i hk'
        cases e
        obtain ⟨p', g1, g2, g3⟩ := R.m i q _ es
        rw [ep] at g1
        cases g1
        cases g2 with
        | @dct o1 E _ hp r =>
          refine .inr ⟨p, o1, E, kvs, kd, vd, Im, rfl, R.sub, hp, r, hk'.1, hk, hv, hk'.2, fun o2 => ?_⟩
          have hc : CellM K Im (upd H p (dctO p o2 (storeE (kvs.any fun p => eqD p.1 kd) E (keyN kd) kv v))) p (.dct (dput kvs kd vd)) := .dct upd_same (store_D hk'.1 hk hv r)
          exact h _ (R.updCell es ep hc) (Sto.updCell (T := fun _ => False) hq es ep)
      · cases e
  · cases e
theorem tex_setIx {i : Nat} {ek e : E} (h : TEx K (ex sig cf (.setIx i ek e)) DE σ H) : tAsg (TEv K (ev sig cf e)) (gSub (tVar i) (TEv K (ev sig cf ek)) (rSetA K)) DE σ H := by
  obtain ⟨s, Im, R, o, s', e, k⟩ := h
  rw [ex] at e
  simp only [Option.bind_eq_bind, Option.bind_eq_some_iff, Option.pure_def, Option.some.injEq, Prod.mk.injEq] at e
  obtain ⟨⟨w1, s1⟩, e1, ⟨vd, s2⟩, e2, _, e0, ⟨w2, s3⟩, e3, ⟨kd, s4⟩, e4, s5, e5, rfl, rfl⟩ := e
  refine ⟨s, Im, R, w1, s1, e1, fun Im1 v H1 R1 st1 x1 => ?_⟩
  obtain ⟨Im2, R2, st2, r2, _⟩ := toD_next R1 st1 x1 e2
  obtain ⟨p, ep⟩ := okSlot_is R2 e0
  refine ⟨_, ep, s2, Im2, R2, w2, s3, e3, fun Im3 kv H3 R3 st3 x3 => ?_⟩
  obtain ⟨Im4, R4, st4, r4, g4⟩ := toD_next R3 st3 x3 e4
  have r2' := (r2.mono st3.mono).mono g4
  exact put_list R4 e5 r4 r2' ep fun H5 R5 st5 => k Im4 σ H5 R5 ((st2.trans st4).trans st5)
theorem tyList {H : Hp} {vs : List V} (h : H p = some (.lst vs)) : tyV K "list" (.ref p) H := .inl ⟨rfl, vs, SqL.of h⟩
theorem tex_app {i : Nat} {e : E} (h : TEx K (ex sig cf (.app i e)) DE σ H) : tDrop (tBM K "list" rAppend (tVar i) (tCons (TEv K (ev sig cf e)) tNil)) DE σ H := by
  obtain ⟨s, Im, R, o, s', e, k⟩ := h
  rw [ex] at e
  simp only [Option.bind_eq_bind, Option.bind_eq_some_iff, Option.pure_def, Option.some.injEq, Prod.mk.injEq] at e
  obtain ⟨_, e0, ⟨w1, s1⟩, e1, ⟨vd, s2⟩, e2, s3, e3, rfl, rfl⟩ := e
  unfold okSlotL at e0
  split at e0
  · rename_i q ds0 es
    obtain ⟨p, ep, hc, _⟩ := R.m i q _ es
    cases hc with
    | lst hp r =>
      refine ⟨_, ep, tyList hp, s, Im, R, w1, s1, e1, fun Im1 v H1 R1 st1 x1 => ?_⟩
      obtain ⟨Im2, R2, st2, r2, _⟩ := toD_next R1 st1 x1 e2
      unfold appTo at e3
      split at e3
      · rename_i q2 ds es2
        split at e3
        · cases e3
        · rename_i hq
          split at e3
          · rename_i hl
            cases e3
            obtain ⟨p', g1, g2, g3⟩ := R2.m i q2 _ es2
            rw [ep] at g1
            cases g1
            cases g2 with
            | @lst vs _ hp2 r' =>
              refine ⟨p, vs, v, rfl, rfl, hp2, by rw [r'.length, ← lenLine_eq]; exact hl, ?_⟩
              have hc : CellM K Im2 (upd H1 p (.lst (vs ++ [v]))) p (.lst (ds ++ [vd])) := .lst upd_same (r'.append (.cons r2 .nil))
              exact k Im2 σ _ (R2.updCell es2 ep hc) (st2.trans (Sto.updCell (T := fun _ => False) hq es2 ep))
          · cases e3
      · cases e3
  · cases e0
theorem tev_pop {i : Nat} {Q : VK} (h : TEv K (ev sig cf (.pop i)) σ H Q) : tBM0 K "list" rPop (tVar i) σ H Q := by
  obtain ⟨s, Im, R, w, s', e, k⟩ := h
  rw [ev] at e
  split at e
  · rename_i q ds es
    split at e
    · cases e
    · rename_i hq
      split at e
      · rename_i x hx
        cases e
        obtain ⟨p, ep, g2, g3⟩ := R.m i q _ es
        cases g2 with
        | @lst vs _ hp r =>
          obtain ⟨v, hv, rv⟩ := r.get (n := ds.length - 1) (d := x) (by rw [← List.getLast?_eq_getElem?]; exact hx)
          refine ⟨_, ep, tyList hp, p, vs, v, rfl, rfl, hp, by rw [r.length]; exact hv, ?_⟩
          have hc : CellM K Im (upd H p (.lst vs.dropLast)) p (.lst ds.dropLast) := .lst upd_same r.dropLast
          exact k Im v _ (R.updCell es ep hc) (Sto.updCell (T := fun _ => False) hq es ep) (.d rv)
      · cases e
  · cases e
/-- ints -/
def RAug (K : Frag) (f : Op2) : TIp := fun x y H Q => ∃ Im r q w, Sub Im H ∧ RVR K Im H x r ∧ RVR K Im H y q ∧ augV f r q = some w ∧ Wants K Im H w Q
theorem pip_add : PIp X .Add (RAug X.K .add) := by
  intro pins s σ H x y v u Q I rx ry h
  obtain ⟨Im, r, q, w, hs, r1, r2, e, wt⟩ := h
  unfold augV at e
  simp only at e
  split at e
  · cases e
    have e1 := r1.int
    have e2 := r2.int
    subst e1 e2
    exact iop_add pins s σ H _ _ v u Q I rx ry ⟨_, _, rfl, rfl, wt.int hs⟩
  · cases e
theorem pip_sub : PIp X .Sub (RAug X.K .sub) := by
  intro pins s σ H x y v u Q I rx ry h
  obtain ⟨Im, r, q, w, hs, r1, r2, e, wt⟩ := h
  have e : a2_sub r q = some w := e
  unfold a2_sub at e
  split at e
  · cases e
    have e1 := r1.int
    have e2 := r2.int
    subst e1 e2
    exact iop_sub pins s σ H _ _ v u Q I rx ry ⟨_, _, rfl, rfl, wt.int hs⟩
  · cases e
theorem pip_mul : PIp X .Mult (RAug X.K .mul) := by
  intro pins s σ H x y v u Q I rx ry h
  obtain ⟨Im, r, q, w, hs, r1, r2, e, wt⟩ := h
  unfold augV at e
  simp only at e
  split at e
  · rename_i i j
    have e : (if mulOk i j then some (W.d (.int (i * j))) else none) = some w := e
    split at e
    · rename_i hm
      cases e
      have e1 := r1.int
      have e2 := r2.int
      subst e1 e2
      obtain ⟨t, rfl⟩ := rx
      obtain ⟨t', rfl⟩ := ry
      exact imul_int ⟨.int (i * j), H, I.tok _, ⟨_, rfl⟩, wt.int hs⟩ (mulOk_ok hm)
    · cases e
  · cases e
theorem augV_int {f : Op2} {r q : RV} {w : W} (e : augV f r q = some w) : (∃ i, r = .d (.int i)) ∧ (∃ i, w = .d (.int i)) := by
  unfold augV at e
  split at e
  · split at e
    · cases e; exact ⟨⟨_, rfl⟩, ⟨_, rfl⟩⟩
    · cases e
  · have e : a2_sub r q = some w := e
    unfold a2_sub at e
    split at e
    · cases e; exact ⟨⟨_, rfl⟩, ⟨_, rfl⟩⟩
    · cases e
  · split at e
    · rename_i i j
      have e : (if mulOk i j then some (W.d (.int (i * j))) else none) = some w := e
      split at e
      · cases e; exact ⟨⟨_, rfl⟩, ⟨_, rfl⟩⟩
      · cases e
    · cases e
  · cases e
theorem tex_aug {i : Nat} {f : Op2} {e : E} (h : TEx K (ex sig cf (.aug i f e)) DE σ H) : tAug i (TEv K (ev sig cf e)) (RAug K f) DE σ H := by
  obtain ⟨s, Im, R, o, s', e, k⟩ := h
  rw [ex] at e
  simp only [Option.bind_eq_bind, Option.bind_eq_some_iff, Option.pure_def, Option.some.injEq, Prod.mk.injEq] at e
  obtain ⟨⟨w0, s0⟩, e0, r, e1, ⟨w1, s1⟩, e2, q, e3, x, e4, s3, e5, rfl, rfl⟩ := e
  obtain ⟨⟨a, rfl⟩, ⟨b, rfl⟩⟩ := augV_int e4
  rw [ev] at e0
  split at e0
  · rename_i d es
    cases e0
    cases e1
    obtain ⟨v0, h1, h2⟩ := R.d i _ es
    refine ⟨v0, h1, s, Im, R, w1, s1, e2, fun Im1 v H1 R1 st1 x1 => ⟨Im1, _, q, _, R1.sub, .d (h2.mono st1.mono), x1.rv R1 e3, e4, fun Im2 z H2 g res => ?_⟩⟩
    cases res with
    | d rz =>
      obtain ⟨R3, st3⟩ := put_ok (R1.grow g) (st1.grow g) (.d rz) e5
      exact k Im2 _ H2 R3 st3
  · rename_i q' c es
    cases e0
    exfalso
    have e1 : (match s[i]? with
      | some (some (.m _ c)) => some (cellRV c)
      | _ => none) = some (RV.d (.int a)) := e1
    split at e1
    · rename_i k' c' _
      cases c' <;> cases e1
    · cases e1
  · cases e0
def GMix (K : Frag) (sig : SigF) (cf : CF) (ts : List (Nat × E)) : TGs := fun vs σ H Q => ∃ s Im, Rel K σ Im H s ∧ ∃ ds s', RpAll K Im vs ds ∧ asgAll sig cf ts ds s = some s' ∧
  ∀ Im' σ' H', Rel K σ' Im' H' s' → Sto (Tch σ s) σ s Im H σ' s' Im' H' → Q σ' H'
theorem gmix_nil {vs : List V} {Q : St → Hp → Prop} (h : GMix K sig cf [] vs σ H Q) : gNil vs σ H Q := by
  obtain ⟨s, Im, R, ds, s', r, e, k⟩ := h
  cases ds with
  | nil =>
    cases e
    cases r
    exact ⟨rfl, k Im σ H R .refl⟩
  | cons _ _ => cases e
theorem gmix_name {i : Nat} {ts : List (Nat × E)} {vs : List V} {Q : St → Hp → Prop} (h : GMix K sig cf ((i, .nil) :: ts) vs σ H Q) : gCons (gName i) (GMix K sig cf ts) vs σ H Q := by
  obtain ⟨s, Im, R, ds, s', r, e, k⟩ := h
  cases ds with
  | nil => cases e
  | cons d ds =>
    rw [asgAll] at e
    simp only [Option.bind_eq_bind, Option.bind_eq_some_iff] at e
    obtain ⟨s1, e1, e2⟩ := e
    replace e1 : put s i (.d d) = some s1 := e1
    cases r with
    | cons r1 r2 =>
      obtain ⟨R1, st1⟩ := put_ok (H0 := H) R (Sto.refl (T := Tch σ s)) (.d r1) e1
      exact ⟨_, _, rfl, s1, Im, R1, ds, s', r2, e2, fun Im2 σ2 H2 R2 st2 => k Im2 σ2 H2 R2 (st1.trans st2)⟩
theorem gmix_ix {i : Nat} {ek : E} {ts : List (Nat × E)} {vs : List V} {Q : St → Hp → Prop} (hk : ek.isNil = false) (h : GMix K sig cf ((i, ek) :: ts) vs σ H Q) : gCons (gSub (tVar i) (TEv K (ev sig cf ek)) (rSetA K)) (GMix K sig cf ts) vs σ H Q := by
  obtain ⟨s, Im, R, ds, s', r, e, k⟩ := h
  cases ds with
  | nil => cases e
  | cons d ds =>
    rw [asgAll] at e
    simp only [Option.bind_eq_bind, Option.bind_eq_some_iff] at e
    obtain ⟨s1, e1, e2⟩ := e
    unfold asg1 at e1
    replace e1 : (if ek.isNil = true then put s i (.d d) else do
      let _ ← okSlot s i
      let (u, s) ← ev sig cf ek s
      let (y, s) ← toD s u
      putIx s i y d) = some s1 := e1
    rw [hk] at e1
    simp only [Bool.false_eq_true, if_false, Option.bind_eq_bind, Option.bind_eq_some_iff] at e1
    obtain ⟨_, e0, ⟨w2, s3⟩, e3, ⟨kd, s4⟩, e4, e5⟩ := e1
    cases r with
    | cons r1 r2 =>
      obtain ⟨p, ep⟩ := okSlot_is R e0
      refine ⟨_, _, rfl, _, ep, s, Im, R, w2, s3, e3, fun Im3 kv H3 R3 st3 x3 => ?_⟩
      obtain ⟨Im4, R4, st4, r4, g4⟩ := toD_next R3 st3 x3 e4
      refine put_list R4 e5 r4 ((r1.mono st3.mono).mono g4) ep fun H5 R5 st5 => ?_
      exact ⟨s1, Im4, R5, ds, s', r2.mono (Sub.trans st3.mono g4), e2, fun Im2 σ2 H2 R2 st2 => k Im2 σ2 H2 R2 ((st4.trans st5).trans st2)⟩
theorem asgAll_len : ∀ (ts : List (Nat × E)) {ds : List D} {s s' : Sg}, asgAll sig cf ts ds s = some s' → ds.length = ts.length
  | [], [], _, _, _ => rfl
  | [], _ :: _, _, _, e => by simp [asgAll] at e
  | _ :: _, [], _, _, e => by simp [asgAll] at e
  | t :: ts, d :: ds, s, s', e => by
    rw [asgAll] at e
    simp only [Option.bind_eq_bind, Option.bind_eq_some_iff] at e
    obtain ⟨s1, _, e2⟩ := e
    rw [List.length_cons, List.length_cons, asgAll_len ts e2]
theorem tex_setMix {ts : List (Nat × E)} {es : E} (hl : lenE es ≤ 1000) (h : TEx K (ex sig cf (.setMix ts es)) DE σ H) : tAsg (tTupF (TAd K (evsD sig cf es))) (gTup K ts.length (GMix K sig cf ts)) DE σ H := by
  obtain ⟨s, Im, R, o, s', e, k⟩ := h
  rw [ex] at e
  simp only [Option.bind_eq_bind, Option.bind_eq_some_iff, Option.pure_def, Option.some.injEq, Prod.mk.injEq] at e
  obtain ⟨⟨xs, s1⟩, e1, s2, e2, rfl, rfl⟩ := e
  refine ⟨s, Im, R, xs, s1, e1, fun Im1 vs H1 R1 st1 rs => ⟨?_, fun p o hp hd => ?_⟩⟩
  · rw [rs.length, evsD_len sig cf es e1]
    exact Nat.le_trans hl (by rw [sizeLine_eq]; decide)
  · have g : Grow Im1 H1 Im1 (upd H1 p (.frz o (.tup vs))) := Grow.apart R1.sub hp
    refine ⟨p, vs, rfl, (tupAt_new hd).sq, by rw [rs.length]; exact asgAll_len sig cf ts e2, s1, Im1, R1.grow g, xs, s2, rs, e2, fun Im2 σ2 H2 R2 st2 => ?_⟩
    exact k Im2 σ2 H2 R2 ((st1.grow g).trans st2)
end
end PV
namespace PV
open PySem PySem.Spec PyProof.Rows L2
section
variable {X : Cx} {K : Frag} {σ σ' σ1 σ2 : St} {Im H Im' H' H0 Im1 H1 Im2 H2 : Hp} {s s' s1 s2 : Sg} {p : Addr} {c : Cell} {v : V} {w : W} {x : D} {DE : Ends}
variable (sig : SigF) (cf : CF)
theorem get_list : PGet X (rIxL X.K) := by
  intro pins s σ H x y v u Q I rx ry h
  obtain ⟨p, xs, i, z, rfl, rfl, hq, he, q⟩ := h
  cases rx
  obtain ⟨t, rfl⟩ := ry
  obtain ⟨its, r, pl, hz⟩ := I.list hq
  obtain ⟨j, h1, h2, h3, h4, h5⟩ := atI_get he
  obtain ⟨w, ew, rw'⟩ := r.get h2
  have hl := r.length
  have hn := line63
  have fin : EP X pins σ Q w s := ⟨z, H, I, rw', q⟩
  by_cases h0 : 0 ≤ i
  · have hj : i.toNat = j := by
      rw [seqIndex_of h0 h5] at h1
      exact Option.some.inj h1
    exact wpAny_getItem_list pl.isList h0 (by omega) (by rw [hj]; simpa using ew) fin
  · have hj : (i + (its.toArray.size : Int)).toNat = j := by
      rw [seqIndex_neg (by omega) h4] at h1
      rw [List.size_toArray, ← hl]
      exact Option.some.inj h1
    exact wpAny_getItem_list_neg pl.isList (by omega) (by rw [List.size_toArray] <;> omega) (by omega) (by rw [hj]; simpa using ew) fin
theorem tex_augIx {i : Nat} {ek : E} {f : Op2} {e : E} (h : TEx K (ex sig cf (.augIx i ek f e)) DE σ H) : tAugS (tVar i) (TEv K (ev sig cf ek)) (TEv K (ev sig cf e)) (rIxL K) (RAug K f) (rSetA K) DE σ H := by
  obtain ⟨s, Im, R, o, s', e, k⟩ := h
  rw [ex] at e
  simp only [Option.bind_eq_bind, Option.bind_eq_some_iff, Option.pure_def] at e
  obtain ⟨_, e0, ⟨w1, s1⟩, e1, ⟨kd, s2⟩, e2, old, e3, ⟨w2, s3⟩, e4, q, e5, y, e6, e7⟩ := e
  obtain ⟨⟨a, ha⟩, ⟨b, hb⟩⟩ := augV_int e6
  cases ha
  subst hb
  simp only [Option.bind_eq_some_iff, Option.some.injEq, Prod.mk.injEq] at e7
  obtain ⟨s4, e8, rfl, rfl⟩ := e7
  obtain ⟨p, ep⟩ := okSlot_is R e0
  refine ⟨_, ep, s, Im, R, w1, s1, e1, fun Im1 kv H1 R1 st1 x1 => ?_⟩
  obtain ⟨Im2, R2, st2, r2, _⟩ := toD_next R1 st1 x1 e2
  replace e3 : getIx s2 i kd = some (.int a) := e3
  unfold getIx at e3
  split at e3
  · rename_i q' ds es
    split at e3
    · rename_i j
      obtain ⟨p', g1, g2, _⟩ := R2.m i q' _ es
      rw [ep] at g1
      cases g1
      cases g2 with
      | @lst vs _ hp r =>
        have r2k := r2
        cases r2k
        obtain ⟨z, hz1, hz2⟩ := atI_rp r e3
        refine ⟨p, vs, j, z, rfl, rfl, SqL.of hp, hz1, s2, Im2, R2, w2, s3, e4, fun Im3 v H3 R3 st3 x3 => ⟨Im3, _, q, _, R3.sub, .d (hz2.mono st3.mono), x3.rv R3 e5, e6, fun Im4 z' H4 g res => ?_⟩⟩
        cases res with
        | d rz =>
          have R4 := R3.grow g
          exact put_list R4 e8 ((r2.mono st3.mono).mono g.mono) rz ep fun H5 R5 st5 => k Im4 σ H5 R5 (((st2.trans st3).grow g).trans st5)
    · cases e3
  · cases e3
def setAll (σ : St) : List Nat → List V → St
  | i :: is, v :: vs => setAll (σ.set i (some v)) is vs
  | _, _ => σ
def noOwn : W → Prop
  | .own _ => False
  | _ => True
theorem newOnly_ok : ∀ {ws : List W} {vs : List V} {ws' : List W} {s s' : Sg} {Im : Hp}, Rel K σ Im H s → Paired (WR K σ H0 Im H s) ws vs → newOnly s ws = some (ws', s') →
    ∃ Im', Rel K σ Im' H s' ∧ Sto (Tch σ s) σ s Im H σ s' Im' H ∧ Paired (WR K σ H0 Im' H s') ws' vs ∧ (∀ w ∈ ws', noOwn w) ∧ news ws' vs = news ws vs := by
  intro ws
  induction ws with
  | nil =>
    intro vs ws' s s' Im R pw e
    cases pw
    cases e
    exact ⟨Im, R, .refl, .nil, fun _ h => (nomatch h), rfl⟩
  | cons w ws ih =>
    intro vs ws' s s' Im R pw e
    cases pw with
    | @cons _ v _ vs hw t =>
      cases w with
      | own i =>
        rw [newOnly] at e
        simp only [Option.bind_eq_bind, Option.bind_eq_some_iff, Option.pure_def, Option.some.injEq, Prod.mk.injEq] at e
        obtain ⟨⟨x, s1⟩, e1, ⟨ws1, s2⟩, e2, rfl, rfl⟩ := e
        obtain ⟨Im1, R1, b, rx⟩ := toD_ok R hw e1
        have b : Sto (Tch σ s) σ s Im H σ s1 Im1 H := b.monoT fun p h => h.elim id fun h => h.elim
        have t1 := pw_later b t fun p hp hno ⟨j, k, c', _, f1, f2⟩ => hno j k c' f1 f2
        obtain ⟨Im2, R2, st2, t2, n2, e3⟩ := ih R1 t1 e2
        exact ⟨Im2, R2, b.trans st2, .cons (.d (rx.mono st2.mono)) t2, fun w h => (List.mem_cons.mp h).elim (fun h => by subst h; trivial) (n2 w), e3⟩
      | d x =>
        rw [newOnly] at e
        simp only [Option.bind_eq_bind, Option.bind_eq_some_iff, Option.pure_def, Option.some.injEq, Prod.mk.injEq] at e
        obtain ⟨⟨ws1, s2⟩, e2, rfl, rfl⟩ := e
        obtain ⟨Im2, R2, st2, t2, n2, e3⟩ := ih R t e2
        exact ⟨Im2, R2, st2, .cons (hw.later st2) t2, fun w h => (List.mem_cons.mp h).elim (fun h => by subst h; trivial) (n2 w), e3⟩
        · simp
      | new c =>
        rw [newOnly] at e
        simp only [Option.bind_eq_bind, Option.bind_eq_some_iff, Option.pure_def, Option.some.injEq, Prod.mk.injEq] at e
        obtain ⟨⟨ws1, s2⟩, e2, rfl, rfl⟩ := e
        obtain ⟨Im2, R2, st2, t2, n2, e3⟩ := ih R t e2
        refine ⟨Im2, R2, st2, .cons (hw.later st2) t2, fun w h => (List.mem_cons.mp h).elim (fun h => by subst h; trivial) (n2 w), ?_⟩
        cases v <;> first | exact e3 | exact congrArg _ e3
        · simp
theorem putWs_ok {T : Addr → Prop} {σ0 : St} {s0 : Sg} {Im0 : Hp} : ∀ (is : List Nat) {ws : List W} {vs : List V} {σ : St} {s s' : Sg}, Rel K σ Im H s → Sto T σ0 s0 Im0 H0 σ s Im H → Paired (WR K σ H0 Im H s) ws vs → (news ws vs).Nodup → (∀ w ∈ ws, noOwn w) → putWs s is ws = some s' →
    vs.length = is.length ∧ Rel K (setAll σ is vs) Im H s' ∧ Sto T σ0 s0 Im0 H0 (setAll σ is vs) s' Im H := by
  intro is
  induction is with
  | nil =>
    intro ws vs σ s s' R st pw nd no e
    cases pw with
    | nil => cases e; exact ⟨rfl, R, st⟩
    | cons _ _ => simp [putWs] at e
  | cons i is ih =>
    intro ws vs σ s s' R st pw nd no e
    cases pw with
    | nil => simp [putWs] at e
    | @cons w v ws vs hw t =>
      rw [putWs] at e
      simp only [Option.bind_eq_bind, Option.bind_eq_some_iff] at e
      obtain ⟨s1, e1, e2⟩ := e
      obtain ⟨R1, st1⟩ := put_ok R st hw e1
      obtain ⟨nd1, nd2⟩ := news_nodup nd
      have hi : i < σ.length := by
        have := R1.len
        rw [List.length_set] at this
        rw [← this]
        unfold put at e1
        split at e1
        · cases e1
        · cases e1
        · cases e1
        · rename_i es
          rw [this, ← R.len]
          exact lt_of_get es
      -- the slots behind the store
      have slots : ∀ (j : Nat) (k : Mode) (c' : Cell), s1[j]? = some (some (.m k c')) → (i ≠ j ∧ s[j]? = some (some (.m k c'))) ∨ (i = j ∧ ∃ c, w = .new c) := fun j k c' h => by
        unfold put at e1
        split at e1
        · cases e1
        · cases e1
        · cases e1
        · split at e1
          · cases e1
            rcases get_set h with ⟨_, h⟩ | h
            · cases h
            · exact .inl h
          · cases e1
            rcases get_set h with ⟨hj, _⟩ | h
            · exact .inr ⟨hj, _, rfl⟩
            · exact .inl h
          · exact (no _ (List.mem_cons_self ..)).elim
      have tl : Paired (WR K (σ.set i (some v)) H0 Im H s1) ws vs := by
        have aux : ∀ {ws : List W} {vs : List V}, Paired (WR K σ H0 Im H s) ws vs → (∀ w ∈ ws, noOwn w) → (∀ p, NewAt w v p → p ∉ news ws vs) → Paired (WR K (σ.set i (some v)) H0 Im H s1) ws vs := by
          intro ws vs pw
          induction pw with
          | nil => intro _ _; exact .nil
          | @cons w2 v2 ws vs hw2 t ih2 =>
            intro no2 nd2
            refine .cons ?_ (ih2 (fun w h => no2 w (List.mem_cons_of_mem _ h)) fun p n h => nd2 p n (news_tail h))
            cases hw2 with
            | d r => exact .d r
            | own e => exact (no2 _ (List.mem_cons_self ..)).elim
            | @new c p h0 hc hi' hn =>
              refine .new h0 hc hi' fun j k c' f1 f2 => ?_
              rcases slots j k c' f1 with ⟨hne, f3⟩ | ⟨hj, c2, hw2⟩
              · rw [set_other hne] at f2
                exact hn j k c' f3 f2
              · subst hj hw2
                rw [List.getElem?_set_self hi] at f2
                cases f2
                exact nd2 p rfl (List.mem_cons_self ..)
        exact aux t (fun w h => no w (List.mem_cons_of_mem _ h)) nd2
      obtain ⟨h1, h2, h3⟩ := ih R1 st1 tl nd1 (fun w h => no w (List.mem_cons_of_mem _ h)) e2
      exact ⟨by rw [List.length_cons, List.length_cons, h1], h2, h3⟩
theorem TAw.mono {f : Sg → Option (List W × Sg)} {Q Q' : List V → Hp → Prop} (h : TAw K f σ H Q) (g : ∀ vs H, Q vs H → Q' vs H) : TAw K f σ H Q' := by
  obtain ⟨s, Im, R, ws, s', e, k⟩ := h
  exact ⟨s, Im, R, ws, s', e, fun Im' vs H' R' st pw nd => g _ _ (k Im' vs H' R' st pw nd)⟩
theorem tex_setTup {is : List Nat} {es : E} (h : TEx K (ex sig cf (.setTup is es)) DE σ H) : TAw K (evs sig cf es) σ H fun vs H1 => vs.length = is.length ∧ DE.nx (setAll σ is vs) H1 ∧ ∀ p o, H1 p = none → DE.nx (setAll σ is vs) (upd H1 p o) := by
  obtain ⟨s, Im, R, o, s', e, k⟩ := h
  rw [ex] at e
  simp only [Option.bind_eq_bind, Option.bind_eq_some_iff, Option.pure_def, Option.some.injEq, Prod.mk.injEq] at e
  obtain ⟨⟨ws, s1⟩, e1, ⟨ws', s2⟩, e2, s3, e3, rfl, rfl⟩ := e
  refine ⟨s, Im, R, ws, s1, e1, fun Im1 vs H1 R1 st1 pw nd => ?_⟩
  obtain ⟨Im2, R2, st2, pw2, no, en⟩ := newOnly_ok R1 pw e2
  obtain ⟨h1, h2, h3⟩ := putWs_ok is R2 (st1.trans st2) pw2 (by rw [en]; exact nd) no e3
  refine ⟨h1, k Im2 _ H1 h2 h3, fun p o hp => ?_⟩
  have g : Grow Im2 H1 Im2 (upd H1 p o) := Grow.apart R2.sub hp
  exact k Im2 _ _ (h2.grow g) (h3.grow g)
theorem tex_whl {c : E} {b : S} (hc : c.isNil = false) (h : TEx K (ex sig cf (.whl c b)) DE σ H) : tWhile (TTv K (evB (ev sig cf c))) (TEx K (ex sig cf b)) DE σ H := by
  obtain ⟨s, Im, R, o, s', e, k⟩ := h
  rw [ex] at e
  refine ⟨fun m σ1 H1 => ∃ s1 Im1, Rel K σ1 Im1 H1 s1 ∧ Sto (Tch σ s) σ s Im H σ1 s1 Im1 H1 ∧ whileGo (fun s => evC sig cf c s) (fun s => ex sig cf b s) m s1 = some (o, s'), ⟨FUEL, s, Im, R, .refl, e⟩, fun m σ1 H1 ⟨s1, Im1, R1, st1, e1⟩ => ?_⟩
  cases m with
  | zero => simp [whileGo] at e1
  | succ m =>
    rw [whileGo] at e1
    simp only [Option.bind_eq_bind, Option.bind_eq_some_iff] at e1
    obtain ⟨⟨t, s2⟩, e2, e3⟩ := e1
    rw [evC_eq sig cf hc] at e2
    refine ⟨s1, Im1, R1, t, s2, e2, fun Im2 H2 R2 st2 => ?_⟩
    have st12 := st1.trans st2
    cases t with
    | true =>
      simp only [if_true, Option.bind_eq_some_iff] at e3 ⊢
      obtain ⟨⟨o1, s3⟩, e4, e5⟩ := e3
      refine ⟨_, fun σ' H' hN => ⟨m, Nat.lt_succ_self m, hN⟩, s2, Im2, R2, o1, s3, e4, fun Im3 σ3 H3 R3 st3 => ?_⟩
      have st13 := st12.trans st3
      cases o1 with
      | nx => exact ⟨s3, Im3, R3, st13, e5⟩
      | brk =>
        cases e5
        exact k Im3 σ3 H3 R3 st13
      | ret w =>
        cases e5
        exact fun v hw => k Im3 σ3 H3 R3 st13 v (hw.early fun p n => none_of_there st12.there n)
    | false =>
      simp only [Bool.false_eq_true, if_false, Option.pure_def, Option.some.injEq, Prod.mk.injEq] at e3 ⊢
      obtain ⟨rfl, rfl⟩ := e3
      exact k Im2 σ1 H2 R2 st12
/-- what is walked is not changed within -/
theorem walked_free {s3 s4 : Sg} {kk : ItK} {u : W} {r q : RV} {xs : List D} {v' : V} {j : Nat} {k' : Mode} {c' : Cell} {fb : Sg → Option (W × Sg)} (R2 : Rel K σ Im1 H1 s2) (e2 : twoE kk.two fb s1 = some (u, s2)) (e3 : val s2 w = some r) (e4 : val s2 u = some q) (e5 : walkL kk r q = some xs)
    (e7 : lockW s2 w = some s3) (e8 : lockW s3 u = some s4) (x1 : WR K σ H0 Im1 H1 s2 w v) (x2 : WR K σ H0 Im1 H1 s2 u v') (hp : v = .ref p ∨ v' = .ref p) (hk : k' ≠ .lock) (f1 : s4[j]? = some (some (.m k' c'))) (f2 : σ[j]? = some (some (.ref p))) : False := by
  obtain ⟨k3, f3, f4⟩ := lockW_at e8 f1
  obtain ⟨hk3, f4'⟩ := f4 hk
  subst hk3
  obtain ⟨k2, f5, f6⟩ := lockW_at e7 f3
  obtain ⟨hk2, f6'⟩ := f6 hk
  subst hk2
  have pl := walkL_plain e5
  rcases hp with hp | hp
  · refine out1 R2 x1 hp f5 f2 f6' (fun i hi => by subst hi; exact lockW_own e7) fun m hm => ?_
    subst hm
    cases e3
    exact pl.1 _ rfl
  · refine out1 R2 x2 hp f5 f2 f4' (fun i hi => ?_) fun m hm => ?_
    · subst hi
      obtain ⟨k5, c5, h5⟩ := lockW_own e8
      obtain ⟨k6, h6, _⟩ := lockW_at e7 h5
      exact ⟨_, _, h6⟩
    · subst hm
      cases e4
      cases hk2 : kk.two with
      | true => exact pl.2 hk2 _ rfl
      | false =>
        rw [hk2] at e2
        cases e2
theorem WR.slots (h : WR K σ H0 Im H s w v) (g : ∀ (j : Nat) (k : Mode) (c : Cell), s'[j]? = some (some (.m k c)) → ∃ k0 c0, s[j]? = some (some (.m k0 c0))) : WR K σ H0 Im H s' w v := by
  cases h with
  | d r => exact .d r
  | own e => exact .own e
  | new h0 hc hi hn =>
    refine .new h0 hc hi fun j k c' f1 f2 => ?_
    obtain ⟨k0, c0, f3⟩ := g j k c' f1
    exact hn j k0 c0 f3 f2
theorem tex_for {t : Tgt} {kk : ItK} {ea eb : E} {b : S} (h : TEx K (ex sig cf (.for_ t kk ea eb b)) DE σ H) : tFor (TIt K kk (ev sig cf ea) (ev sig cf eb)) (TGt K t) (TEx K (ex sig cf b)) DE σ H := by
  obtain ⟨s, Im, R, o, s', e, k⟩ := h
  rw [ex] at e
  simp only [Option.bind_eq_bind, Option.bind_eq_some_iff, Option.pure_def] at e
  obtain ⟨⟨w1, s1⟩, e1, ⟨u, s2⟩, e2, r, e3, q, e4, xs, e5, s3, e7, s4, e8, ⟨o1, s5⟩, e9, s6, e10, s7, e11, e12⟩ := e
  simp only [Option.some.injEq, Prod.mk.injEq] at e12
  obtain ⟨rfl, rfl⟩ := e12
  refine ⟨s, Im, R, w1, s1, u, s2, r, q, xs, e1, e2, e3, e4, e5, fun Im1 v v' H1 J R2 st2 x1 x2 wk => ?_⟩
  have R3 := lockW_rel R2 e7
  have R4 := lockW_rel R3 e8
  -- behind the loop
  have out : ∀ {Im' : Hp} {σ' : St} {H' : Hp}, Rel K σ' Im' H' s5 → Sto (Tch σ s4) σ s4 Im1 H1 σ' s5 Im' H' → OutOk K σ' H Im' H' s7 DE o1 := fun {Im' σ' H'} R5 st5 => by
    have R6 := unlock_rel R5 e10
    have R7 := unlock_rel R6 e11
    have sto3 := lock_sto e8 st5 e10
    have sto2 := lock_sto e7 sto3 e11
    exact k Im' σ' H' R7 (st2.trans sto2)
  refine for_it wk (fun i σ' Hh => ∃ Im' sI, Rel K σ' Im' Hh sI ∧ Sto (Tch σ s4) σ s4 Im1 H1 σ' sI Im' Hh ∧ forGo (fun s => ex sig cf b s) t (xs.drop i) sI = some (o1, s5))
    ⟨Im1, s4, R4, .refl, e9⟩ (fun i σ' Hh hi ⟨Im', sI, RI, stI, eI⟩ => ?_) (fun i x σ' Hh H' hi ⟨Im', sI, RI, stI, eI⟩ y => ?_) (fun σ' Hh ⟨Im', sI, RI, stI, eI⟩ => ?_)
  · intro p o hp ho
    refine stI.keep p o ho fun ⟨j, k', c', hk, f1, f2⟩ => ?_
    exact walked_free R2 e2 e3 e4 e5 e7 e8 x1 x2 hp hk f1 f2
  · obtain ⟨Im2, d, g, hd, rd⟩ := y Im' stI.mono RI.sub
    have hdr : xs.drop i = d :: xs.drop (i + 1) := by
      obtain ⟨hl, rfl⟩ := List.getElem?_eq_some_iff.mp hd
      exact List.drop_eq_getElem_cons hl
    rw [hdr, forGo] at eI
    simp only [Option.bind_eq_bind, Option.bind_eq_some_iff] at eI
    obtain ⟨sb, hb, ⟨o2, sc⟩, hc, hgo⟩ := eI
    have R' := RI.grow g
    refine ⟨sI, Im2, R', d, sb, rd, hb, fun σ2 Rσ2 stb _ _ => ⟨sb, Im2, Rσ2, o2, sc, hc, fun Im3 σ3 H3 R3' st3 => ?_⟩⟩
    have st1 := (stI.grow g).trans stb
    have st13 := st1.trans st3
    cases o2 with
    | nx => exact ⟨Im3, sc, R3', st13, hgo⟩
    | brk =>
      cases hgo
      exact out R3' st13
    | ret w =>
      cases hgo
      intro v hw
      have hw1 : WR K σ3 H Im3 H3 sc w v := (hw.early fun p n => none_of_there st1.there n).early fun p n => none_of_there st2.there n
      refine out R3' st13 v (hw1.slots fun j k c f => ?_)
      obtain ⟨k1, f3⟩ := unlock_at e11 f
      obtain ⟨k2, f4⟩ := unlock_at e10 f3
      exact ⟨k2, _, f4⟩
  · rw [List.drop_length, forGo] at eI
    cases eI
    exact out RI stI
end
end PV
namespace PV
open PySem PySem.Spec PyProof.Rows L2 SrtO
def plainO : D → Bool
  | .int _ => true
  | .tuple _ => true
  | _ => false
theorem plainO_of {a b : D} (h : cmpOk a b = true) : plainO a = true := by
  rcases cmpOk_cases h with ⟨i, j, rfl, _⟩ | ⟨xs, ys, rfl, _, _⟩ <;> rfl
def firstD : D → Option D
  | .tuple (x :: _) => some x
  | _ => none
def tyD : D → String
  | .int _ => "int"
  | _ => "tuple"
section
variable {M : Model} {A : Around} {s : Shared}
theorem typeOf_data {d : D} {v : Value} {as : List Addr} (r : Reads s.heap v d as) (p : plainO d = true) {Q : Value → Shared → Prop} {E : Value → Shared → Prop} (h : Q (.type (tyD d)) s) : wpAny M A (typeOf v) Q E s := by
  cases r with
  | int i t => exact wpAny_typeOf (typeIs_int s i t) h
  | tuple h1 h2 h3 h4 => exact wpAny_typeOf ⟨_, h1, h2⟩ h
  | _ => simp [plainO] at p
inductive FirstsR (h : Heap) : List D → List (Option Value) → Prop
  | nil : FirstsR h [] []
  | no {d : D} {ds fs} : firstD d = none → FirstsR h ds fs → FirstsR h (d :: ds) (none :: fs)
  | yes {d x : D} {v : Value} {as ds fs} : firstD d = some x → Reads h v x as → FirstsR h ds fs → FirstsR h (d :: ds) (some v :: fs)
theorem firsts_data : ∀ (ds : List D) (vs : List Value) (as : List Addr), ReadsAll s.heap vs ds as → (∀ d ∈ ds, plainO d = true) →
    ∃ fs, FirstsR s.heap ds fs ∧ ∀ (Q : List (Option Value) → Shared → Prop) (E : Value → Shared → Prop), Q fs s → wpAny M A (vs.mapM firstOfTuple') Q E s
  | [], _, _, .nil, _ => ⟨[], .nil, fun Q E h => by rw [List.mapM_nil]; exact wpAny_pure h⟩
  | d :: ds, _, _, .cons (v := v) (vs := vs) r t, hp => by
    obtain ⟨fs, h1, h2⟩ := firsts_data ds vs _ t fun d hd => hp d (List.mem_cons_of_mem _ hd)
    have p := hp d (List.mem_cons_self ..)
    cases d with
    | int i =>
      refine ⟨none :: fs, .no rfl h1, fun Q E h => ?_⟩
      rw [List.mapM_cons]
      refine wpAny_bind ?_
      rw [PySem.W.kas_first_eq]
      refine wpAny_bind (typeOf_data r p ?_)
      rw [if_pos (by show (Value.type "int" != Value.type "tuple") = true; decide)]
      exact wpAny_pure (wpAny_bind (h2 _ E (wpAny_pure h)))
    | tuple xs =>
      cases r with
      | @tuple a o its n _ bs k1 k2 k3 k4 =>
        have e : ∀ (Q : Option Value → Shared → Prop) (E : Value → Shared → Prop), Q its[0]? s → wpAny M A (firstOfTuple' (.ref a)) Q E s := fun Q E h => by
          rw [PySem.W.kas_first_eq]
          refine wpAny_bind (wpAny_typeOf ⟨_, k1, k2⟩ ?_)
          rw [if_neg (by decide)]
          exact wpAny_bind (listItems_at k1 k3 (wpAny_pure h))
        have back : ∀ (f : Option Value), its[0]? = f → ∀ (Q : List (Option Value) → Shared → Prop) (E : Value → Shared → Prop), Q (f :: fs) s → wpAny M A ((Value.ref a :: vs).mapM firstOfTuple') Q E s := fun f hf Q E h => by
          rw [List.mapM_cons]
          refine wpAny_bind (e _ _ ?_)
          rw [hf]
          exact wpAny_bind (h2 _ E (wpAny_pure h))
        cases xs with
        | nil =>
          have hz : its.toList = [] := by cases hq : its.toList with
            | nil => rfl
            | cons _ _ => rw [hq] at k4; cases k4
          refine ⟨none :: fs, .no rfl h1, back none ?_⟩
          rw [← Array.getElem?_toList, hz]; rfl
        | cons x xs =>
          obtain ⟨w, ws, hz⟩ : ∃ w ws, its.toList = w :: ws := by cases hq : its.toList with
            | nil => rw [hq] at k4; cases k4
            | cons a b => exact ⟨a, b, rfl⟩
          rw [hz] at k4
          cases k4 with
          | cons q1 q2 =>
            refine ⟨some w :: fs, .yes rfl q1 h1, back (some w) ?_⟩
            rw [← Array.getElem?_toList, hz]; rfl
    | _ => simp [plainO] at p
theorem oneType_data {T : String} (vs : List Value) (hne : vs ≠ []) (h : ∀ v ∈ vs, ∀ (Q : Value → Shared → Prop) (E : Value → Shared → Prop), Q (.type T) s → wpAny M A (typeOf v) Q E s) {Q : Option Value → Shared → Prop} {E : Value → Shared → Prop} (q : Q (some (.type T)) s) :
    wpAny M A (oneTypeOnly' vs.toArray) Q E s := by
  obtain ⟨v, r, rfl⟩ : ∃ v r, vs = v :: r := by cases vs with
    | nil => exact absurd rfl hne
    | cons a b => exact ⟨a, b, rfl⟩
  rw [oneTypeOnly'_eq, List.mapM_toArray, map_eq_pure_bind]
  refine wpAny_bind (wpAny_bind (PySem.W.kas_mapM (r := Value.type T) _ (fun v hv Q' hq => h v hv Q' E hq) (wpAny_pure ?_)))
  have hall : ((List.map (fun _ => Value.type T) (v :: r)).toArray.all fun x => x == Value.type T) = true := by
    simp only [List.all_toArray, List.all_map, List.all_eq_true]
    intro _ _
    exact beq_self_eq_true _
  have h0 : (List.map (fun _ => Value.type T) (v :: r)).toArray[0]? = some (Value.type T) := by simp
  rw [h0]
  simp only [hall, if_true]
  exact wpAny_pure q
/-- what the sort finds out of its keys -/
inductive KindR (ds : List D) : SortKind → Prop
  | one : KindR ds oneType'
  | gen : KindR ds general'
  | tups {b : Bool} : (∀ d ∈ ds, ∃ x xs, d = .tuple (x :: xs) ∧ (b = true → isInt x = true)) → KindR ds (tuples' b)
theorem FirstsR.len {h : Heap} : ∀ {ds : List D} {fs : List (Option Value)}, FirstsR h ds fs → fs.length = ds.length
  | _, _, .nil => rfl
  | _, _, .no _ t => by rw [List.length_cons, List.length_cons, t.len]
  | _, _, .yes _ _ t => by rw [List.length_cons, List.length_cons, t.len]
theorem FirstsR.all {h : Heap} : ∀ {ds : List D} {fs : List (Option Value)}, FirstsR h ds fs → (fs.all (·.isSome)) = true → ∃ (xs : List D) (ws : List Value) (as : List Addr), fs = ws.map some ∧ ReadsAll h ws xs as ∧ ds.map firstD = xs.map some
  | _, _, .nil, _ => ⟨[], [], _, rfl, .nil, rfl⟩
  | _, _, .no _ _, e => by simp at e
  | _, _, .yes h1 r t, e => by
    rw [List.all_cons, Bool.and_eq_true] at e
    obtain ⟨xs, ws, as, e1, e2, e3⟩ := t.all e.2
    exact ⟨_ :: xs, _ :: ws, _, by rw [e1]; rfl, .cons r e2, by rw [List.map_cons, List.map_cons, h1, e3]⟩
theorem readsAll_mem {h : Heap} : ∀ {vs : List Value} {ds : List D} {as : List Addr} {v : Value}, ReadsAll h vs ds as → v ∈ vs → ∃ d bs, d ∈ ds ∧ Reads h v d bs
  | _, _, _, _, .nil, e => nomatch e
  | _, _, _, v, .cons r t, e => by
    rcases List.mem_cons.mp e with rfl | e
    · exact ⟨_, _, List.mem_cons_self .., r⟩
    · obtain ⟨d, bs, h1, h2⟩ := readsAll_mem t e
      exact ⟨d, bs, List.mem_cons_of_mem _ h1, h2⟩
theorem kind_data {ds : List D} {vs : List Value} {as : List Addr} (r : ReadsAll s.heap vs ds as) (h2 : 2 ≤ vs.length) (hc : ∀ x ∈ ds, ∀ y ∈ ds, cmpOk x y = true) :
    ∃ κ, KindR ds κ ∧ ∀ (Q : SortKind → Shared → Prop) (E : Value → Shared → Prop), Q κ s → wpAny M A (keyKind' vs.toArray) Q E s := by
  have hl := SeqAt.ReadsAll.length _ _ _ r
  have hp : ∀ d ∈ ds, plainO d = true := fun d hd => plainO_of (hc d hd d hd)
  obtain ⟨fs, hf, hw⟩ := firsts_data (M := M) (A := A) ds vs as r hp
  have hfl := hf.len
  have go : ∀ κ, (∀ (Q : SortKind → Shared → Prop) (E : Value → Shared → Prop), Q κ s → wpAny M A (do
      if fs.toArray.all (·.isSome) then
        rule "list.sort.keys-are-tuples"
        return tuples' ((← oneTypeOnly' (fs.toArray.filterMap id)).any (· != .type "tuple"))
      if (fs.toArray[0]?.bind id).isSome then return general'
      return if (← oneTypeOnly' vs.toArray).isSome then oneType' else general') Q E s) → ∀ (Q : SortKind → Shared → Prop) (E : Value → Shared → Prop), Q κ s → wpAny M A (keyKind' vs.toArray) Q E s := fun κ h Q E q => by
    rw [kat_kind_eq, List.mapM_toArray, map_eq_pure_bind]
    exact wpAny_bind (wpAny_bind (hw _ _ (wpAny_pure (h Q E q))))
  by_cases hall : fs.toArray.all (·.isSome) = true
  · -- no empty one
    have hall' : fs.all (·.isSome) = true := by simpa using hall
    obtain ⟨xs, ws, bs, rfl, rx, ex⟩ := hf.all hall'
    have hxl : xs.length = ds.length := by have := congrArg List.length ex; simpa using this.symm
    have getT : ∀ (j : Nat) (d : D), ds[j]? = some d → ∃ x r, d = .tuple (x :: r) ∧ xs[j]? = some x := fun j d hj => by
      have e : (ds.map firstD)[j]? = (xs.map some)[j]? := by rw [ex]
      rw [List.getElem?_map, List.getElem?_map, hj] at e
      cases hq : xs[j]? with
      | none => rw [hq] at e; cases e
      | some x =>
        rw [hq] at e
        have e' : firstD d = some x := Option.some.inj e
        cases d with
        | tuple ys =>
          cases ys with
          | nil => cases e'
          | cons y r =>
            have : y = x := Option.some.inj e'
            exact ⟨x, r, by rw [this], rfl⟩
        | _ => cases e'
    have hxc : ∀ x ∈ xs, ∀ y ∈ xs, cmpOk x y = true := fun x hx y hy => by
      obtain ⟨i, hi⟩ := List.mem_iff_getElem?.mp hx
      obtain ⟨j, hj⟩ := List.mem_iff_getElem?.mp hy
      have il := (List.getElem?_eq_some_iff.mp hi).1
      have jl := (List.getElem?_eq_some_iff.mp hj).1
      obtain ⟨x', r, e1, e2⟩ := getT i ds[i] (List.getElem?_eq_getElem (by omega))
      obtain ⟨y', r', e3, e4⟩ := getT j ds[j] (List.getElem?_eq_getElem (by omega))
      rw [hi] at e2; cases e2
      rw [hj] at e4; cases e4
      have q := hc ds[i] (List.getElem_mem (by omega)) ds[j] (List.getElem_mem (by omega))
      rw [e1, e3, cmpOk, cmpOks, Bool.and_eq_true] at q
      exact q.1
    have hx0 : 0 < xs.length := by omega
    have hx0' : xs[0] ∈ xs := List.getElem_mem hx0
    have hws : ws ≠ [] := fun e => by
      subst e
      cases rx
      simp at hx0
    have hty : ∀ x ∈ xs, tyD x = tyD xs[0] := fun x hx => by
      rcases cmpOk_cases (hxc x hx xs[0] hx0') with ⟨i, j, e1, e2⟩ | ⟨a, b, e1, e2, _⟩ <;> rw [e1, e2] <;> rfl
    have hfm : (List.map some ws).toArray.filterMap id = ws.toArray := by simp
    refine ⟨tuples' (Value.type (tyD xs[0]) != Value.type "tuple"), .tups fun d hd => ?_, go _ fun Q E q => ?_⟩
    · obtain ⟨j, hj⟩ := List.mem_iff_getElem?.mp hd
      obtain ⟨x, r', e1, e2⟩ := getT j d hj
      refine ⟨x, r', e1, fun hb => ?_⟩
      rcases cmpOk_cases (hxc x (List.mem_of_getElem? e2) xs[0] hx0') with ⟨i, k, e3, e4⟩ | ⟨a, b, e3, e4, _⟩
      · rw [e3]; rfl
      · rw [e4] at hb
        exact absurd hb (by show ¬ (Value.type "tuple" != Value.type "tuple") = true; decide)
    · rw [if_pos hall, hfm]
      refine wpAny_bind (wpAny_rule (wpAny_bind (oneType_data (T := tyD xs[0]) ws hws (fun v hv Q' E' q' => ?_) (wpAny_pure q))))
      obtain ⟨x, bs', hx, rv⟩ := readsAll_mem rx hv
      exact typeOf_data rv (plainO_of (hxc x hx x hx)) (by rw [hty x hx]; exact q')
  · by_cases h1 : (fs.toArray[0]?.bind id).isSome = true
    · refine ⟨general', .gen, go _ fun Q E q => ?_⟩
      rw [if_neg hall, if_pos h1]
      exact wpAny_pure q
    · have hd0 : 0 < ds.length := by omega
      have hty : ∀ x ∈ ds, tyD x = tyD ds[0] := fun x hx => by
        rcases cmpOk_cases (hc x hx ds[0] (List.getElem_mem hd0)) with ⟨i, j, e1, e2⟩ | ⟨a, b, e1, e2, _⟩ <;> rw [e1, e2] <;> rfl
      refine ⟨oneType', .one, go _ fun Q E q => ?_⟩
      rw [if_neg hall, if_neg h1]
      refine wpAny_bind (oneType_data (T := tyD ds[0]) vs (fun e => by subst e; simp at h2) (fun v hv Q' E' q' => ?_) (wpAny_pure q))
      obtain ⟨x, bs', hx, rv⟩ := readsAll_mem r hv
      exact typeOf_data rv (hp x hx) (by rw [hty x hx]; exact q')
variable {prog : Program} {w : World} {E : Value → Shared → Prop}
/-- tuples' own less-than, called -/
theorem lt_called {n : Nat} {a b : List D} {v u : Value} {as bs : List Addr} {Q : Value → Shared → Prop} (hu : A.units + (n + 1) < cLine) (oa : okDs a n = true) (ob : okDs b n = true) (la : PyData.canLayAll0 a = true) (lb : PyData.canLayAll0 b = true) (hc : cmpOks a b = true)
    (ra : Reads s.heap v (.tuple a) as) (rb : Reads s.heap u (.tuple b) bs) (h : Q (.bool (ltDs a b)) s) : s.TypeIs v "tuple" ∧ wpAny (model prog w) A (call (.builtin "tuple.__lt__") [v, u]) Q E s := by
  cases ra with
  | @tuple l o its m _ as₁ h1 h2 h3 h4 =>
    cases rb with
    | @tuple l' o' its' m' _ bs₁ k1 k2 k3 k4 =>
      refine ⟨⟨_, h1, h2⟩, ?_⟩
      obtain ⟨cls, dd, data, sl⟩ := o
      obtain ⟨cls2, dd2, data2, sl2⟩ := o'
      simp only at h2 h3 k2 k3
      subst h2 h3 k2 k3
      have n1 : its.size = a.length := by simpa using SeqAt.ReadsAll.length _ _ _ h4
      have n2 : its'.size = b.length := by simpa using SeqAt.ReadsAll.length _ _ _ k4
      have z := lexAt_ds .Lt a b (fun j => eqD (a.getD j .none) (b.getD j .none)) (fun j => opB .Lt (ltD (a.getD j .none) (b.getD j .none)) (ltD (b.getD j .none) (a.getD j .none))) 0 (fun j x y e1 e2 => by simp [List.getD, e1, e2]) (fun j x y e1 e2 _ => by simp [List.getD, e1, e2])
      have z : Ob.lexAt (fun j => eqD (a.getD j .none) (b.getD j .none)) (fun j => opB .Lt (ltD (a.getD j .none) (b.getD j .none)) (ltD (b.getD j .none) (a.getD j .none))) (decide (its.size < its'.size)) 0 (min its.size its'.size) = ltDs a b := by rw [n1, n2]; exact z
      refine call_meets F.slot_tuple_lt ⟨_, h1, rfl⟩ F.entry_tuple_lt (F.args_tuple_lt_2 _ _) (Ob.tuple_ltAt l l' its its' m m' dd dd2 sl sl2 (fun j => eqD (a.getD j .none) (b.getD j .none)) (fun j => opB .Lt (ltD (a.getD j .none) (b.getD j .none)) (ltD (b.getD j .none) (a.getD j .none)))) ⟨h1, k1, fun j j1 j2 => ?_, fun j j1 j2 _ => ?_, by rw [z]; exact h⟩
      · have jx : j < a.length := by omega
        have jy : j < b.length := by omega
        have q := SeqAt.eqAt_readsAll a b A.in1 s its.toList its'.toList _ _ h4 k4 la lb (by
          have := okDs_depth a n oa
          show A.units + 1 + min (PyData.depthAll a) (PyData.depthAll b) < cLine
          omega) j (by simpa using j1) (by simpa using j2)
        have e1 : SeqAt.pairEq a b j = eqD (a.getD j .none) (b.getD j .none) := by
          show PyData.eqv _ _ = _
          refine eqv_eq _ _ (n := n) (m := n) (okDs_get (j := j) oa ?_) (okDs_get (j := j) ob ?_)
          · rw [List.getD_eq_getElem?_getD, List.getElem?_eq_getElem jx]; rfl
          · rw [List.getD_eq_getElem?_getD, List.getElem?_eq_getElem jy]; rfl
        rw [e1] at q
        simpa using q
      · obtain ⟨d, ds, d1, d2⟩ := readsAll_at (j := j) (v := its[j]) h4 (by simp [j1])
        obtain ⟨d', ds', d1', d2'⟩ := readsAll_at (j := j) (v := its'[j]) k4 (by simp [j2])
        have z := rc_data (op := .Lt) rfl n A.in1 s d d' _ _ ds ds' (by show A.units + 1 + n < cLine; omega) (okDs_get oa d1) (okDs_get ob d1') (lay_get la d1) (lay_get lb d1') (cmpOks_get hc d1 d1') d2 d2'
        have e1 : a.getD j .none = d := by simp [List.getD, d1]
        have e2 : b.getD j .none = d' := by simp [List.getD, d1']
        rw [e1, e2]
        exact z
theorem one_data {n : Nat} {d e : D} {v u : Value} {as bs : List Addr} (hu : A.units + (n + 1) < cLine) (od : okD d (n + 1) = true) (oe : okD e (n + 1) = true) (ld : d.canLay0 = true) (le : e.canLay0 = true) (hc : cmpOk d e = true) (rd : Reads s.heap v d as) (re : Reads s.heap u e bs) (t : Bool) {Q : Bool → Shared → Prop} (h : Q (ltD d e) s) : wpAny (model prog w) A (oneLt' t v u) Q E s := by
  rcases cmpOk_cases hc with ⟨i, j, rfl, rfl⟩ | ⟨xs, ys, rfl, rfl, hcs⟩
  · cases rd
    cases re
    exact TS.oneLt_ints t h
  · cases t with
    | false =>
      have R := rc_data (op := .Lt) rfl (n + 1) A s _ _ v u as bs hu od oe ld le hc rd re
      exact PySem.W.kat_one _ _ (R prog w E _ h)
    | true =>
      rw [okD] at od oe
      rw [PyData.canLay0] at ld le
      rw [oneLt'_eq]
      simp only [if_true]
      refine wpAny_bind (wpAny_cRoomFor (by omega) ?_)
      have L := lt_called (prog := prog) (w := w) (E := E) (Q := fun r s' => wpAny (model prog w) A (do
        match (some r : Option Value) with
          | some .notImplemented | none => rule "list.sort.lt-declined"
          | some r => return ← truthOfDropped r
        truthOfDropped (← richCompare .Lt v u)) Q E s') (n := n) (by omega) od oe ld le hcs rd re (wpAny_truthy_bool h)
      exact wpAny_bind (wpAny_callSpecialIfBound?_slot L.1 F.slot_tuple_lt L.2)
theorem katlex_data {n : Nat} {b fin : Bool} {Q : Bool → Shared → Prop} : ∀ (xs ys : List D) (vs us : List Value) (as bs : List Addr) (i : Nat), A.units + (n + 1) < cLine → okDs xs (n + 1) = true → okDs ys (n + 1) = true → PyData.canLayAll0 xs = true → PyData.canLayAll0 ys = true → cmpOks xs ys = true →
    ReadsAll s.heap vs xs as → ReadsAll s.heap us ys bs → fin = decide (xs.length < ys.length) → Q (ltDs xs ys) s → PySem.W.KatLex prog w A b fin Q (vs.zip us) i s
  | [], ys, vs, us, as, bs, i, hu, ox, oy, lx, ly, hc, rx, ry, hf, hq => by
    cases rx
    refine PySem.W.kat_nil ?_
    subst hf
    cases ys with
    | nil => exact hq
    | cons _ _ => exact hq
  | x :: xs, [], vs, us, as, bs, i, hu, ox, oy, lx, ly, hc, rx, ry, hf, hq => by
    cases ry
    rw [List.zip_nil_right]
    refine PySem.W.kat_nil ?_
    subst hf
    exact hq
  | x :: xs, y :: ys, vs, us, as, bs, i, hu, ox, oy, lx, ly, hc, rx, ry, hf, hq => by
    cases rx with
    | cons rx1 rx2 =>
      cases ry with
      | cons ry1 ry2 =>
        rw [okDs, Bool.and_eq_true] at ox oy
        rw [PyData.canLayAll0, Bool.and_eq_true] at lx ly
        rw [cmpOks, Bool.and_eq_true] at hc
        rw [List.zip_cons_cons]
        have hd := okD_depth x (n + 1) ox.1
        refine PySem.W.kat_cons ((SeqAt.eqAt_reads x y A s _ _ _ _ rx1 ry1 lx.1 ly.1 (by omega)) prog w _ _ ?_)
        rw [eqv_eq x y ox.1 oy.1]
        rw [ltDs] at hq
        refine PySem.W.kat_go (fun e => ?_) (fun e => ?_)
        · rw [if_pos e] at hq
          refine PySem.W.kat_yes (katlex_data xs ys _ _ _ _ (i + 1) hu ox.2 oy.2 lx.2 ly.2 hc.2 rx2 ry2 ?_ hq)
          rw [hf]
          exact decide_eq_decide.mpr (by simp)
        · rw [if_neg (by rw [e]; exact Bool.false_ne_true)] at hq
          exact PySem.W.kat_no (one_data hu ox.1 oy.1 lx.1 ly.1 hc.1 rx1 ry1 _ hq)
theorem key_data {n : Nat} {ds : List D} {κ : SortKind} (hk : KindR ds κ) {d e : D} {v u : Value} {as bs : List Addr} (hu : A.units + (n + 2) < cLine) (hd : d ∈ ds) (he : e ∈ ds) (od : okD d (n + 2) = true) (oe : okD e (n + 2) = true) (ld : d.canLay0 = true) (le : e.canLay0 = true) (hc : cmpOk d e = true)
    (rd : Reads s.heap v d as) (re : Reads s.heap u e bs) {Q : Bool → Shared → Prop} (h : Q (ltD d e) s) : wpAny (model prog w) A (keyLt' κ v u) Q E s := by
  cases hk with
  | one =>
    rw [keyLt'_oneType]
    exact one_data (n := n + 1) hu od oe ld le hc rd re true h
  | gen =>
    show wpAny (model prog w) A (oneLt' false v u) Q E s
    exact one_data (n := n + 1) hu od oe ld le hc rd re false h
  | @tups b ht =>
    obtain ⟨x, xs, rfl, _⟩ := ht d hd
    obtain ⟨y, ys, rfl, _⟩ := ht e he
    rw [okD] at od oe
    rw [PyData.canLay0] at ld le
    rw [cmpOk] at hc
    cases rd with
    | @tuple l o its m _ as₁ h1 h2 h3 h4 =>
      cases re with
      | @tuple l' o' its' m' _ bs₁ k1 k2 k3 k4 =>
        have n1 : its.size = (x :: xs).length := by simpa using SeqAt.ReadsAll.length _ _ _ h4
        have n2 : its'.size = (y :: ys).length := by simpa using SeqAt.ReadsAll.length _ _ _ k4
        refine PySem.W.kat_lt h1 h3 k1 k3 ?_
        exact katlex_data (n := n) (x :: xs) (y :: ys) _ _ _ _ 0 (by omega) od oe ld le hc h4 k4 (by rw [n1, n2]) h
end
section
variable {K : Frag} {H : Hp}
mutual
theorem Rp.inj : ∀ {d e : D} {v : V} {n m : Nat}, Rp K H v d → Rp K H v e → okD d n = true → okD e m = true → d = e
  | _, _, _, _, _, .non, r, _, _ => by cases r; rfl
  | _, _, _, _, _, .bl b, r, _, _ => by cases r; rfl
  | _, _, _, _, _, .int i, r, _, _ => by cases r; rfl
  | _, _, _, _, _, .str x _ _, r, _, _ => by cases r; rfl
  | .list xs, e, _, n, m, .lst s q, r, hd, he => by
    cases r with
    | lst s' q' =>
      rw [s] at s'
      cases s'
      cases n with
      | zero => simp [okD] at hd
      | succ n =>
        cases m with
        | zero => simp [okD] at he
        | succ m =>
          rw [okD] at hd he
          rw [RpAll.inj q q' hd he]
    | tup s' q' => exact (s'.notlst s).elim
    | scr _ => simp [okD] at he
    | emp _ => simp [okD] at he
  | .tuple xs, e, _, n, m, .tup s q, r, hd, he => by
    cases r with
    | tup s' q' =>
      have es := s.one s'
      subst es
      cases n with
      | zero => simp [okD] at hd
      | succ n =>
        cases m with
        | zero => simp [okD] at he
        | succ m =>
          rw [okD] at hd he
          rw [RpAll.inj q q' hd he]
    | lst s' q' => exact (s.notlst s').elim
    | scr _ => simp [okD] at he
    | emp _ => simp [okD] at he
  | _, _, _, _, _, .scr _, _, hd, _ => by simp [okD] at hd
  | _, _, _, _, _, .emp _, _, hd, _ => by simp [okD] at hd
theorem RpAll.inj : ∀ {ds es : List D} {vs : List V} {n m : Nat}, RpAll K H vs ds → RpAll K H vs es → okDs ds n = true → okDs es m = true → ds = es
  | _, _, _, _, _, .nil, r, _, _ => by cases r; rfl
  | _, _, _, _, _, .cons q t, r, hd, he => by
    cases r with
    | cons q' t' =>
      rw [okDs, Bool.and_eq_true] at hd he
      rw [Rp.inj q q' hd.1 he.1, RpAll.inj t t' hd.2 he.2]
end
/-- values, data and objects side by side -/
theorem triples {h : Heap} : ∀ {vs : List V} {ds : List D} {its : List Value} {as : List Addr}, RpAll K H vs ds → Vals vs its → ReadsAll h its ds as →
    ∃ T : List (V × D × Value), T.map (·.1) = vs ∧ T.map (·.2.1) = ds ∧ T.map (·.2.2) = its ∧ ∀ t ∈ T, Rp K H t.1 t.2.1 ∧ RelV t.1 t.2.2 ∧ ∃ bs, Reads h t.2.2 t.2.1 bs
  | _, _, _, _, .nil, .nil, .nil => ⟨[], rfl, rfl, rfl, fun _ h => nomatch h⟩
  | _, _, _, _, .cons (v := v) (d := d) r t, .cons (b := u) q t', .cons z t'' => by
    obtain ⟨T, h1, h2, h3, h4⟩ := triples t t' t''
    refine ⟨(v, d, u) :: T, by rw [List.map_cons, h1], by rw [List.map_cons, h2], by rw [List.map_cons, h3], fun t ht => ?_⟩
    rcases List.mem_cons.mp ht with rfl | ht
    · exact ⟨r, q, _, z⟩
    · exact h4 t ht
end
section
variable {X : Cx}
/-- what sorted of a sequence's items asks -/
def SortsTo (X : Cx) (s : Shared) (p : Addr) (its : List Value) : Prop := ∀ (ltv : Value → Value → Bool) (Q : Value → Shared → Prop), Swo ltv →
  (2 ≤ its.length → ∀ (tk : Tok) (h₁ : Heap) (a : Addr), h₁.get? a = some (seqObj "list" its.toArray 0) → (∀ b o, s.heap.get? b = some o → b ≠ a ∧ h₁.get? b = some o) → SortableO X.prog X.w X.A.in1.in1 { s with heap := h₁, toks := tk } a its ltv) →
  (∀ (out : List Value) (h0 h' : Heap) (tk : Tok) (p' : Addr) (c : Nat), Srtd ltv out → Stb ltv out its → (∀ b o, s.heap.get? b = some o → h0.get? b = some o) → (∀ b o, h0.get? b = some o → h'.get? b = some o) → h0.objs.size ≤ p' → h'.get? p' = some (seqObj "list" out.toArray c) → Q (.ref p') { s with heap := h', toks := tk }) → wpAny (model X.prog X.w) X.A (call (.builtin "sorted") [.ref p]) Q X.xe s
open Classical in
theorem c_sortedG (hu : X.A.units + 64 < cLine) {pins : List (Addr × Obj)} {s : Shared} {σ : L2.St} {H Im : Hp} {p : Addr} {vs : List V} {its : List Value} {ds : List D} {Q : VK} (I : Inv X pins σ H s) (hs : Sub Im H) (rv : Vals vs its) (hz : vs.length ≤ sizeLine) (so : SortsTo X s p its) (ra : RpAll X.K Im vs ds) (hc : cmpAll ds = true)
    (wt : Wants X.K Im H (.new (.lst (sortD ltB ds))) Q) : wpAny (model X.prog X.w) X.A (call (.builtin "sorted") [.ref p]) (EP X pins σ Q) X.xe s := by
  unfold cmpAll at hc
  rw [Bool.and_eq_true] at hc
  obtain ⟨ok20, hc⟩ := hc
  have hc : ∀ x ∈ ds, ∀ y ∈ ds, cmpOk x y = true := fun x hx y hy => List.all_eq_true.mp (List.all_eq_true.mp hc x hx) y hy
  obtain ⟨as, rd⟩ := Dp.readsAll I ds vs its ((ra.mono hs).dp ok20) rv
  obtain ⟨T, h1, h2, h3, h4⟩ := triples ra rv rd
  have lay := (ra.lay ok20).1
  have mem : ∀ t ∈ T, t.2.1 ∈ ds := fun t ht => by rw [← h2]; exact List.mem_map_of_mem ht
  have ok1 : ∀ d ∈ ds, okD d 20 = true := fun d hd => by
    obtain ⟨j, hj⟩ := List.mem_iff_getElem?.mp hd
    exact okDs_get ok20 hj
  have lay1 : ∀ d ∈ ds, d.canLay0 = true := fun d hd => by
    obtain ⟨j, hj⟩ := List.mem_iff_getElem?.mp hd
    exact lay_get lay hj
  -- the data of an object
  let f : Value → D := fun v => if h : ∃ t ∈ T, t.2.2 = v then (Classical.choose h).2.1 else ds.headD (.int 0)
  have fT : ∀ t ∈ T, f t.2.2 = t.2.1 := fun t ht => by
    have hex : ∃ t' ∈ T, t'.2.2 = t.2.2 := ⟨t, ht, rfl⟩
    show (if h : ∃ t' ∈ T, t'.2.2 = t.2.2 then (Classical.choose h).2.1 else ds.headD (.int 0)) = t.2.1
    rw [dif_pos hex]
    obtain ⟨g1, g2⟩ := Classical.choose_spec hex
    have q1 := h4 _ g1
    have q2 := h4 t ht
    have ev : (Classical.choose hex).1 = t.1 := RelV.inj q1.2.1 (by rw [g2]; exact q2.2.1)
    exact Rp.inj (n := 20) (m := 20) q1.1 (by rw [ev]; exact q2.1) (ok1 _ (mem _ g1)) (ok1 _ (mem t ht))
  have fc : ∀ v u, cmpOk (f v) (f u) = true := by
    have fm : ∀ v, f v ∈ ds ∨ (ds = [] ∧ f v = .int 0) := fun v => by
      show (if h : ∃ t' ∈ T, t'.2.2 = v then (Classical.choose h).2.1 else ds.headD (.int 0)) ∈ ds ∨ (ds = [] ∧ (if h : ∃ t' ∈ T, t'.2.2 = v then (Classical.choose h).2.1 else ds.headD (.int 0)) = .int 0)
      by_cases hex : ∃ t' ∈ T, t'.2.2 = v
      · rw [dif_pos hex]
        exact .inl (mem _ (Classical.choose_spec hex).1)
      · rw [dif_neg hex]
        cases ds with
        | nil => exact .inr ⟨rfl, rfl⟩
        | cons d ds => exact .inl (List.mem_cons_self ..)
    intro v u
    rcases fm v with g1 | ⟨e1, g1⟩
    · rcases fm u with g2 | ⟨e2, g2⟩
      · exact hc _ g1 _ g2
      · rw [e2] at g1; cases g1
    · rcases fm u with g2 | ⟨e2, g2⟩
      · rw [e1] at g2; cases g2
      · rw [g1, g2]; rfl
  have O : Swo (fun v u => ltD (f v) (f u)) := ⟨fun x y h => ltD_asym _ _ h, fun x y z a b => le_trans3 (fc x y) (fc y z) (fc x z) a b⟩
  have inT : ∀ v ∈ its, ∃ t ∈ T, t.2.2 = v := fun v hv => by
    rw [← h3] at hv
    obtain ⟨t, ht, e⟩ := List.mem_map.mp hv
    exact ⟨t, ht, e⟩
  refine so _ _ O (fun h2' tk h₁ a ha kk h' keep => ?_) fun out h0 h' tk p' ep hsrt hstb kp0 kp hp' he' => ?_
  · have kp : ∀ b o, s.heap.get? b = some o → h'.get? b = some o := fun b o e => keep b o (kk b o e).1 (kk b o e).2
    obtain ⟨κ, hκ, hw⟩ := kind_data (M := model X.prog X.w) (A := X.A.in1.in1) (s := { s with heap := h', toks := tk }) (ReadsAll.keeps kp rd) h2' hc
    refine ⟨κ, hw, fun p q hm hm' => ?_⟩
    obtain ⟨t, ht, e⟩ := inT p.1 hm
    obtain ⟨t', ht', e'⟩ := inT q.1 hm'
    obtain ⟨bs, rt⟩ := (h4 t ht).2.2
    obtain ⟨bs', rt'⟩ := (h4 t' ht').2.2
    have m1 := mem t ht
    have m2 := mem t' ht'
    refine key_data (n := 18) (s := { s with heap := h', toks := tk }) hκ (by show X.A.units + 1 + 1 + (18 + 2) < cLine; omega) m1 m2 (ok1 _ m1) (ok1 _ m2) (lay1 _ m1) (lay1 _ m2) (hc _ m1 _ m2) (by rw [← e]; exact Reads.keeps kp rt) (by rw [← e']; exact Reads.keeps kp rt') ?_
    refine ⟨rfl, ?_⟩
    show ltD t.2.1 t'.2.1 = ltD (f p.1) (f q.1)
    rw [← e, ← e', fT t ht, fT t' ht']
  · obtain ⟨L, hL, eL⟩ := perm_lift (fun t : V × D × Value => t.2.2) hstb.perm T h3
    have memL : ∀ t ∈ L, t ∈ T := fun t ht => hL.mem_iff.mp ht
    have rL : RpAll X.K Im (L.map (·.1)) (L.map (·.2.1)) := by
      have : ∀ L : List (V × D × Value), (∀ t ∈ L, Rp X.K Im t.1 t.2.1) → RpAll X.K Im (L.map (·.1)) (L.map (·.2.1)) := by
        intro L
        induction L with
        | nil => intro _; exact .nil
        | cons t L ih => intro h; exact .cons (h t (List.mem_cons_self ..)) (ih fun t ht => h t (List.mem_cons_of_mem _ ht))
      exact this L fun t ht => (h4 t (memL t ht)).1
    have vL : Vals (L.map (·.1)) out := by
      rw [← eL]
      have : ∀ L : List (V × D × Value), (∀ t ∈ L, RelV t.1 t.2.2) → Vals (L.map (·.1)) (L.map fun t => t.2.2) := by
        intro L
        induction L with
        | nil => intro _; exact .nil
        | cons t L ih => intro h; exact .cons (h t (List.mem_cons_self ..)) (ih fun t ht => h t (List.mem_cons_of_mem _ ht))
      exact this L fun t ht => (h4 t (memL t ht)).2.1
    have eD : L.map (·.2.1) = sortD ltD ds := by
      refine sortD_is hc (by rw [← h2]; exact hL.map _) ?_
      rw [← eL] at hsrt
      have hp2 := List.pairwise_map.mp hsrt
      refine List.pairwise_map.mpr (hp2.imp_of_mem fun {t t'} ht ht' h => ?_)
      have h : ltD (f t'.2.2) (f t.2.2) = false := h
      rw [fT t (memL t ht), fT t' (memL t' ht')] at h
      exact h
    rw [← show L.map (·.2.1) = sortD ltB ds from eD] at wt
    have hlen : (L.map (·.1)).length ≤ sizeLine := by rw [List.length_map, hL.length_eq, ← List.length_map (f := fun t : V × D × Value => t.1), h1]; exact hz
    have I0 : Inv X pins σ H { s with heap := h0, toks := tk } := I.kept kp0
    exact ⟨.ref _, upd H p' (.lst (L.map (·.1))), I0.laid (t' := tk) kp hp' ⟨hlen, out, ep, vL, he'⟩, rfl, wt.lst hs rL _ (I0.hok.fresh hp')⟩
theorem collect_tup {prog : Program} {w : World} {A : Around} {E : Value → Shared → Prop} {s : Shared} {l : Addr} {vs : List Value} {Q : List Value → Shared → Prop} (hl : s.heap.IsTuple l vs.toArray)
    (h : Q vs { s with heap := (s.heap.push (seqObj "list" #[] 0)).update s.heap.objs.size (Obj.mapSeq (· ++ vs.toArray)) }) (hsz : vs.length ≤ sizeLine) :
    wpAny (model prog w) A (collect (.ref l)) Q E s := by
  obtain ⟨o, ho, hc, n, hd⟩ := id hl
  unfold collect
  refine wpAny_bind (wpAny_runValue (codeAny_builtin entry_proto_collect' ?_))
  show wpAny _ _ (do again (.builtin "list.__iadd__" ⟨[← newList [], .ref l], []⟩)) _ _ s
  refine wpAny_bind (wpAny_newList (wpAny_pure ⟨Code.quiet_builtin _ (by decide +kernel), codeAny_builtin entry_list_iadd' ?_⟩))
  show wpAny _ _ (Builtin.List.listExtendWith (.ref s.heap.objs.size) (.ref l) (.ref s.heap.objs.size)) _ _ { s with heap := s.heap.push (seqObj "list" #[] 0) }
  unfold Builtin.List.listExtendWith
  have ho' : (s.heap.push (seqObj "list" #[] 0)).get? l = some o := Heap.get?_push_of_some _ ho
  refine wpAny_bind (wpAny_typeOf (T := "tuple") ⟨o, ho', hc⟩ ?_)
  rw [if_pos (by rw [Bool.or_eq_true]; exact .inr rfl)]
  refine wpAny_bind (listItems_at ho' hd ?_)
  refine wpAny_bind (listItems_at (xs := #[]) (n := 0) (Heap.get?_push_size _ rfl) rfl ?_)
  rw [if_neg (by simp)]
  refine wpAny_bind (listUpdate_at (xs := #[]) (n := 0) (Heap.get?_push_size _ rfl) rfl ?_ (Nat.zero_le _) (by show (#[] ++ vs.toArray).size ≤ sizeLine + 1; simp only [Array.size_append, List.size_toArray, List.length_nil]; omega))
  refine wpAny_pure ?_
  show wpAny (model prog w) A (do
      let o ← load s.heap.objs.size
      match o.data with
      | .seq xs _ => pure xs.toList
      | _ => unsupported "internal:collect") Q E { s with heap := (s.heap.push (seqObj "list" #[] 0)).update s.heap.objs.size (Obj.mapSeq (· ++ vs.toArray)) }
  refine wpAny_bind (wpAny_load (get?_update_seq (Heap.get?_push_size _ rfl) _) ?_)
  show wpAny _ _ (pure ((#[] : Array Value) ++ vs.toArray).toList) Q E _
  rw [show ((#[] : Array Value) ++ vs.toArray).toList = vs by simp]
  exact wpAny_pure h
theorem sorted_ordT {prog : Program} {w : World} {A : Around} {E : Value → Shared → Prop} {s : Shared} {l : Addr} {vs : List Value} {ltv : Value → Value → Bool} {Q : Value → Shared → Prop} (O : Swo ltv) (hl : s.heap.IsTuple l vs.toArray) (hz : vs.length ≤ sizeLine)
    (hS : 2 ≤ vs.length → ∀ (h₁ : Heap) (a : Addr), h₁.get? a = some (seqObj "list" vs.toArray 0) → (∀ b o, s.heap.get? b = some o → b ≠ a ∧ h₁.get? b = some o) → SortableO prog w A.in1.in1 { s with heap := h₁ } a vs ltv)
    (h : ∀ out : List Value, Srtd ltv out → Stb ltv out vs → Q (.ref (s.heap.objs.size + 1)) { s with heap := sortedAll s.heap vs out.toArray }) :
    wpAny (model prog w) A (call (.builtin "sorted") [.ref l]) Q E s := by
  refine Calls.call_function_entry kind_sorted plain_sorted entry_sorted (args_sorted1 _) ?_
  unfold Builtin.«sorted»
  refine wpAny_bind (m := checkCount "sorted" 1 1 _) (wpAny_pure ?_)
  refine wpAny_bind (collect_tup hl ?_ hz)
  refine wpAny_bind (wpAny_newList ?_ hz)
  have hsz : ((s.heap.push (seqObj "list" #[] 0)).update s.heap.objs.size (Obj.mapSeq (· ++ vs.toArray))).objs.size = s.heap.objs.size + 1 := by
    rw [Heap.size_update, size_push']
  have hoL : (((s.heap.push (seqObj "list" #[] 0)).update s.heap.objs.size (Obj.mapSeq (· ++ vs.toArray))).push (seqObj "list" vs.toArray 0)).get? (s.heap.objs.size + 1) = some (seqObj "list" vs.toArray 0) := by
    rw [← hsz]; exact Heap.get?_push_size _ rfl
  have keep : ∀ b o, s.heap.get? b = some o → b ≠ s.heap.objs.size + 1 ∧ (((s.heap.push (seqObj "list" #[] 0)).update s.heap.objs.size (Obj.mapSeq (· ++ vs.toArray))).push (seqObj "list" vs.toArray 0)).get? b = some o := fun b o q => by
    have hlt : b < s.heap.objs.size := Heap.lt_size q
    refine ⟨Nat.ne_of_lt (Nat.lt_succ_of_lt hlt), Heap.get?_push_of_some _ ?_⟩
    rw [Heap.get?_update_ne _ _ _ _ (Nat.ne_of_lt hlt)]
    exact Heap.get?_push_of_some _ q
  show wpAny _ _ _ _ _ { s with heap := ((s.heap.push (seqObj "list" #[] 0)).update s.heap.objs.size (Obj.mapSeq (· ++ vs.toArray))).push (seqObj "list" vs.toArray 0) }
  rw [hsz]
  refine wpAny_bind (wpAny_holding (wpAny_call_entry slot_list_sort ⟨_, hoL, rfl⟩ entry_list_sort (list_sort_ord O hoL hz (fun h2 => hS h2 _ _ hoL keep) fun out hs hb => ⟨_, rfl, ?_⟩) (args_list_sort _)))
  exact wpAny_pure ⟨_, rfl, h out hs hb⟩
theorem c_sorted (hu : X.A.units + 64 < cLine) : CallR X (.builtin "sorted") (RC1 X.K .sorted) := by
  intro pins s σ H xs us Q I r h
  obtain ⟨x, rfl, Im, rv, w, hs, hr, e, wt⟩ := h
  change a1_sorted rv = some w at e
  unfold a1_sorted at e
  split at e
  · split at e
    · rename_i hc
      cases e
      obtain ⟨p, vs, rfl, hp, ra, _⟩ := hr.tuple hs
      rw [Vals.ref1 r]
      obtain ⟨its, rv, hl, hz⟩ := I.tuple hp.sq
      exact c_sortedG hu I hs rv hz (fun ltv Q O hS h => sorted_ordT O hl (by rw [← rv.length]; exact hz) (fun h2 => hS h2 s.toks) fun out a b => by
        obtain ⟨c, e⟩ := sortedAll_at s.heap its out.toArray
        exact h out _ _ s.toks _ c a b (fun _ _ e => e) (fun _ _ => sortedAll_old) (Nat.le_succ _) e) ra hc wt
    · cases e
  · split at e
    · rename_i hc
      cases e
      obtain ⟨p, vs, rfl, hp, ra⟩ := hr.list hs
      rw [Vals.ref1 r]
      obtain ⟨its, rv, hl, hz⟩ := I.list (SqL.of hp)
      exact c_sortedG hu I hs rv hz (fun ltv Q O hS h => sorted_ord O hl.isList (by rw [← rv.length]; exact hz) (fun h2 => hS h2 s.toks) fun out a b => by
        obtain ⟨c, e⟩ := sortedAll_at s.heap its out.toArray
        exact h out _ _ s.toks _ c a b (fun _ _ e => e) (fun _ _ => sortedAll_old) (Nat.le_succ _) e) ra hc wt
    · cases e
  · cases e
end
end PV
namespace PV
open PySem PySem.Spec PyProof.Rows L2
section
variable {X : Cx} {pins : List (Addr × Obj)} {σ : L2.St} {Im H : Hp} {s : Shared} {x y : V} {v u : Value} {ds : List D} {d : D} {Q : VK}
theorem find_congr {f g : D → Bool} : ∀ {xs : List D}, (∀ x ∈ xs, f x = g x) → xs.findIdx? f = xs.findIdx? g
  | [], _ => rfl
  | x :: xs, h => by
    rw [List.findIdx?_cons, List.findIdx?_cons, h x (List.mem_cons_self ..), find_congr fun y hy => h y (List.mem_cons_of_mem _ hy)]
theorem countP_congr' {f g : D → Bool} : ∀ {xs : List D}, (∀ x ∈ xs, f x = g x) → xs.countP f = xs.countP g
  | [], _ => rfl
  | x :: xs, h => by
    rw [List.countP_cons, List.countP_cons, h x (List.mem_cons_self ..), countP_congr' fun y hy => h y (List.mem_cons_of_mem _ hy)]
theorem okDs_mem : ∀ {ds : List D} {n : Nat}, okDs ds n = true → ∀ x ∈ ds, okD x n = true
  | [], _, _, _, h => by cases h
  | y :: ys, n, h, x, hx => by
    rw [okDs, Bool.and_eq_true] at h
    cases hx with
    | head => exact h.1
    | tail _ q => exact okDs_mem h.2 x q
theorem eqv_on {ds : List D} {d : D} (h1 : oks ds = true) (h2 : ok d = true) : ∀ x ∈ ds, PyData.eqv x d = eqD x d := fun x hx => eqv_eq x d (okDs_mem h1 x hx) h2
structure SeqR (X : Cx) (s : Shared) (kd : Bool) (v : Value) (ds : List D) (p : Addr) (its : List Value) (as : List Addr) : Prop where
  ref : v = .ref p
  is : IsK kd s.heap p its.toArray
  rd : ReadsAll s.heap its.toArray.toList ds as
  sz : its.length ≤ sizeLine
  pl : PyData.plainAll ds = true
  dp : PyData.depthAll ds ≤ 60
theorem seq_of {kd : Bool} {n : Nat} (hn : n ≤ 60) (I : Inv X pins σ H s) (hs : Sub Im H) (rx : RelV x v) (hx : RVR X.K Im H x (.d (sqD kd ds))) (ho : okDs ds n = true) : ∃ p its as vs, SeqR X s kd v ds p its as ∧ Vals vs its ∧ RpAll X.K Im vs ds := by
  obtain ⟨p, vs, rfl, hp, ra⟩ := rv_sq hs hx
  cases rx
  have hq : SqK kd X.K H p vs := hp.sq fun _ e => e
  obtain ⟨its, rv, is, _⟩ := seqK I hq
  have hz : vs.length ≤ sizeLine := by
    cases kd with
    | true => obtain ⟨_, _, _, hz⟩ := I.list hq; exact hz
    | false => obtain ⟨_, _, _, hz⟩ := I.tuple hq; exact hz
  obtain ⟨as, rd⟩ := Dp.readsAll I ds vs its ((ra.mono hs).dp ho) rv
  have l := ra.lay ho
  exact ⟨p, its, as, vs, ⟨rfl, is, by simpa using rd, by rw [← rv.length]; exact hz, PyData.plainAll_of_canLay0 _ l.1, Nat.le_trans l.2 hn⟩, rv, ra⟩
theorem one_of (I : Inv X pins σ H s) (hs : Sub Im H) (ry : RelV y u) (hy : RVR X.K Im H y (.d d)) (ho : ok d = true) : (∃ bs, Reads s.heap u d bs) ∧ d.plain = true ∧ d.depth ≤ 60 := by
  have r := hy.now hs
  have l := r.lay ho
  exact ⟨Dp.reads I d y u (r.dp ho) ry, PyData.plain_of_canLay0 _ l.1, l.2⟩
/-- the rule of a method of a sequence -/
def RMt (K : Frag) (kd : Bool) (f : Op2) : V → List V → Hp → VK → Prop := fun x xs H Q => ∃ y Im ds q w, xs = [y] ∧ Sub Im H ∧ RVR K Im H x (.d (sqD kd ds)) ∧ RVR K Im H y q ∧ ap2 f (.d (sqD kd ds)) q = some w ∧ Wants K Im H w Q
theorem a2_index_is {kd : Bool} {q : RV} {w : W} (e : ap2 .index (.d (sqD kd ds)) q = some w) : ∃ d n, q = .d d ∧ ok d = true ∧ oks ds = true ∧ ds.findIdx? (eqD · d) = some n ∧ w = .d (.int (n : Nat)) := by
  change a2_index (.d (sqD kd ds)) q = some w at e
  cases q with
  | dct _ => cases kd <;> simp [sqD, a2_index] at e
  | d d =>
    cases kd <;>
    · simp only [sqD, a2_index] at e
      split at e
      · rename_i h
        rw [Bool.and_eq_true] at h
        rw [Option.map_eq_some_iff] at e
        obtain ⟨n, e1, e2⟩ := e
        exact ⟨d, n, rfl, h.1, h.2, e1, e2.symm⟩
      · cases e
theorem a2_count_is {kd : Bool} {q : RV} {w : W} (e : ap2 .count (.d (sqD kd ds)) q = some w) : ∃ d, q = .d d ∧ ok d = true ∧ oks ds = true ∧ w = .d (.int (ds.countP (eqD · d) : Nat)) := by
  change a2_count (.d (sqD kd ds)) q = some w at e
  cases q with
  | dct _ => cases kd <;> simp [sqD, a2_count] at e
  | d d =>
    cases kd <;>
    · simp only [sqD, a2_count] at e
      split at e
      · rename_i h
        rw [Bool.and_eq_true] at h
        cases e
        exact ⟨d, rfl, h.1, h.2, rfl⟩
      · cases e
theorem mt_ix (hu : X.A.units + 65 < cLine) : ∀ kd : Bool, MtR X (if kd = true then "list.index" else "tuple.index") (RMt X.K kd .index) := by
  intro kd pins s σ H x xs v us Q I rx rs ⟨y, Im, ds, q, w, e1, hs, hx, hy, e, wt⟩
  subst e1
  obtain ⟨u, eu, ry⟩ := vals1 rs
  subst eu
  obtain ⟨d, n, rfl, ho, hos, hf, rfl⟩ := a2_index_is e
  obtain ⟨p, its, as, vs, S, _, _⟩ := seq_of (Nat.le_refl 60) I hs rx hx hos
  obtain ⟨⟨bs, rd⟩, pd, dd⟩ := one_of I hs ry hy ho
  have hpl : SeqAt.dataPlace ds d = some n := by
    unfold SeqAt.dataPlace
    rw [find_congr (eqv_on hos ho)]
    exact hf
  obtain ⟨hj, hit, hno⟩ := SeqAt.hit_at S.rd S.pl hpl
  have hz := S.sz
  have hl := sizeLine_eq
  have hj' : n < its.length := by simpa using hj
  have room : X.A.units + 1 + min (PyData.depthAll ds) d.depth < cLine := by
    have := Nat.min_le_right (PyData.depthAll ds) d.depth
    omega
  have post : EP X pins σ Q (Value.int (n : Nat) s.toks) { s with toks := s.toks + 1 } := ⟨.int (n : Nat), H, I.tok _, ⟨_, rfl⟩, wt.int hs⟩
  have items := SeqAt.items_plain (A := X.A) S.rd rd S.pl pd room
  rw [S.ref]
  cases kd with
  | true =>
    obtain ⟨⟨cc, dc, dt, sl⟩, hg, hc, k, hd⟩ := S.is
    replace hc : cc = .type "list" := hc
    replace hd : dt = .seq its.toArray k := hd
    subst hc hd
    exact call_meets PySem.F.slot_list_index ⟨_, hg, rfl⟩ PySem.F.entry_list_index (PySem.F.args_list_index_2 _ _) (SeqAt.list_indexAt p its.toArray k dc sl u _ n hj (by omega) hit hno) ⟨hg, items, post⟩
  | false =>
    obtain ⟨⟨cc, dc, dt, sl⟩, hg, hc, k, hd⟩ := S.is
    replace hc : cc = .type "tuple" := hc
    replace hd : dt = .seq its.toArray k := hd
    subst hc hd
    exact call_meets PySem.F.slot_tuple_index ⟨_, hg, rfl⟩ PySem.F.entry_tuple_index (PySem.F.args_tuple_index_2 _ _) (TI.tuple_indexAt p its.toArray k dc sl u _ n hj hit hno) ⟨hg, items, post⟩
theorem mt_ct (hu : X.A.units + 65 < cLine) : ∀ kd : Bool, MtR X (if kd = true then "list.count" else "tuple.count") (RMt X.K kd .count) := by
  intro kd pins s σ H x xs v us Q I rx rs ⟨y, Im, ds, q, w, e1, hs, hx, hy, e, wt⟩
  subst e1
  obtain ⟨u, eu, ry⟩ := vals1 rs
  subst eu
  obtain ⟨d, rfl, ho, hos, rfl⟩ := a2_count_is e
  obtain ⟨p, its, as, vs, S, _, _⟩ := seq_of (Nat.le_refl 60) I hs rx hx hos
  obtain ⟨⟨bs, rd⟩, pd, dd⟩ := one_of I hs ry hy ho
  have room : X.A.units + 1 + min (PyData.depthAll ds) d.depth < cLine := by
    have := Nat.min_le_right (PyData.depthAll ds) d.depth
    omega
  have post : EP X pins σ Q (Value.int ((ds.countP fun y => PyData.eqv y d : Nat) : Int) s.toks) { s with toks := s.toks + 1 } := by
    rw [countP_congr' (eqv_on hos ho)]
    exact ⟨.int _, H, I.tok _, ⟨_, rfl⟩, wt.int hs⟩
  rw [S.ref]
  cases kd with
  | true => exact SeqAt.count_list_data S.is S.rd rd S.pl pd room post
  | false => exact SeqAt.count_tuple_data S.is S.rd rd S.pl pd room post
mutual
theorem alike_of : ∀ {a b : D}, cmpOk a b = true → PySem.W.alike a b = true
  | .int _, .int _, _ => rfl
  | .tuple xs, .tuple ys, h => by
    rw [cmpOk] at h
    rw [PySem.W.alike]
    exact alikes_of h
theorem alikes_of : ∀ {xs ys : List D}, cmpOks xs ys = true → PySem.W.alikeAll xs ys = true
  | [], [], _ => rfl
  | [], _ :: _, _ => rfl
  | _ :: _, [], _ => rfl
  | x :: xs, y :: ys, h => by
    rw [cmpOks, Bool.and_eq_true] at h
    rw [PySem.W.alikeAll, alike_of h.1, alikes_of h.2]
    rfl
end
mutual
theorem dlt : ∀ {a b : D} {n : Nat}, cmpOk a b = true → okD a n = true → okD b n = true → PySem.W.dataLt a b = ltD a b
  | .int i, .int j, _, _, _, _ => PySem.W.dataLt_int i j
  | .tuple xs, .tuple ys, 0, _, h, _ => by simp [okD] at h
  | .tuple xs, .tuple ys, n + 1, h, h1, h2 => by
    rw [cmpOk] at h
    rw [okD] at h1 h2
    rw [ltD]
    exact dlts h h1 h2
theorem dlts : ∀ {xs ys : List D} {n : Nat}, cmpOks xs ys = true → okDs xs n = true → okDs ys n = true → PyProof.Rows.lexLt PyProof.Rows.itemOrd (PySem.W.keyToksAll xs) (PySem.W.keyToksAll ys) = ltDs xs ys
  | [], [], _, _, _, _ => by decide
  | [], y :: ys, _, _, _, _ => (PySem.W.lex_atom (by decide) _ _).trans (show PyProof.Rows.lexLt PyProof.Rows.itemOrd [.inl 0] [.inl 1] = true by decide)
  | x :: xs, [], _, _, _, _ => (PySem.W.lex_atom (by decide) _ _).trans (show PyProof.Rows.lexLt PyProof.Rows.itemOrd [.inl 1] [.inl 0] = false by decide)
  | x :: xs, y :: ys, n, h, h1, h2 => by
    rw [cmpOks, Bool.and_eq_true] at h
    rw [okDs, Bool.and_eq_true] at h1 h2
    rw [PySem.W.dataLt_cons (alike_of h.1), eqv_eq x y h1.1 h2.1, dlt h.1 h1.1 h2.1, dlts h.2 h1.2 h2.2, ltDs]
end
theorem fold_mem (f : D → D → Bool) : ∀ (xs : List D) (x : D), xs.foldl (fun a y => if f y a = true then y else a) x ∈ x :: xs
  | [], x => List.mem_cons_self ..
  | y :: ys, x => by
    rw [List.foldl_cons]
    have h := fold_mem f ys (if f y x = true then y else x)
    rcases List.mem_cons.mp h with h | h
    · rw [h]
      split
      · exact List.mem_cons_of_mem _ (List.mem_cons_self ..)
      · exact List.mem_cons_self ..
    · exact List.mem_cons_of_mem _ (List.mem_cons_of_mem _ h)
theorem fold_eq {f g : D → D → Bool} : ∀ (xs : List D) (x : D), (∀ a ∈ x :: xs, ∀ b ∈ x :: xs, f a b = g a b) → xs.foldl (fun a y => if f y a = true then y else a) x = xs.foldl (fun a y => if g y a = true then y else a) x
  | [], _, _ => rfl
  | y :: ys, x, h => by
    have e : f y x = g y x := h y (List.mem_cons_of_mem _ (List.mem_cons_self ..)) x (List.mem_cons_self ..)
    rw [List.foldl_cons, List.foldl_cons, e]
    refine fold_eq ys _ fun a ha b hb => ?_
    have m : ∀ z, z ∈ (if g y x = true then y else x) :: ys → z ∈ x :: y :: ys := fun z hz => by
      rcases List.mem_cons.mp hz with hz | hz
      · rw [hz]
        split
        · exact List.mem_cons_of_mem _ (List.mem_cons_self ..)
        · exact List.mem_cons_self ..
      · exact List.mem_cons_of_mem _ (List.mem_cons_of_mem _ hz)
    exact h a (m a ha) b (m b hb)
structure Cmp (ds : List D) : Prop where
  ok20 : okDs ds 20 = true
  cmp : ∀ x ∈ ds, ∀ y ∈ ds, cmpOk x y = true
theorem Cmp.of (h : cmpAll ds = true) : Cmp ds := ⟨(cmpAll_of h).1, (cmpAll_of h).2⟩
theorem Cmp.alike (h : Cmp ds) : PySem.W.AlikeAll ds := ⟨fun x hx y hy => alike_of (h.cmp x hx y hy), fun x hx e => by have := h.cmp x hx x hx; rw [e] at this; cases this⟩
theorem Cmp.lt (h : Cmp ds) : ∀ a ∈ ds, ∀ b ∈ ds, PySem.W.dataLt a b = ltD a b := fun a ha b hb => dlt (h.cmp a ha b hb) (okDs_mem h.ok20 a ha) (okDs_mem h.ok20 b hb)
/-- the item that is read as d -/
theorem pick {its : List Value} {vs : List V} {as bs : List Addr} {h' : Heap} {tk : Tok} {i : Nat} {m : D} (I : Inv X pins σ H s) (hs : Sub Im H) (rv : Vals vs its) (ra : RpAll X.K Im vs ds) (rd : ReadsAll s.heap its.toArray.toList ds as) (C : Cmp ds) (hm : m ∈ ds)
    (hv : its.toArray[i]? = some v) (r : Reads h' v m bs) (k : ∀ b o, s.heap.get? b = some o → h'.get? b = some o) (wt : Wants X.K Im H (.d m) Q) : EP X pins σ Q v { s with heap := h', toks := tk } := by
  have hi : its[i]? = some v := by simpa using hv
  have hlt : i < vs.length := by rw [rv.length]; exact (List.getElem?_eq_some_iff.mp hi).1
  obtain ⟨w, hw, rw'⟩ := rv.get (i := i) (x := vs[i]) (List.getElem?_eq_getElem hlt)
  rw [hi] at hw
  cases hw
  obtain ⟨d, hd, rp⟩ := ra.getV (List.getElem?_eq_getElem hlt)
  obtain ⟨cs, r1, _, _, _⟩ := PySem.W.readsAll_atA rd i v hv
  have hg : ds.getD i .none = d := by rw [List.getD_eq_getElem?_getD, hd]; rfl
  rw [hg] at r1
  have e : d = m := PySem.W.alike_unique d m v cs bs (C.alike.1 d (List.mem_of_getElem? hd) m hm) (Reads.keeps k r1) r
  subst e
  exact ⟨_, H, I.kept k, rw', wt.here hs rp⟩
theorem c_best (hc : X.calm = true) (hu : X.A.units + 65 < cLine) (lt : Bool) : CallR X (.builtin (if lt = true then "min" else "max")) (RC1 X.K (if lt = true then .min else .max)) := by
  intro pins s σ H xs us Q I r ⟨x, e1, Im, rv, w, hs, hr, e, wt⟩
  subst e1
  obtain ⟨u, eu, rx⟩ := vals1 r
  subst eu
  have core : ∀ (kd : Bool) (ds : List D) (m : D), rv = .d (sqD kd ds) → Cmp ds → (if lt = true then least ltB ds else greatest ltB ds) = some m → w = .d m → wpAny (model X.prog X.w) X.A (call (.builtin (if lt = true then "min" else "max")) [u]) (EP X pins σ Q) X.xe s := by
    intro kd ds m ev C em ew
    subst ev ew
    obtain ⟨p, its, as, vs, S, va, ra⟩ := seq_of (by decide : 20 ≤ 60) I hs rx hr C.ok20
    cases ds with
    | nil => cases lt <;> cases em
    | cons d ds =>
      have room : X.A.units + 1 + PyData.depthAll (d :: ds) < cLine := by have := S.dp; omega
      rw [S.ref]
      cases lt with
      | true =>
        have hm : PySem.W.minD d ds = m := by
          have e : least ltB (d :: ds) = some m := em
          unfold least at e
          injection e with e
          rw [← e]
          exact fold_eq (f := fun a b => PySem.W.dataLt a b) (g := fun a b => ltB a b) ds d C.lt
        have mem : m ∈ d :: ds := by rw [← hm]; exact fold_mem _ ds d
        have fin : ∀ (i : Nat) v h' tk bs, its.toArray[i]? = some v → Reads h' v (PySem.W.minD d ds) bs → (∀ b o, s.heap.get? b = some o → h'.get? b = some o) → EP X pins σ Q v { s with heap := h', toks := tk } :=
          fun i v h' tk bs hv r k => pick I hs va ra S.rd C mem hv (by rw [← hm]; exact r) k wt
        cases kd with
        | true => exact PySem.W.min_list_data (I.ok.hd hc) S.is S.rd C.alike room fin
        | false => exact PySem.W.min_tuple_data (I.ok.hd hc) S.is S.rd C.alike room fin
      | false =>
        have hm : PySem.W.maxD d ds = m := by
          have e : greatest ltB (d :: ds) = some m := em
          unfold greatest at e
          injection e with e
          rw [← e]
          exact fold_eq (f := fun a b => PySem.W.dataLt b a) (g := fun a b => ltB b a) ds d fun a ha b hb => C.lt b hb a ha
        have mem : m ∈ d :: ds := by rw [← hm]; exact fold_mem (fun a b => PySem.W.dataLt b a) ds d
        have fin : ∀ (i : Nat) v h' tk bs, its.toArray[i]? = some v → Reads h' v (PySem.W.maxD d ds) bs → (∀ b o, s.heap.get? b = some o → h'.get? b = some o) → EP X pins σ Q v { s with heap := h', toks := tk } :=
          fun i v h' tk bs hv r k => pick I hs va ra S.rd C mem hv (by rw [← hm]; exact r) k wt
        cases kd with
        | true => exact PySem.W.max_list_data (I.ok.hd hc) S.is S.rd C.alike room fin
        | false => exact PySem.W.max_tuple_data (I.ok.hd hc) S.is S.rd C.alike room fin
  cases lt with
  | true =>
    change a1_min rv = some w at e
    unfold a1_min at e
    split at e
    · split at e
      · rename_i h
        rw [Option.map_eq_some_iff] at e
        obtain ⟨m, e1, e2⟩ := e
        exact core true _ m rfl (.of h) e1 e2.symm
      · cases e
    · split at e
      · rename_i h
        rw [Option.map_eq_some_iff] at e
        obtain ⟨m, e1, e2⟩ := e
        exact core false _ m rfl (.of h) e1 e2.symm
      · cases e
    · cases e
  | false =>
    change a1_max rv = some w at e
    unfold a1_max at e
    split at e
    · split at e
      · rename_i h
        rw [Option.map_eq_some_iff] at e
        obtain ⟨m, e1, e2⟩ := e
        exact core true _ m rfl (.of h) e1 e2.symm
      · cases e
    · split at e
      · rename_i h
        rw [Option.map_eq_some_iff] at e
        obtain ⟨m, e1, e2⟩ := e
        exact core false _ m rfl (.of h) e1 e2.symm
      · cases e
    · cases e
end
theorem insU_mem (x : Int) : ∀ (l : List Int) (k : Int), k ∈ insU x l ↔ k = x ∨ k ∈ l
  | [], k => by simp [insU]
  | y :: ys, k => by
    unfold insU
    split
    · simp
    · split
      · rename_i h
        subst h
        simp
      · rw [List.mem_cons, insU_mem x ys k, List.mem_cons]
        constructor
        · rintro (h | h | h)
          · exact .inr (.inl h)
          · exact .inl h
          · exact .inr (.inr h)
        · rintro (h | h | h)
          · exact .inr (.inl h)
          · exact .inl h
          · exact .inr (.inr h)
theorem insU_asc (x : Int) : ∀ (l : List Int), l.Pairwise (· < ·) → (insU x l).Pairwise (· < ·)
  | [], _ => List.pairwise_singleton _ _
  | y :: ys, h => by
    unfold insU
    have h' := List.pairwise_cons.mp h
    split
    · rename_i hx
      refine List.pairwise_cons.mpr ⟨fun z hz => ?_, h⟩
      rcases List.mem_cons.mp hz with rfl | hz
      · exact hx
      · exact Int.lt_trans hx (h'.1 z hz)
    · split
      · exact h
      · rename_i h1 h2
        refine List.pairwise_cons.mpr ⟨fun z hz => ?_, insU_asc x ys h'.2⟩
        rcases (insU_mem x ys z).mp hz with rfl | hz
        · omega
        · exact h'.1 z hz
theorem setI_go : ∀ (ns acc : List Int), acc.Pairwise (· < ·) → (ns.foldl (fun a x => insU x a) acc).Pairwise (· < ·) ∧ ∀ k, k ∈ ns.foldl (fun a x => insU x a) acc ↔ k ∈ ns ∨ k ∈ acc
  | [], acc, h => ⟨h, fun k => by simp⟩
  | n :: ns, acc, h => by
    obtain ⟨h1, h2⟩ := setI_go ns (insU n acc) (insU_asc n acc h)
    refine ⟨h1, fun k => ?_⟩
    rw [List.foldl_cons, h2 k, insU_mem, List.mem_cons]
    constructor
    · rintro (h | h | h)
      · exact .inl (.inr h)
      · exact .inl (.inl h)
      · exact .inr h
    · rintro ((h | h) | h)
      · exact .inr (.inl h)
      · exact .inl h
      · exact .inr (.inr h)
theorem setI_asc (ns : List Int) : (setI ns).Pairwise (· < ·) := (setI_go ns [] .nil).1
theorem setI_mem (ns : List Int) (k : Int) : k ∈ setI ns ↔ k ∈ ns := by
  have h := (setI_go ns [] .nil).2 k
  rw [show setI ns = ns.foldl (fun a x => insU x a) [] from rfl, h]
  simp
theorem nodup_asc {l : List Int} (h : l.Pairwise (· < ·)) : l.Nodup := h.imp fun h => by omega
theorem perm_same {l m : List Int} (h1 : l.Nodup) (h2 : m.Nodup) (h : ∀ k, k ∈ l ↔ k ∈ m) : l.Perm m := (List.perm_ext_iff_of_nodup h1 h2).mpr h
theorem asc_one {l m : List Int} (h1 : l.Pairwise (· < ·)) (h2 : m.Pairwise (· < ·)) (h : ∀ k, k ∈ l ↔ k ∈ m) : l = m :=
  (perm_same (nodup_asc h1) (nodup_asc h2) h).eq_of_pairwise (fun a b _ _ h1 h2 => by omega) h1 h2
section
variable {X : Cx}
theorem c_lenO : CallR X (.builtin "len") (fun xs H Q => ∃ a S n, xs = [.ref a] ∧ H a = some (SetO X.w a S n) ∧ n < 64 ∧ ((∃ l : List Int, l.Nodup ∧ l.length = n ∧ ∀ k, k ∈ l ↔ S k = true) → Q (.int n) H)) := by
  intro pins s σ H xs us Q I r ⟨a, S, n, e, ha, hn, q⟩
  subst e
  rw [Vals.ref1 r]
  obtain ⟨o, es, ep, t, ho, hex, hd, g, nd, hm, hb, hf, hsz, _, _⟩ := setO_get I ha
  refine call_len_set ho hex hd hf (by omega) ⟨.int n, H, I.tok _, ⟨_, by rw [hsz]⟩, q ⟨es.toList.map keyOf, nd, by rw [List.length_map, Array.length_toList]; exact hsz, fun k => (hm k).symm⟩⟩
end
section
variable {K : Frag} {Im H Im2 H2 : Hp} {w : W} {Q : VK}
theorem Grow.trans {Im3 H3 : Hp} (a : Grow Im H Im2 H2) (b : Grow Im2 H2 Im3 H3) : Grow Im H Im3 H3 :=
  ⟨a.mono.trans b.mono, a.keep.trans b.keep, fun q o e => (b.new q o e).elim (a.new q o) fun h => .inr (by
    cases hq : H q with
    | none => rfl
    | some u => rw [a.keep _ _ hq] at h; cases h), b.sub⟩
theorem Wants.after (g : Grow Im H Im2 H2) (h : Wants K Im H w Q) : Wants K Im2 H2 w Q := fun Im3 v H3 g3 r => h Im3 v H3 (g.trans g3) (by
  cases r with
  | d r => exact .d r
  | new a b c =>
    refine .new ?_ b c
    cases hq : H _ with
    | none => rfl
    | some u => rw [g.keep _ _ hq] at a; cases a)
variable {σ : L2.St} (sig : SigF) (cf : CF)
theorem sameK_is {r r' : RV} {z : Unit} (e : sameK r r' = some z) : ∃ kd a b, r = .d (sqD kd a) ∧ r' = .d (sqD kd b) := by
  unfold sameK at e
  split at e
  · exact ⟨true, _, _, rfl, rfl⟩
  · exact ⟨false, _, _, rfl, rfl⟩
  · cases e
theorem tev_meth {f : Op2} {ea eb : E} {Q : VK} (h : TEv K (ev sig cf (.meth f ea eb)) σ H Q) : tBM K "list" (RMt K true f) (TEv K (ev sig cf ea)) (tCons (TEv K (ev sig cf eb)) tNil) σ H Q ∨ tBT (RMt K false f) (TEv K (ev sig cf ea)) (tCons (TEv K (ev sig cf eb)) tNil) σ H Q := by
  obtain ⟨s, Im, R, w, s', e, k⟩ := h
  rw [ev] at e
  simp only [Option.bind_eq_bind, Option.bind_eq_some_iff, Option.pure_def, Option.some.injEq, Prod.mk.injEq] at e
  obtain ⟨⟨w1, s1⟩, e1, r, e2, ⟨w2, s2⟩, e3, r', e4, q, e5, _, e6, x, e7, rfl, rfl⟩ := e
  obtain ⟨kd, a, b, rfl, rfl⟩ := sameK_is e6
  have rest : ∀ {Im1 H1 : Hp} {v1 : V}, Rel K σ Im1 H1 s1 → Sto (Tch σ s) σ s Im H σ s1 Im1 H1 → WR K σ H Im1 H1 s1 w1 v1 → tCons (TEv K (ev sig cf eb)) tNil σ H1 fun xs H2 => RMt K kd f v1 xs H2 Q := fun {Im1 H1 v1} R1 st1 x1 =>
    ⟨s1, Im1, R1, w2, s2, e3, fun Im2 v2 H2 R2 st2 x2 => ⟨v2, Im2, b, q, x, rfl, R2.sub, (x1.later st2).rv R2 e4, x2.rv R2 e5, e7, fun Im3 z H3 g res => k Im3 z H3 (R2.grow g) ((st1.trans st2).grow g) (((res.wr R2).before st2).before st1)⟩⟩
  cases kd with
  | true =>
    refine .inl ⟨s, Im, R, w1, s1, e1, fun Im1 v1 H1 R1 st1 x1 => ⟨?_, rest R1 st1 x1⟩⟩
    obtain ⟨p, vs, rfl, hp, _⟩ := (x1.rv R1 e2).list R1.sub
    exact tyList hp
  | false =>
    refine .inr ⟨s, Im, R, w1, s1, e1, fun Im1 v1 H1 R1 st1 x1 => ⟨?_, rest R1 st1 x1⟩⟩
    obtain ⟨p, vs, rfl, hp, _⟩ := (x1.rv R1 e2).tuple R1.sub
    exact ⟨p, vs, rfl, hp⟩
theorem pe_or2 {X : Cx} {e : Expr} {t t' : TE} (h : PE X e t) (h' : PE X e t') : PE X e (fun σ H Q => t σ H Q ∨ t' σ H Q) := ⟨fun pins s σ H Q I q => q.elim (h.run pins s σ H Q I) (h'.run pins s σ H Q I)⟩
end
end PV
namespace PV
open PySem PySem.Spec PyProof.Rows L2
open SrtO
/-- what sorted of items in some order asks -/
def SortsToP (X : Cx) (s : Shared) (p : Addr) (its : List Value) : Prop := ∀ (ltv : Value → Value → Bool) (Q : Value → Shared → Prop), Swo ltv →
  (∀ vs' : List Value, vs'.Perm its → 2 ≤ its.length → ∀ (s₁ : Shared) (a : Addr), s₁.heap.get? a = some (seqObj "list" vs'.toArray 0) → (∀ b o, s.heap.get? b = some o → b ≠ a ∧ s₁.heap.get? b = some o) → SortableO X.prog X.w X.A.in1.in1 s₁ a vs' ltv) →
  (∀ (out : List Value) (s' : Shared) (p' : Addr) (c : Nat), Srtd ltv out → out.Perm its → (∀ b o, s.heap.get? b = some o → s'.heap.get? b = some o) → s'.gens = s.gens → s'.os = s.os → s.heap.objs.size ≤ p' → s'.heap.get? p' = some (seqObj "list" out.toArray c) → Q (.ref p') s') → wpAny (model X.prog X.w) X.A (call (.builtin "sorted") [.ref p]) Q X.xe s
section
variable {X : Cx}
open Classical in
theorem c_sortedP (hu : X.A.units + 64 < cLine) {pins : List (Addr × Obj)} {s : Shared} {σ : L2.St} {H Im : Hp} {p : Addr} {vs : List V} {its : List Value} {ds : List D} {Q : VK} (I : Inv X pins σ H s) (hs : Sub Im H) (rv : Vals vs its) (hz : vs.length ≤ sizeLine) (so : SortsToP X s p its) (ra : RpAll X.K Im vs ds) (hc : cmpAll ds = true)
    (wt : Wants X.K Im H (.new (.lst (sortD ltB ds))) Q) : wpAny (model X.prog X.w) X.A (call (.builtin "sorted") [.ref p]) (EP X pins σ Q) X.xe s := by
  unfold cmpAll at hc
  rw [Bool.and_eq_true] at hc
  obtain ⟨ok20, hc⟩ := hc
  have hc : ∀ x ∈ ds, ∀ y ∈ ds, cmpOk x y = true := fun x hx y hy => List.all_eq_true.mp (List.all_eq_true.mp hc x hx) y hy
  obtain ⟨as, rd⟩ := Dp.readsAll I ds vs its ((ra.mono hs).dp ok20) rv
  obtain ⟨T, h1, h2, h3, h4⟩ := triples ra rv rd
  have lay := (ra.lay ok20).1
  have mem : ∀ t ∈ T, t.2.1 ∈ ds := fun t ht => by rw [← h2]; exact List.mem_map_of_mem ht
  have ok1 : ∀ d ∈ ds, okD d 20 = true := fun d hd => by
    obtain ⟨j, hj⟩ := List.mem_iff_getElem?.mp hd
    exact okDs_get ok20 hj
  have lay1 : ∀ d ∈ ds, d.canLay0 = true := fun d hd => by
    obtain ⟨j, hj⟩ := List.mem_iff_getElem?.mp hd
    exact lay_get lay hj
  -- the data of an object
  let f : Value → D := fun v => if h : ∃ t ∈ T, t.2.2 = v then (Classical.choose h).2.1 else ds.headD (.int 0)
  have fT : ∀ t ∈ T, f t.2.2 = t.2.1 := fun t ht => by
    have hex : ∃ t' ∈ T, t'.2.2 = t.2.2 := ⟨t, ht, rfl⟩
    show (if h : ∃ t' ∈ T, t'.2.2 = t.2.2 then (Classical.choose h).2.1 else ds.headD (.int 0)) = t.2.1
    rw [dif_pos hex]
    obtain ⟨g1, g2⟩ := Classical.choose_spec hex
    have q1 := h4 _ g1
    have q2 := h4 t ht
    have ev : (Classical.choose hex).1 = t.1 := RelV.inj q1.2.1 (by rw [g2]; exact q2.2.1)
    exact Rp.inj (n := 20) (m := 20) q1.1 (by rw [ev]; exact q2.1) (ok1 _ (mem _ g1)) (ok1 _ (mem t ht))
  have fc : ∀ v u, cmpOk (f v) (f u) = true := by
    have fm : ∀ v, f v ∈ ds ∨ (ds = [] ∧ f v = .int 0) := fun v => by
      show (if h : ∃ t' ∈ T, t'.2.2 = v then (Classical.choose h).2.1 else ds.headD (.int 0)) ∈ ds ∨ (ds = [] ∧ (if h : ∃ t' ∈ T, t'.2.2 = v then (Classical.choose h).2.1 else ds.headD (.int 0)) = .int 0)
      by_cases hex : ∃ t' ∈ T, t'.2.2 = v
      · rw [dif_pos hex]
        exact .inl (mem _ (Classical.choose_spec hex).1)
      · rw [dif_neg hex]
        cases ds with
        | nil => exact .inr ⟨rfl, rfl⟩
        | cons d ds => exact .inl (List.mem_cons_self ..)
    intro v u
    rcases fm v with g1 | ⟨e1, g1⟩
    · rcases fm u with g2 | ⟨e2, g2⟩
      · exact hc _ g1 _ g2
      · rw [e2] at g1; cases g1
    · rcases fm u with g2 | ⟨e2, g2⟩
      · rw [e1] at g2; cases g2
      · rw [g1, g2]; rfl
  have O : Swo (fun v u => ltD (f v) (f u)) := ⟨fun x y h => ltD_asym _ _ h, fun x y z a b => le_trans3 (fc x y) (fc y z) (fc x z) a b⟩
  have inT : ∀ v ∈ its, ∃ t ∈ T, t.2.2 = v := fun v hv => by
    rw [← h3] at hv
    obtain ⟨t, ht, e⟩ := List.mem_map.mp hv
    exact ⟨t, ht, e⟩
  refine so _ _ O (fun vs' pv h2' s₁ a ha kk h' keep => ?_) fun out s' p' ep hsrt hprm kp g o hp' he' => ?_
  · have kp : ∀ b o, s.heap.get? b = some o → h'.get? b = some o := fun b o e => keep b o (kk b o e).1 (kk b o e).2
    obtain ⟨T', hT', eT'⟩ := perm_lift (fun t : V × D × Value => t.2.2) pv T h3
    have rdA : ∀ L : List (V × D × Value), (∀ t ∈ L, t ∈ T) → ∃ bs, ReadsAll s.heap (L.map fun t => t.2.2) (L.map fun t => t.2.1) bs := by
      intro L
      induction L with
      | nil => intro _; exact ⟨_, .nil⟩
      | cons t L ih =>
        intro h
        obtain ⟨bs, r1⟩ := (h4 t (h t (List.mem_cons_self ..))).2.2
        obtain ⟨cs, r2⟩ := ih fun t ht => h t (List.mem_cons_of_mem _ ht)
        exact ⟨_, .cons r1 r2⟩
    obtain ⟨bs0, rd'⟩ := rdA T' fun t ht => hT'.mem_iff.mp ht
    rw [eT'] at rd'
    have sub' : ∀ d ∈ T'.map (fun t => t.2.1), d ∈ ds := fun d hd => by
      obtain ⟨t, ht, rfl⟩ := List.mem_map.mp hd
      exact mem t (hT'.mem_iff.mp ht)
    obtain ⟨κ, hκ, hw⟩ := kind_data (M := model X.prog X.w) (A := X.A.in1.in1) (s := { s₁ with heap := h' }) (ReadsAll.keeps kp rd') (by rw [pv.length_eq]; exact h2') (fun x hx y hy => hc x (sub' x hx) y (sub' y hy))
    refine ⟨κ, hw, fun p q hm hm' => ?_⟩
    obtain ⟨t, ht, e⟩ := inT p.1 (pv.mem_iff.mp hm)
    obtain ⟨t', ht', e'⟩ := inT q.1 (pv.mem_iff.mp hm')
    obtain ⟨bs, rt⟩ := (h4 t ht).2.2
    obtain ⟨bs', rt'⟩ := (h4 t' ht').2.2
    have m1 := mem t ht
    have m2 := mem t' ht'
    have n1 : t.2.1 ∈ T'.map (fun t => t.2.1) := List.mem_map.mpr ⟨t, hT'.mem_iff.mpr ht, rfl⟩
    have n2 : t'.2.1 ∈ T'.map (fun t => t.2.1) := List.mem_map.mpr ⟨t', hT'.mem_iff.mpr ht', rfl⟩
    refine key_data (n := 18) (s := { s₁ with heap := h' }) hκ (by show X.A.units + 1 + 1 + (18 + 2) < cLine; omega) n1 n2 (ok1 _ m1) (ok1 _ m2) (lay1 _ m1) (lay1 _ m2) (hc _ m1 _ m2) (by rw [← e]; exact Reads.keeps kp rt) (by rw [← e']; exact Reads.keeps kp rt') ?_
    refine ⟨rfl, ?_⟩
    show ltD t.2.1 t'.2.1 = ltD (f p.1) (f q.1)
    rw [← e, ← e', fT t ht, fT t' ht']
  · obtain ⟨L, hL, eL⟩ := perm_lift (fun t : V × D × Value => t.2.2) hprm T h3
    have memL : ∀ t ∈ L, t ∈ T := fun t ht => hL.mem_iff.mp ht
    have rL : RpAll X.K Im (L.map (·.1)) (L.map (·.2.1)) := by
      have : ∀ L : List (V × D × Value), (∀ t ∈ L, Rp X.K Im t.1 t.2.1) → RpAll X.K Im (L.map (·.1)) (L.map (·.2.1)) := by
        intro L
        induction L with
        | nil => intro _; exact .nil
        | cons t L ih => intro h; exact .cons (h t (List.mem_cons_self ..)) (ih fun t ht => h t (List.mem_cons_of_mem _ ht))
      exact this L fun t ht => (h4 t (memL t ht)).1
    have vL : Vals (L.map (·.1)) out := by
      rw [← eL]
      have : ∀ L : List (V × D × Value), (∀ t ∈ L, RelV t.1 t.2.2) → Vals (L.map (·.1)) (L.map fun t => t.2.2) := by
        intro L
        induction L with
        | nil => intro _; exact .nil
        | cons t L ih => intro h; exact .cons (h t (List.mem_cons_self ..)) (ih fun t ht => h t (List.mem_cons_of_mem _ ht))
      exact this L fun t ht => (h4 t (memL t ht)).2.1
    have eD : L.map (·.2.1) = sortD ltD ds := by
      refine sortD_is hc (by rw [← h2]; exact hL.map _) ?_
      rw [← eL] at hsrt
      have hp2 := List.pairwise_map.mp hsrt
      refine List.pairwise_map.mpr (hp2.imp_of_mem fun {t t'} ht ht' h => ?_)
      have h : ltD (f t'.2.2) (f t.2.2) = false := h
      rw [fT t (memL t ht), fT t' (memL t' ht')] at h
      exact h
    rw [← show L.map (·.2.1) = sortD ltB ds from eD] at wt
    have hlen : (L.map (·.1)).length ≤ sizeLine := by rw [List.length_map, hL.length_eq, ← List.length_map (f := fun t : V × D × Value => t.1), h1]; exact hz
    have hn : H p' = none := I.hok.fresh hp'
    have J : Inv X pins σ (upd H p' (.lst (L.map (·.1)))) { s with heap := s'.heap, gens := s'.gens, drawn := s'.drawn, toks := s'.toks } :=
      I.call (ch := []) (Un.laid kp hp' hn) (I.hok.laid kp hp' ⟨hlen, out, ep, vL, he'⟩) (by rw [g]; exact I.bare) (fun _ z => nomatch z)
    have e : s' = { s with heap := s'.heap, gens := s'.gens, drawn := s'.drawn, toks := s'.toks } := by
      cases s'
      cases s
      cases o
      rfl
    rw [e]
    exact ⟨.ref _, _, J, rfl, wt.lst hs rL _ hn⟩
end
section
variable {P : Program} {w : World} {A : Around} {E : Value → Shared → Prop} {s : Shared}
/-- sorted of a set of tuples -/
theorem sorted_setO {a : Addr} {L : List (Addr × List Int)} {es : Array (Int × Value)} {ep : Nat} {t : SetTable} {ltv : Value → Value → Bool} {Q : Value → Shared → Prop} (O : Swo ltv) (R : SetTR P w s.heap a L es ep t) (hh : A.handled = none)
    (hS : ∀ vs' : List Value, vs'.Perm (L.map fun q => Value.ref q.1) → 2 ≤ (L.map fun q => Value.ref q.1).length → ∀ (s₁ : Shared) (a : Addr), s₁.heap.get? a = some (seqObj "list" vs'.toArray 0) → (∀ b o, s.heap.get? b = some o → b ≠ a ∧ s₁.heap.get? b = some o) → SortableO P w A.in1.in1 s₁ a vs' ltv)
    (h : ∀ (out : List Value) (s' : Shared) (p' : Addr) (c : Nat), Srtd ltv out → out.Perm (L.map fun q => Value.ref q.1) → (∀ b o, s.heap.get? b = some o → s'.heap.get? b = some o) → s'.gens = s.gens → s'.os = s.os → s.heap.objs.size ≤ p' → s'.heap.get? p' = some (seqObj "list" out.toArray c) → Q (.ref p') s') :
    wpAny (model P w) A (call (.builtin "sorted") [.ref a]) Q E s := by
  obtain ⟨o, ho, hex, hd⟩ := R.ob
  have hsz := R.size
  have hfew := R.few
  refine Calls.call_function_entry kind_sorted plain_sorted entry_sorted (args_sorted1 _) ?_
  unfold Builtin.«sorted»
  refine wpAny_bind (m := checkCount "sorted" 1 1 _) (wpAny_pure ?_)
  refine wpAny_bind (collect_set (A := A.in1) hh ⟨o, ho, hex.1, hd⟩ R.fits (by unfold scanBound; omega) R.tab.ris R.led fun s1 vs k1 hz g1 o1 pm => ?_)
  have hes : es.toList.map (·.2) = L.map fun q => Value.ref q.1 := by
    rw [R.rows]
    unfold rowsOf
    rw [List.map_map] <;> rfl
  rw [hes] at pm
  have hvl : vs.length < 64 := by rw [pm.length_eq, List.length_map]; exact hfew
  refine wpAny_bind (wpAny_newList ?_ (by rw [sizeLine_eq]; omega))
  have hoL : (s1.heap.push (seqObj "list" vs.toArray 0)).get? s1.heap.objs.size = some (seqObj "list" vs.toArray 0) := Heap.get?_push_size _ rfl
  have keep : ∀ b o, s.heap.get? b = some o → b ≠ s1.heap.objs.size ∧ (s1.heap.push (seqObj "list" vs.toArray 0)).get? b = some o := fun b o q => ⟨Nat.ne_of_lt (Heap.lt_size (k1 b o q)), Heap.get?_push_of_some _ (k1 b o q)⟩
  refine wpAny_bind (wpAny_holding (wpAny_call_entry slot_list_sort ⟨_, hoL, rfl⟩ entry_list_sort (list_sort_ord (s := { s1 with heap := s1.heap.push (seqObj "list" vs.toArray 0) }) O hoL (by rw [sizeLine_eq]; omega) (fun h2 => hS vs pm (by rw [← pm.length_eq]; exact h2) _ _ hoL keep) fun out hs hb => ⟨_, rfl, ?_⟩) (args_list_sort _)))
  obtain ⟨c, hc⟩ := sortedHeap_at (vs := vs) (out := out.toArray) hoL
  refine wpAny_pure ⟨_, rfl, h out _ s1.heap.objs.size c hs (hb.perm.trans pm) (fun b u e => ?_) g1 o1 hz hc⟩
  have q := k1 b u e
  have hlt := Heap.lt_size q
  show (sortedHeap (s1.heap.push (seqObj "list" vs.toArray 0)) s1.heap.objs.size vs out.toArray).get? b = some u
  rw [sortedHeap_old (Nat.ne_of_lt hlt) (by rw [size_push']; exact Nat.lt_succ_of_lt hlt)]
  exact Heap.get?_push_of_some _ q
end
end PV
namespace PV
open PySem PySem.Spec PyProof.Rows L2
abbrev set0 (w : World) : Obj := { cls := .type "set", dict := none, data := .set #[] 0 (.fresh 0 0 (!w.params.followText "set-order")) }
def nmK : Bool → String
  | true => "list"
  | false => "tuple"
theorem isK_obj {h : Heap} {l : Addr} {items : Array Value} : ∀ {kd : Bool}, IsK kd h l items → ∃ dd n sl, h.get? l = some { cls := .type (nmK kd), dict := dd, data := .seq items n, slots := sl }
  | true, ⟨⟨c, dd, dt, sl⟩, ho, hc, n, hd⟩ => ⟨dd, n, sl, by
    replace hc : c = .type "list" := hc
    replace hd : dt = .seq items n := hd
    subst hc hd
    exact ho⟩
  | false, ⟨⟨c, dd, dt, sl⟩, ho, hc, n, hd⟩ => ⟨dd, n, sl, by
    replace hc : c = .type "tuple" := hc
    replace hd : dt = .seq items n := hd
    subst hc hd
    exact ho⟩
theorem IsK.push {h : Heap} {l : Addr} {items : Array Value} {o : Obj} : ∀ {kd : Bool}, IsK kd h l items → IsK kd (h.push o) l items
  | true, x => Heap.IsList.push x _
  | false, x => Heap.IsTuple.push x _
section
variable {P : Program} {w : World} {A : Around} {E : Value → Shared → Prop} {s : Shared}
theorem iterK {l : Addr} {items : Array Value} {Q : Value → Shared → Prop} : ∀ {kd : Bool}, IsK kd s.heap l items → Q (.ref s.heap.objs.size) { s with heap := s.heap.push (itObj kd l) } → wpAny (model P w) A (pyIter (.ref l)) Q E s
  | true, x, q => wpAny_pyIter_list x q
  | false, x, q => wpAny_pyIter_tuple x q
theorem walksK (hh : A.handled = none) (I l : Addr) (hne : l ≠ I) (items : Array Value) : ∀ kd : Bool, Walks P w A I [I, l] [I] items.size (fun i v => items[i]? = some v) (fun i h => ItrK kd h I l i ∧ IsK kd h l items)
  | true => Walks.list hh I l hne items
  | false => Walks.tuple hh I l hne items
theorem subK_set : ∀ kd : Bool, isSubtype (.type (nmK kd)) (.type "set") = pure false
  | true => F.sub_list_set
  | false => F.sub_tuple_set
theorem subK_frozen : ∀ kd : Bool, isSubtype (.type (nmK kd)) (.type "frozenset") = pure false
  | true => F.sub_list_frozenset
  | false => F.sub_tuple_frozenset
set_option maxHeartbeats 3200000 in
theorem call_setK {kd : Bool} {l : Addr} {items : Array Value} {Q : Value → Shared → Prop} (Good : Heap → Prop) (hl : IsK kd s.heap l items)
    (loop : ∀ R : Result → Shared → Prop, (∀ h' tk, Good h' → (∀ b o, s.heap.get? b = some o → h'.get? b = some o) → R (.ok (.ret .none)) { s with heap := h', toks := tk }) →
      codeAny (model P w) A.in1.in1 (.builtin "set.update.loop" ⟨[.ref s.heap.objs.size, .ref (s.heap.objs.size + 1)], []⟩) R { s with heap := (s.heap.push (set0 w)).push (itObj kd l) })
    (post : ∀ h' tk, Good h' → (∀ b o, s.heap.get? b = some o → h'.get? b = some o) → Q (.ref s.heap.objs.size) { s with heap := h', toks := tk }) :
    wpAny (model P w) A (call (.type "set") [.ref l]) Q E s := by
  have ⟨c0, t0, f0⟩ := F.called_set.mro
  have f1 := F.called_set.made
  have f2 := F.called_set.sub
  refine wpAny_call (codeAny_of_tree ?_)
  show wpAny _ _ (callAny (.type "set") _) _ _ _
  refine wpAny_pure ⟨Code.quiet_builtin _ (by decide +kernel), codeAny_builtin F.entry_type_call ?_⟩
  rw [Around.under_plain (weight_type_call_type "set" [.ref l] []) rfl]
  have f3 := F.called_set.notType
  have f4 := F.called_set.canCreate
  have f5 := F.typeCall_set_1 (.ref l)
  repeat (any_goals (first | assumption | wp_step))
  refine codeAny_mono (code_set_led1 (.ref l) (E := E) (Q₁ := fun v s1 => v = .ref s.heap.objs.size ∧ s1 = { s with heap := s.heap.push (set0 w) }) ⟨rfl, rfl⟩) fun r s1 hr => ?_
  match r, hr with
  | .error e, hr => exact hr
  | .ok (.ret v), hr =>
    obtain ⟨ev, es⟩ := hr
    subst ev es
    have g0 : (s.heap.push (set0 w)).get? s.heap.objs.size = some (set0 w) := Heap.get?_push_size _ rfl
    have g1 : Shared.TypeIs { s with heap := s.heap.push (set0 w) } (.ref s.heap.objs.size) "set" := ⟨_, g0, rfl⟩
    have g2 := F.called_set.init.lookup
    have g3 := F.called_set.init.bind (.ref s.heap.objs.size)
    repeat (any_goals (first | assumption | wp_step))
    refine codeAny_mono (codeAny_call_builtin (R := wants (fun r s2 => r = .none ∧ ∃ h' tk, s2 = { s with heap := h', toks := tk } ∧ Good h' ∧ (∀ b o, s.heap.get? b = some o → h'.get? b = some o)) E) F.called_set.init.plain F.entry_set_init (check_set_init_1 g1 ?_)) fun r2 s2 hr2 => ?_
    · have hl1 : IsK kd (s.heap.push (set0 w)) l items := hl.push
      obtain ⟨dd, n, sl, ho⟩ := isK_obj hl1
      have t1 := subK_set kd
      have t2 := subK_frozen kd
      have t3 : (Value.type (nmK kd) == Value.type "dict") = false := by cases kd <;> decide
      generalize nmK kd = T at ho t1 t2 t3
      unfold Builtin.«set.__init__» noKeywords Builtin.Frozenset.updateFrom
      generalize hPI : pyIter = PI
      wp_walk
      subst hPI
      refine iterK hl1 (wpAny_bind (wpAny_runValue ?_))
      have hz : (s.heap.push (set0 w)).objs.size = s.heap.objs.size + 1 := Heap.size_push ..
      show codeAny _ _ (.builtin "set.update.loop" ⟨[.ref s.heap.objs.size, .ref (s.heap.push (set0 w)).objs.size], []⟩) _ _
      rw [hz]
      refine loop _ fun h' tk good keep => ?_
      show wpAny _ _ _ _ _ _
      refine wpAny_pure ?_
      show wpAny _ _ (ret Value.none) _ _ _
      exact wpAny_pure ⟨rfl, h', tk, rfl, good, keep⟩
    · match r2, hr2 with
      | .error e, hr2 => exact hr2
      | .ok (.ret v), hr2 =>
        obtain ⟨ev, h', tk, es, good, keep⟩ := hr2
        subst ev es
        repeat (any_goals (first | assumption | wp_step))
        exact post _ _ good keep
end
section
variable {X : Cx}
def rSetIK (kd : Bool) (K : Frag) (w : World) : List V → Hp → VK → Prop := fun xs H Q => ∃ (p : Addr) (ns : List Int), xs = [.ref p] ∧ SqK kd K H p (ns.map V.int) ∧ ns.length < 64 ∧ ∀ q c, H q = none → c ≤ ns.length → Q (.ref q) (upd H q (SetO w q (fun j => decide (j ∈ ns)) c))
theorem c_setIK (hc : X.calm = true) (kd : Bool) : CallR X (.type "set") (rSetIK kd X.K X.w) := by
  intro pins s σ H xs us Q I r ⟨p, ns, e, hq, hl, q⟩
  subst e
  obtain ⟨its, rv, pt, lp⟩ := seqK I hq
  rw [Vals.ref1 r]
  have hi : IntsAre its.toArray.toList ns := intsAre_of rv
  have hn : its.toArray.size = ns.length := by rw [List.size_toArray, ← rv.length, List.length_map]
  have hz : (s.heap.push (set0 X.w)).objs.size = s.heap.objs.size + 1 := Heap.size_push ..
  have ne : p ≠ s.heap.objs.size + 1 := Nat.ne_of_lt (Nat.lt_succ_of_lt lp)
  have g0 : (s.heap.push (set0 X.w)).get? s.heap.objs.size = some (set0 X.w) := Heap.get?_push_size _ rfl
  have git : ((s.heap.push (set0 X.w)).push (itObj kd p)).get? (s.heap.objs.size + 1) = some (itObj kd p) := by rw [← hz]; exact Heap.get?_push_size _ (by cases kd <;> rfl)
  have hh : X.A.in1.in1.in1.handled = none := by simp [I.ok.hd hc]
  refine call_setK (fun h' => ∃ c, SetR X.w h' s.heap.objs.size (fun j => decide (j ∈ ns)) c ∧ c ≤ ns.length) pt (fun R hR => ?_) fun h' tk good keep => ?_
  · refine set_update_ints ((walksK hh (s.heap.objs.size + 1) p ne its.toArray kd).toS) s.heap.objs.size ?_ ns hn (by unfold scanBound; omega) (fun i v hv => ?_) (its.toArray.size - 0) 0 _ (by omega) (Nat.zero_le _) ⟨itr_of git, pt.push.push⟩ ⟨0, Nat.le_refl 0, setR_new_at (Heap.get?_push_of_some _ g0)⟩ fun s' c m hle S => ?_
    · simp only [List.mem_cons, List.not_mem_nil, or_false, not_or]
      exact ⟨Nat.ne_of_lt (Nat.lt_succ_self _), Nat.ne_of_gt lp⟩
    · have hlt : i < ns.length := by rw [← hn]; exact (Array.getElem?_eq_some_iff.mp hv).1
      obtain ⟨t, e⟩ := PyProof.Rows.IntsAre.int_at hi i v (by rw [Array.getElem?_toList]; exact hv)
      refine ⟨ns[i], t, List.getElem?_eq_getElem hlt, ?_⟩
      rw [e, List.getD_eq_getElem?_getD, List.getElem?_eq_getElem hlt]
      rfl
    · rw [Moved.eq_with m]
      refine hR s'.heap s'.toks ⟨c, S, by rw [← hn]; exact hle⟩ fun b o e => ?_
      have hb := Heap.lt_size e
      refine m.heap b o ?_ (Heap.get?_push_of_some _ (Heap.get?_push_of_some _ e))
      simp only [List.mem_cons, List.not_mem_nil, or_false, not_or]
      exact ⟨Nat.ne_of_lt hb, Nat.ne_of_lt (Nat.lt_succ_of_lt hb)⟩
  · obtain ⟨c, S, hle⟩ := good
    exact ⟨.ref _, _, I.laid (t' := tk) keep (Nat.le_refl _) (setO_new S), rfl, q _ c (I.hok.fresh (Nat.le_refl _)) hle⟩
def rSetTK (kd : Bool) (K : Frag) (P : Program) (w : World) : List V → Hp → VK → Prop := fun xs H Q => ∃ (l : Addr) (ks : List (Addr × List Int)), xs = [V.ref l] ∧ SqK kd K H l (ks.map fun p => V.ref p.1) ∧ (∀ p ∈ ks, SqT K H p.1 (p.2.map V.int)) ∧ ks.length < 64 ∧
  ∀ a L, H a = none → (∀ p ∈ L, p ∈ ks) → (∀ p ∈ ks, p.2 ∈ L.map (·.2)) → Q (.ref a) (upd H a (SetTO P w a L))
theorem c_setTK (hc : X.calm = true) (hu : X.A.units + 64 < cLine) (kd : Bool) : CallR X (.type "set") (rSetTK kd X.K X.prog X.w) := by
  intro pins s σ H xs us Q I r ⟨p, ks, e, hq, hk, hl, q⟩
  subst e
  obtain ⟨its, rv, pt, lp⟩ := seqK I hq
  rw [Vals.ref1 r]
  have hit : its.toArray.toList = ks.map fun p => Value.ref p.1 := by simpa using refs_of_vals rv
  have hn : its.toArray.size = ks.length := by
    have := congrArg List.length hit
    rw [Array.length_toList, List.length_map] at this
    exact this
  have hz : (s.heap.push (set0 X.w)).objs.size = s.heap.objs.size + 1 := Heap.size_push ..
  have ne : p ≠ s.heap.objs.size + 1 := Nat.ne_of_lt (Nat.lt_succ_of_lt lp)
  have g0 : (s.heap.push (set0 X.w)).get? s.heap.objs.size = some (set0 X.w) := Heap.get?_push_size _ rfl
  have git : ((s.heap.push (set0 X.w)).push (itObj kd p)).get? (s.heap.objs.size + 1) = some (itObj kd p) := by rw [← hz]; exact Heap.get?_push_size _ (by cases kd <;> rfl)
  have hh : X.A.in1.in1.in1.handled = none := by simp [I.ok.hd hc]
  have free : ∀ b, s.heap.objs.size ≤ b → s.heap.get? b = none := fun b hb => by
    cases e : s.heap.get? b with
    | none => rfl
    | some o => exact absurd (Nat.lt_of_lt_of_le (Heap.lt_size e) hb) (Nat.lt_irrefl _)
  refine call_setK (fun h' => ∃ L es ep t, SetTR X.prog X.w h' s.heap.objs.size L es ep t ∧ Got ks ks.length L) pt (fun R hR => ?_) fun h' tk good keep => ?_
  · refine set_update_tups ((walksK hh (s.heap.objs.size + 1) p ne its.toArray kd).toS) s.heap.objs.size ?_ ks hn hl (fun i v hv => ?_) s.heap (fun p hp => I.isT (hk p hp)) (free _ (Nat.le_refl _)) (fun b hb => free b ?_) (show X.A.units + 1 + 1 + 1 < cLine by omega) (its.toArray.size - 0) 0 _ (by omega) (Nat.zero_le _) ⟨itr_of git, pt.push.push⟩
      (fun b o e => Heap.get?_push_of_some _ (Heap.get?_push_of_some _ e)) ⟨[], #[], 0, _, setTR_fresh (Heap.get?_push_of_some _ g0), Got.zero ks⟩ fun s' L es ep t m S g kp => ?_
    · simp only [List.mem_cons, List.not_mem_nil, or_false, not_or]
      exact ⟨Nat.ne_of_lt (Nat.lt_succ_self _), Nat.ne_of_gt lp⟩
    · have e : its.toArray.toList[i]? = some v := by rw [Array.getElem?_toList]; exact hv
      rw [hit, List.getElem?_map, Option.map_eq_some_iff] at e
      obtain ⟨p, hp, rfl⟩ := e
      exact ⟨p, hp, rfl⟩
    · rw [List.mem_singleton.mp hb]
      exact Nat.le_succ _
    · rw [Moved.eq_with m]
      rw [hn] at g
      exact hR s'.heap s'.toks ⟨L, es, ep, t, S, g⟩ kp
  · obtain ⟨L, es, ep, t, S, g⟩ := good
    refine ⟨.ref _, _, I.laid (t' := tk) keep (Nat.le_refl _) (setTO_new S.t0), rfl, q _ L (I.hok.fresh (Nat.le_refl _)) (fun p hp => List.mem_of_mem_take (g.sub p hp)) fun p hp => g.all p ?_⟩
    rw [List.take_length]
    exact hp
end
section
variable {K : Frag} {Im H Im2 H2 : Hp} {w : W} {Q : VK}
theorem set_src {kd : Bool} {v : V} {xs : List D} (hs : Sub Im H) (hr : RVR K Im H v (.d (sqD kd xs))) (hi : xs.all isInt = true) : ∃ p ns, v = .ref p ∧ xs = ns.map .int ∧ xs.map intOf = ns ∧ SqK kd K H p (ns.map V.int) := by
  obtain ⟨ns, rfl⟩ := allInt_map hi
  obtain ⟨p, vs, rfl, hp, ra⟩ := rv_sq hs hr
  have e := ra.intsV
  subst e
  exact ⟨p, ns, rfl, rfl, by rw [List.map_map]; exact List.map_id' _, hp.sq fun _ e => e⟩
def tupI (ns : List Int) : D := .tuple (ns.map .int)
theorem eqDs_self : ∀ ns : List Int, eqDs (ns.map PyData.int) (ns.map PyData.int) = true
  | [] => rfl
  | n :: ns => by
    rw [List.map_cons, eqDs, eqDs_self ns, Bool.and_true]
    show (n == n) = true
    exact beq_self_eq_true n
theorem cmpOks_ints : ∀ ns ms : List Int, cmpOks (ns.map PyData.int) (ms.map PyData.int) = true
  | [], [] => rfl
  | [], _ :: _ => rfl
  | _ :: _, [] => rfl
  | _ :: ns, _ :: ms => by
    rw [List.map_cons, List.map_cons, cmpOks, cmpOks_ints ns ms]
    rfl
theorem cmp_tupI (ns ms : List Int) : cmpOk (tupI ns) (tupI ms) = true := by
  unfold tupI
  rw [cmpOk]
  exact cmpOks_ints ns ms
theorem eq_tupI (ns ms : List Int) : eqD (tupI ns) (tupI ms) = true ↔ ns = ms := by
  constructor
  · intro h
    have e := eqD_eq _ _ (cmp_tupI ns ms) h
    injection e with e
    exact List.map_inj_right (fun a b h => by injection h) |>.mp e
  · intro h
    subst h
    unfold tupI
    rw [eqD]
    exact eqDs_self ns
theorem tupI_inj {ns ms : List Int} (h : tupI ns = tupI ms) : ns = ms := (eq_tupI ns ms).mp (by rw [← h]; exact (eq_tupI ns ns).mpr rfl)
theorem mem_dedup : ∀ (ts : List (List Int)) (y : D), y ∈ dedup (ts.map tupI) ↔ y ∈ ts.map tupI
  | [], _ => Iff.rfl
  | t :: ts, y => by
    rw [List.map_cons, dedup]
    split
    · rename_i h
      rw [mem_dedup ts y, List.mem_cons]
      refine ⟨.inr, fun z => z.elim (fun z => ?_) id⟩
      subst z
      obtain ⟨x, hx, e⟩ := List.any_eq_true.mp h
      obtain ⟨u, hu, rfl⟩ := List.mem_map.mp hx
      rw [(eq_tupI t u).mp e]
      exact List.mem_map_of_mem hu
    · rw [List.mem_cons, List.mem_cons, mem_dedup ts y]
theorem nodup_dedup : ∀ ts : List (List Int), (dedup (ts.map tupI)).Nodup
  | [] => List.nodup_nil
  | t :: ts => by
    rw [List.map_cons, dedup]
    split
    · exact nodup_dedup ts
    · rename_i h
      refine List.nodup_cons.mpr ⟨fun z => h ?_, nodup_dedup ts⟩
      rw [mem_dedup] at z
      exact List.any_eq_true.mpr ⟨_, z, (eq_tupI t t).mpr rfl⟩
theorem smallI_is {x : D} (h : smallI x = true) : ∃ i, x = .int i ∧ 0 ≤ i ∧ i < 64 := by
  cases x with
  | int i =>
    have h : (decide (0 ≤ i) && decide (i < 64)) = true := h
    rw [Bool.and_eq_true] at h
    exact ⟨i, rfl, of_decide_eq_true h.1, of_decide_eq_true h.2⟩
  | _ => cases h
theorem allSmall : ∀ {xs : List D}, xs.all smallI = true → ∃ ns, xs = ns.map .int ∧ TS.Bd 64 ns
  | [], _ => ⟨[], rfl, fun m h => nomatch h⟩
  | x :: xs, h => by
    rw [List.all_cons, Bool.and_eq_true] at h
    obtain ⟨i, rfl, h0, h1⟩ := smallI_is h.1
    obtain ⟨ns, rfl, hb⟩ := allSmall h.2
    refine ⟨i :: ns, rfl, fun m hm => ?_⟩
    rcases List.mem_cons.mp hm with rfl | hm
    · exact ⟨h0, h1⟩
    · exact hb m hm
theorem tups_src : ∀ {vs : List V} {xs : List D}, RpAll K Im vs xs → xs.all isIntTup = true → ∃ ks : List (Addr × List Int), vs = ks.map (fun p => V.ref p.1) ∧ xs = ks.map (fun p => tupI p.2) ∧ ∀ p ∈ ks, TupAt Im p.1 (p.2.map V.int) ∧ TS.Bd 64 p.2
  | _, _, .nil, _ => ⟨[], rfl, rfl, fun _ h => nomatch h⟩
  | _, _, .cons (d := d) r t, h => by
    rw [List.all_cons, Bool.and_eq_true] at h
    obtain ⟨ks, e1, e2, h3⟩ := tups_src t h.2
    subst e1 e2
    cases r with
    | @tup a vs ds ta ra =>
      have h1 : ds.all smallI = true := h.1
      obtain ⟨ns, rfl, hb⟩ := allSmall h1
      have e := ra.intsV
      subst e
      refine ⟨(a, ns) :: ks, rfl, rfl, fun p hp => ?_⟩
      rcases List.mem_cons.mp hp with rfl | hp
      · exact ⟨ta, hb⟩
      · exact h3 p hp
    | _ => cases h.1
theorem okDs_ints (n : Nat) : ∀ ns : List Int, okDs (ns.map PyData.int) n = true
  | [] => rfl
  | i :: ns => by
    rw [List.map_cons, okDs, okDs_ints n ns, Bool.and_true]
    cases n <;> rfl
theorem okDs_tupIs : ∀ ts : List (List Int), okDs (ts.map tupI) 20 = true
  | [] => rfl
  | t :: ts => by
    rw [List.map_cons, okDs, okDs_tupIs ts, Bool.and_true]
    unfold tupI
    rw [okD]
    exact okDs_ints 19 t
theorem cmpAll_tupIs (ts : List (List Int)) : cmpAll (ts.map tupI) = true := by
  unfold cmpAll
  rw [okDs_tupIs, Bool.true_and, List.all_eq_true]
  intro x hx
  rw [List.all_eq_true]
  intro y hy
  obtain ⟨a, _, rfl⟩ := List.mem_map.mp hx
  obtain ⟨b, _, rfl⟩ := List.mem_map.mp hy
  exact cmp_tupI a b
theorem sortD_same {xs ys : List D} (h : ∀ x ∈ xs, ∀ y ∈ xs, cmpOk x y = true) (p : ys.Perm xs) : sortD ltD ys = sortD ltD xs := by
  have h' : ∀ x ∈ ys, ∀ y ∈ ys, cmpOk x y = true := fun x hx y hy => h x (p.mem_iff.mp hx) y (p.mem_iff.mp hy)
  refine sortD_is h ((sortD_perm ys).trans p) (sortD_sorted (fun x hx y hy => ltD_asym x y) (fun x hx y hy z hz a b => le_trans3 (h' x hx y hy) (h' y hy z hz) (h' x hx z hz) a b))
/-- sorted of the set at a -/
def rSortedM (K : Frag) (P : Program) (w : World) : List V → Hp → VK → Prop := fun vs H Q => ∃ (a : Addr) (L : List (Addr × List Int)), vs = [V.ref a] ∧ H a = some (SetTO P w a L) ∧ (∀ p ∈ L, SqT K H p.1 (p.2.map V.int)) ∧
  ∃ (Im : Hp) (ds : List D), Sub Im H ∧ RpAll K Im (L.map fun p => V.ref p.1) ds ∧ cmpAll ds = true ∧ ((L.map (·.2)).Nodup → Wants K Im H (.new (.lst (sortD ltB ds))) Q)
theorem cr_sortedM {X : Cx} (hc : X.calm = true) (hu : X.A.units + 64 < cLine) : CallR X (.builtin "sorted") (rSortedM X.K X.prog X.w) := by
  intro pins s σ H vs us Q I r h
  obtain ⟨a, L, rfl, ha, hk, Im, ds, hs, ra, hcmp, q⟩ := h
  have R0 : SetT0 X.prog X.w s.heap a L := (I.hok a _ ha).1
  obtain ⟨es, ep, t, R⟩ := R0.full fun p hp => I.isT (hk p hp)
  rw [Vals.ref1 r]
  have hfew := R.few
  exact c_sortedP hu I hs (vals_of_refs L) (by rw [List.length_map, sizeLine_eq]; omega) (fun ltv Q O hS h => sorted_setO O R (I.ok.hd hc) hS h) ra hcmp (q R.nd)
variable {σ : L2.St} (sig : SigF) (cf : CF)
def tSS (X : Cx) (kd : Bool) (t : TE) : TE := fun σ H Q => tCB (rSortedSet X.w) (tCons (tCB (rSetIK kd X.K X.w) (tCons t tNil)) tNil) σ H Q ∨ tCB (rSortedM X.K X.prog X.w) (tCons (tCB (rSetTK kd X.K X.prog X.w) (tCons t tNil)) tNil) σ H Q
theorem sortedset_is {r : RV} {x : W} (e : a1_sortedset r = some x) : ∃ kd xs, r = .d (sqD kd xs) ∧ sortedSet xs = some x := by
  unfold a1_sortedset at e
  split at e
  · exact ⟨false, _, rfl, e⟩
  · exact ⟨true, _, rfl, e⟩
  · cases e
theorem lenset_is {r : RV} {x : W} (e : a1_lenset r = some x) : ∃ kd xs, r = .d (sqD kd xs) ∧ lenSet xs = some x := by
  unfold a1_lenset at e
  split at e
  · exact ⟨false, _, rfl, e⟩
  · exact ⟨true, _, rfl, e⟩
  · cases e
theorem tev_sortedset {X : Cx} {ea : E} {Q : VK} (h : TEv X.K (ev sig cf (.op1 .sortedset ea)) σ H Q) : tSS X true (TEv X.K (ev sig cf ea)) σ H Q ∨ tSS X false (TEv X.K (ev sig cf ea)) σ H Q := by
  obtain ⟨s, Im, R, w, s1, e, k⟩ := h
  rw [ev] at e
  simp only [Option.bind_eq_bind, Option.bind_eq_some_iff, Option.pure_def, Option.some.injEq, Prod.mk.injEq] at e
  obtain ⟨⟨w1, s1⟩, e1, r, e3, x, e5, rfl, rfl⟩ := e
  obtain ⟨kd, xs, er, e5'⟩ := sortedset_is e5
  subst er
  clear e5
  have e5 := e5'
  have core : tSS X kd (TEv X.K (ev sig cf ea)) σ H Q := by
    unfold sortedSet at e5
    split at e5
    · rename_i hc
      rw [Bool.and_eq_true] at hc
      cases e5
      refine .inl ⟨s, Im, R, w1, s1, e1, fun Im1 v1 H1 R1 st1 x1 => ?_⟩
      have wt : Wants X.K Im1 H1 (.new (.lst ((setI (xs.map intOf)).map .int))) Q := fun Im3 z H3 g res => k Im3 z H3 (R1.grow g) (st1.grow g) ((res.wr R1).before st1)
      obtain ⟨p, ns, rfl, e6, e7, hq⟩ := set_src R1.sub (x1.rv R1 e3) hc.1
      have hl : ns.length < 64 := by
        have := of_decide_eq_true hc.2
        rw [e6, List.length_map] at this
        exact this
      refine ⟨p, ns, rfl, hq, hl, fun q c hn hcn => ⟨q, _, c, rfl, upd_same, by omega, fun ns' p' h1 h2 h3 h4 => ?_⟩⟩
      have en : ns' = setI ns := asc_one h1 (setI_asc ns) fun k => by rw [h2 k, decide_eq_true_eq, setI_mem]
      subst en
      rw [e7] at wt
      have g : Grow Im1 H1 Im1 (upd H1 q (SetO X.w q (fun j => decide (j ∈ ns)) c)) := Grow.apart R1.sub hn
      exact (wt.after g).lst g.sub (RpAll.ints _) p' h4
    · split at e5
      · rename_i hc
        rw [Bool.and_eq_true] at hc
        cases e5
        refine .inr ⟨s, Im, R, w1, s1, e1, fun Im1 v1 H1 R1 st1 x1 => ?_⟩
        have wt : Wants X.K Im1 H1 (.new (.lst (sortD ltB (dedup xs)))) Q := fun Im3 z H3 g res => k Im3 z H3 (R1.grow g) (st1.grow g) ((res.wr R1).before st1)
        obtain ⟨p, vs, rfl, hp, ra⟩ := rv_sq R1.sub (x1.rv R1 e3)
        obtain ⟨ks, ev, ex, hk⟩ := tups_src ra hc.1
        subst ev ex
        have hl : ks.length < 64 := by
          have := of_decide_eq_true hc.2
          rw [List.length_map] at this
          exact this
        have em : ks.map (fun p => tupI p.2) = (ks.map (·.2)).map tupI := by rw [List.map_map]; rfl
        refine ⟨p, ks, rfl, hp.sq fun _ e => e, fun q hq => ((hk q hq).1.keep fun _ => R1.sub _ _).sq, hl, fun a L hn hL hL2 => ?_⟩
        have g : Grow Im1 H1 Im1 (upd H1 a (SetTO X.prog X.w a L)) := Grow.apart R1.sub hn
        have rL : ∀ L : List (Addr × List Int), (∀ q ∈ L, q ∈ ks) → RpAll X.K Im1 (L.map fun q => V.ref q.1) (L.map fun q => tupI q.2) := by
          intro L
          induction L with
          | nil => intro _; exact .nil
          | cons q L ih => intro h; exact .cons (.tup (hk q (h q (List.mem_cons_self ..))).1 (RpAll.ints _)) (ih fun q hq => h q (List.mem_cons_of_mem _ hq))
        have eL : L.map (fun q => tupI q.2) = (L.map (·.2)).map tupI := by rw [List.map_map]; rfl
        refine ⟨a, L, rfl, upd_same, fun q hq => ((hk q (hL q hq)).1.keep fun _ => g.sub _ _).sq, Im1, L.map (fun q => tupI q.2), g.sub, rL L hL, by rw [eL]; exact cmpAll_tupIs _, fun nd => ?_⟩
        have eD : sortD ltD (L.map fun q => tupI q.2) = sortD ltD (dedup (ks.map fun p => tupI p.2)) := by
          refine sortD_same (fun x hx y hy => ?_) ?_
          · rw [em, mem_dedup] at hx hy
            obtain ⟨u, _, rfl⟩ := List.mem_map.mp hx
            obtain ⟨v, _, rfl⟩ := List.mem_map.mp hy
            exact cmp_tupI u v
          · refine (List.perm_ext_iff_of_nodup ?_ (by rw [em]; exact nodup_dedup _)).mpr fun y => ?_
            · rw [eL]
              have nd' : (L.map (·.2)).Pairwise (· ≠ ·) := nd
              exact List.pairwise_map.mpr (nd'.imp fun h z => h (tupI_inj z))
            · rw [em, mem_dedup, ← em, List.mem_map, List.mem_map]
              constructor
              · rintro ⟨q, hq, rfl⟩
                exact ⟨q, hL q hq, rfl⟩
              · rintro ⟨q, hq, rfl⟩
                obtain ⟨q', h1, h2⟩ := List.mem_map.mp (hL2 q hq)
                exact ⟨q', h1, by rw [h2]⟩
        rw [← show sortD ltB (L.map fun q => tupI q.2) = sortD ltB (dedup (ks.map fun p => tupI p.2)) from eD] at wt
        exact wt.after g
      · cases e5
  cases kd
  · exact .inr core
  · exact .inl core
def tLS (X : Cx) (kd : Bool) (t : TE) : TE := tCB (fun xs H Q => ∃ a S n, xs = [.ref a] ∧ H a = some (SetO X.w a S n) ∧ n < 64 ∧ ((∃ l : List Int, l.Nodup ∧ l.length = n ∧ ∀ k, k ∈ l ↔ S k = true) → Q (.int n) H)) (tCons (tCB (rSetIK kd X.K X.w) (tCons t tNil)) tNil)
theorem tev_lenset {X : Cx} {ea : E} {Q : VK} (h : TEv X.K (ev sig cf (.op1 .lenset ea)) σ H Q) : tLS X true (TEv X.K (ev sig cf ea)) σ H Q ∨ tLS X false (TEv X.K (ev sig cf ea)) σ H Q := by
  obtain ⟨s, Im, R, w, s1, e, k⟩ := h
  rw [ev] at e
  simp only [Option.bind_eq_bind, Option.bind_eq_some_iff, Option.pure_def, Option.some.injEq, Prod.mk.injEq] at e
  obtain ⟨⟨w1, s1⟩, e1, r, e3, x, e5, rfl, rfl⟩ := e
  obtain ⟨kd, xs, er, e5'⟩ := lenset_is e5
  subst er
  clear e5
  have e5 := e5'
  have core : tLS X kd (TEv X.K (ev sig cf ea)) σ H Q := by
    unfold lenSet at e5
    split at e5
    · rename_i hc
      rw [Bool.and_eq_true] at hc
      cases e5
      refine ⟨s, Im, R, w1, s1, e1, fun Im1 v1 H1 R1 st1 x1 => ?_⟩
      have wt : Wants X.K Im1 H1 (.d (.int (setI (xs.map intOf)).length)) Q := fun Im3 z H3 g res => k Im3 z H3 (R1.grow g) (st1.grow g) ((res.wr R1).before st1)
      obtain ⟨p, ns, rfl, e6, e7, hq⟩ := set_src R1.sub (x1.rv R1 e3) hc.1
      have hl : ns.length < 64 := by
        have := of_decide_eq_true hc.2
        rw [e6, List.length_map] at this
        exact this
      refine ⟨p, ns, rfl, hq, hl, fun q c hn hcn => ⟨q, _, c, rfl, upd_same, by omega, fun ⟨l, h1, h2, h3⟩ => ?_⟩⟩
      have en : c = (setI ns).length := by
        rw [← h2]
        exact (perm_same h1 (nodup_asc (setI_asc ns)) fun k => by rw [h3 k, decide_eq_true_eq, setI_mem]).length_eq
      subst en
      rw [e7] at wt
      have g : Grow Im1 H1 Im1 (upd H1 q (SetO X.w q (fun j => decide (j ∈ ns)) (setI ns).length)) := Grow.apart R1.sub hn
      exact (wt.after g).int g.sub
    · cases e5
  cases kd
  · exact .inr core
  · exact .inl core
end
end PV
namespace PV
open PySem PySem.Spec PyProof.Rows L2
section
variable {X : Cx}
theorem pe_dict0 {pos : Pos} : PE X (.Dict [] [] pos) (fun _ H Q => ∀ p, H p = none → Q (.ref p) (upd H p (dctO p emptyO []))) := ⟨fun pins s σ H Q I h => by
  have J : Inv X pins σ (upd H s.heap.objs.size (dctO s.heap.objs.size emptyO [])) { s with heap := s.heap.push emptyO, toks := s.toks } :=
    I.laid (fun _ _ u => Heap.get?_push_of_some _ u) (Nat.le_refl _) (dctO_ok (DctAt.empty s.heap I.big))
  exact wpAny_Dict_empty ⟨.ref _, _, J, rfl, h _ (I.hok.fresh (Nat.le_refl _))⟩⟩
def tDct1 (K : Frag) (tk tv : TE) : TE := fun σ H Q => ∀ p, H p = none → tk σ (upd H p (dctO p emptyO [])) fun x H1 => tv σ H1 fun y H2 => H2 p = some (dctO p emptyO []) ∧
  ∃ k d Im, Sub Im H2 ∧ keyOk k = true ∧ Rp K Im x k ∧ Rp K Im y d ∧ ∀ o, Q (.ref p) (upd H2 p (dctO p o [⟨keyN k, x, y⟩]))
theorem pe_dict1 {a b : Expr} {tk tv : TE} {pos : Pos} (hu : X.A.units + 65 < cLine) (ha : PE X a tk) (hb : PE X b tv) : PE X (.Dict [some a] [b] pos) (tDct1 X.K tk tv) := by
  refine ⟨fun pins s σ H Q I h => ?_⟩
  have hn := I.hok.fresh (Nat.le_refl s.heap.objs.size)
  have J : Inv X pins σ (upd H s.heap.objs.size (dctO s.heap.objs.size emptyO [])) { s with heap := s.heap.push emptyO, toks := s.toks } :=
    I.laid (fun _ _ u => Heap.get?_push_of_some _ u) (Nat.le_refl _) (dctO_ok (DctAt.empty s.heap I.big))
  rw [arm_eval_Dict, show (evalEachOpt [some a] X.env).zip ((evalEach [b] X.env).map fun v => do let x ← v; standAt pos; pure x) = (pairTrees [some a] [b] X.env pos).map fun p => (some p.1, p.2) from rfl,
    dictDisplay_pairs (pairTrees [some a] [b] X.env pos) (by unfold pairTrees; exact List.cons_ne_nil _ _) (by show 1 < 17; decide)]
  have room : (nestedKind X.prog X.w).room X.A := by
    show X.A.units + 8 < cLine
    omega
  refine wpAny_bind (wpAny_standAt (wpAny_bind (wpAny_subDictH (knd := nestedKind X.prog X.w) room (by show 1 ≤ 15; decide) ?_)))
  refine pairTrees_cons_walk (thn (ha.run pins _ σ _ _ J (h _ hn)) fun u1 s1 ⟨x, H1, I1, r1, q1⟩ => thn (hb.run pins s1 σ H1 _ I1 q1) fun u2 s2 ⟨y, H2, I2, r2, q2⟩ => pairTrees_nil_walk ?_)
  obtain ⟨hd, k, d, Im, hs, hk, rk, rd, q⟩ := q2
  obtain ⟨c, rfl⟩ := key_ref hk rk
  have e1 : u1 = Value.ref c := r1
  subst e1
  obtain ⟨hsys, xs, hx, g⟩ := dct_ofH I2 hs hd (.nil : DRel X.K Im [] [])
  cases g
  refine ⟨[(keyN k, c, u2)], ⟨rfl, rfl, key_at I2 hs hk rk, trivial⟩, hx, fun h' tk hx' sb => wpAny_pure ?_⟩
  obtain ⟨ob, es, ep, f1, f2, f3, f4, _, f6⟩ := hx'
  have g' : X3 [⟨keyN k, .ref c, y⟩] [(keyN k, c, u2)] := .cons ⟨rfl, rfl, r2⟩ .nil
  have r' : DRel X.K Im [⟨keyN k, .ref c, y⟩] [(k, d)] := .cons ⟨hk, rfl, rk, rd⟩ .nil
  have new : DctAt s.heap.objs.size ob [⟨keyN k, .ref c, y⟩] h' := ⟨es, ep, f1, f2, f3, by rw [f4]; exact ent_of r' g', by simp, hsys⟩
  exact ⟨.ref _, _, d_write I2 (by rw [hd]; trivial) sb ⟨ob, f1⟩ (dctO_ok new), rfl, q ob⟩
def rGetD (K : Frag) : V → List V → Hp → VK → Prop := fun x xs H Q => ∃ p o E kvs y z k Im, x = .ref p ∧ xs = [y, z] ∧ Sub Im H ∧ H p = some (dctO p o E) ∧ DRel K Im E kvs ∧ keyOk k = true ∧ Rp K Im y k ∧
  (∀ d V, dfind kvs k = some d → Rp K Im V d → Q V H) ∧ (dfind kvs k = none → Q z H)
theorem mt_get (hu : X.A.units + 65 < cLine) : MtR X "dict.get" (rGetD X.K) := by
  intro pins s σ H x xs v us Q I rx rs ⟨p, o, E, kvs, y, z, k, Im, e1, e2, hs, ha, r, hk, rk, q1, q2⟩
  subst e1 e2
  cases rx
  obtain ⟨u1, u2, rfl, ry, rz⟩ := Vals.two rs
  obtain ⟨b, rfl⟩ := key_ref hk rk
  cases ry
  obtain ⟨hsys, xs, hx, g⟩ := dct_ofH I hs ha r
  refine call_meetsIn F.slot_dict_get hx.typeIs F.entry_dict_get (F.args_dict_get_3 _ _ _) (meetsH_dict_get_default (nestedKind X.prog X.w) p b hsys u2) ⟨roomD hu, keyN k, xs, key_at I hs hk rk, hx, ?_⟩
  cases e : dfind kvs k with
  | none =>
    rw [look_no hk r g e]
    exact ⟨z, H, I.tok _, rz, q2 e⟩
  | some d =>
    obtain ⟨b', u', V, h1, h2, h3⟩ := look_yes hk r g e
    rw [h1]
    exact ⟨V, H, I.tok _, h2, q1 d V e h3⟩
def tBD (r : V → List V → Hp → VK → Prop) (to : TE) (t : TA) : TE := fun σ H Q => to σ H fun x H1 => (∃ p o E, x = .ref p ∧ H1 p = some (dctO p o E)) ∧ t σ H1 fun vs H2 => r x vs H2 Q
theorem pe_bmD {o e : Expr} {es : List Expr} {to : TE} {t : TA} {name : Str} {ap cp : Pos} {id : String} {r : V → List V → Hp → VK → Prop} (slot : PySem.Slot "dict" name id) (ty : typeOf (.builtin id) = pure (.type "method_descriptor"))
    (hm : MtR X id r) (ho : PE X o to) (ha : PA X (e :: es) t) (base : attributeBase o name X.env (eval o X.env) = eval o X.env)
    (few : ((backTo cp (starEach (e :: es) X.env)).all (fun x => !x.1) && (backToKw cp (keywordEach [] X.env)).all (fun x => x.1.isSome) && decide ((e :: es).length + ([] : List Keyword).length + (if ([] : List Keyword).isEmpty then 0 else 1) < 30)) = true)
    (line : (ap.endLine == cp.line) = true) (hs : starEach (e :: es) X.env = (false, eval e X.env) :: starEach es X.env) (hp : (backTo cp (starEach es X.env)).any (·.1) = false) : PE X (.Call (.Attribute o name ap) (e :: es) [] cp) (tBD r to t) := by
  refine ⟨fun pins s σ H Q I h => wpAny_Call_method_late base few line rfl (thn (ho.run pins s σ H _ I h) fun v s1 hx => ?_)⟩
  obtain ⟨x, H1, I1, rx, ⟨p, ob, E, ex, ea⟩, q⟩ := hx
  subst ex
  cases rx
  obtain ⟨_, _, g, hc, _⟩ := dctO_get I1 ea
  have hrun := ha.run cp pins s1 σ H1 _ I1 q
  rw [hs] at hrun ⊢
  refine ⟨"dict", id, PySem.F.plainAttrs_dict, slot, ty, ⟨ob, g, hc.1⟩, fun a e2 => ?_, Calls.callWith_builtin (show (false || (backTo cp (starEach es X.env)).any (·.1)) = false by rw [hp]; rfl) (Calls.evalArgs_plain ?_)⟩
  · cases e2
    exact ⟨ob, g, hc.2.1⟩
  · exact thn hrun fun us s2 hy => by
      obtain ⟨vs, H2, I2, r2, q2⟩ := hy
      exact hm pins s2 σ H2 (.ref p) vs (.ref p) us Q I2 rfl r2 q2
end
section
variable {K : Frag} {σ : L2.St} {H : Hp} (sig : SigF) (cf : CF)
theorem tev_dict0 {Q : VK} (h : TEv K (ev sig cf .dict0) σ H Q) : ∀ p, H p = none → Q (.ref p) (upd H p (dctO p emptyO [])) := by
  obtain ⟨s, Im, R, w, s', e, k⟩ := h
  rw [ev] at e
  cases e
  have wt : Wants K Im H (.new (.dct [])) Q := fun Im3 z H3 g res => k Im3 z H3 (R.grow g) g.sto (res.wr R)
  exact fun p hn => wt.dct R.sub .nil p emptyO hn
theorem tev_conE {Q : VK} (h : TEv K (ev sig cf (.con (.dict []))) σ H Q) : tDNewK σ H Q := by
  obtain ⟨s, Im, R, w, s', e, k⟩ := h
  rw [ev] at e
  cases e
  have wt : Wants K Im H (.d (.dict [])) Q := fun Im3 z H3 g res => k Im3 z H3 (R.grow g) g.sto (res.wr R)
  exact wt.emp R.sub
theorem tev_dict1 {ek ez : E} {Q : VK} (h : TEv K (ev sig cf (.dict1 ek ez)) σ H Q) : tDct1 K (TEv K (ev sig cf ek)) (TEv K (ev sig cf ez)) σ H Q := by
  obtain ⟨s, Im, R, w, s', e, k⟩ := h
  rw [ev] at e
  simp only [Option.bind_eq_bind, Option.bind_eq_some_iff] at e
  obtain ⟨⟨w1, s1⟩, e1, ⟨kd, s2⟩, e2, ⟨w2, s3⟩, e3, ⟨vd, s4⟩, e4, e5⟩ := e
  split at e5
  · rename_i hk
    cases e5
    intro D hD
    have hI : Im D = none := by
      cases q : Im D with
      | none => rfl
      | some u => rw [R.sub _ _ q] at hD; cases hD
    have g0 : Grow Im H Im (upd H D (dctO D emptyO [])) := Grow.apart R.sub hD
    have R0 := R.grow g0
    have a0 : Apart σ Im (upd H D (dctO D emptyO [])) s D (dctO D emptyO []) := ⟨upd_same, hI, fun i k c f1 f2 => by
      obtain ⟨p, h1, h2, _⟩ := R.m i k c f1
      rw [f2] at h1
      cases h1
      obtain ⟨o, ho⟩ := h2.there
      rw [hD] at ho
      cases ho⟩
    refine ⟨s, Im, R0, w1, s1, e1, fun Im1 x H1 R1 st1 x1 => ?_⟩
    obtain ⟨Im2, R2, st2, r2, _⟩ := toD_next R1 st1 x1 e2
    refine ⟨s2, Im2, R2, w2, s3, e3, fun Im3 y H3 R3 st3 x3 => ?_⟩
    obtain ⟨Im4, R4, st4, r4, g4⟩ := toD_next R3 st3 x3 e4
    have a4 := (a0.later st2).later st4
    refine ⟨a4.at_, kd, vd, Im4, R4.sub, hk, (r2.mono st3.mono).mono g4, r4, fun o => ?_⟩
    have st : Sto (Tch σ s) σ s Im H σ s4 Im4 H3 := (g0.sto (T := Tch σ s) (σ := σ) (s := s)).trans (st2.trans st4)
    have stF : Sto (Tch σ s) σ s Im H σ s4 Im4 (upd H3 D (dctO D o [⟨keyN kd, x, y⟩])) :=
      st.transT (T1 := fun p => False ∨ p = D) (.updApart) fun p h => h.elim (fun h => h.elim) fun h => .inl (by rw [h]; exact hD)
    exact k Im4 (.ref D) _ (R4.updApart a4.im a4.no) stF (.new hD (.dct upd_same (.cons ⟨hk, rfl, (r2.mono st3.mono).mono g4, r4⟩ .nil)) a4.im a4.no)
  · cases e5
theorem tev_get {ed ek ez : E} {Q : VK} (h : TEv K (ev sig cf (.get ed ek ez)) σ H Q) : tBD (rGetD K) (TEv K (ev sig cf ed)) (tCons (TEv K (ev sig cf ek)) (tCons (TEv K (ev sig cf ez)) tNil)) σ H Q := by
  obtain ⟨s, Im, R, w, s', e, k⟩ := h
  rw [ev] at e
  simp only [Option.bind_eq_bind, Option.bind_eq_some_iff] at e
  obtain ⟨⟨w1, s1⟩, e1, r0, e2, _, e3, ⟨w2, s2⟩, e4, ⟨kd, s3⟩, e5, ⟨w3, s4⟩, e6, ⟨zd, s5⟩, e7, r, e8, kvs, e9, e10⟩ := e
  have hr0 : ∃ m, r0 = .dct m := by
    unfold okDct at e3
    split at e3
    · exact ⟨_, rfl⟩
    · cases e3
  have hr : r = .dct kvs := by
    unfold asDct at e9
    split at e9
    · cases e9; rfl
    · cases e9
  obtain ⟨m, rfl⟩ := hr0
  subst hr
  split at e10
  · rename_i hk
    cases e10
    refine ⟨s, Im, R, w1, s1, e1, fun Im1 v1 H1 R1 st1 x1 => ⟨?_, s1, Im1, R1, w2, s2, e4, fun Im2 v2 H2 R2 st2 x2 => ?_⟩⟩
    · obtain ⟨p, o, E, h1, h2, _⟩ := (x1.rv R1 e2).dct
      exact ⟨p, o, E, h1, h2⟩
    · obtain ⟨Im3, R3, st3, r3, g3⟩ := toD_next R2 st2 x2 e5
      refine ⟨s3, Im3, R3, w3, s4, e6, fun Im4 v4 H4 R4 st4 x4 => ?_⟩
      obtain ⟨Im5, R5, st5, r5, g5⟩ := toD_next R4 st4 x4 e7
      have x1' := (x1.later st3).later st5
      obtain ⟨p, o, E, rfl, ha, rd⟩ := (x1'.rv R5 e8).dct
      have stF := st1.trans (st3.trans st5)
      refine ⟨p, o, E, kvs, v2, v4, kd, Im5, rfl, rfl, R5.sub, ha, rd, hk, (r3.mono st4.mono).mono g5, fun d V hd rV => ?_, fun hd => ?_⟩
      · rw [hd] at k
        exact k Im5 V H4 R5 stF (.d rV)
      · rw [hd] at k
        exact k Im5 v4 H4 R5 stF (.d r5)
  · cases e10
end
end PV
namespace PV
open PySem PySem.Spec PyProof.Rows L2
theorem pair_at {α β : Type} {F : α → β → Prop} : ∀ {xs : List α} {ys : List β}, Paired F xs ys → ∀ (i : Nat) {y : β}, ys[i]? = some y → ∃ x, xs[i]? = some x ∧ F x y
  | _, _, .nil, i, y, h => by simp at h
  | _, _, .cons r t, 0, y, h => by
    simp at h
    subst h
    exact ⟨_, rfl, r⟩
  | _, _, .cons r t, i + 1, y, h => by
    obtain ⟨x, h1, h2⟩ := pair_at t i (by simpa using h)
    exact ⟨x, by simpa using h1, h2⟩
/-- the keys of the dict at d -/
def Itdk (d : Addr) (o : Obj) (E : List Ent) : It :=
  ⟨fun i H => H d = some (dctO d o E) ∧ i < E.length, fun i H x H' => H' = H ∧ ∃ y, E[i]? = some y ∧ x = y.kv, fun i H => H d = some (dctO d o E) ∧ i = E.length⟩
theorem turn_keysD {P : Program} {w : World} {K : Frag} {tg : Expr} {d it : Addr} {o : Obj} {E : List Ent} {es : Array DictEntry} {ep : Nat} (hod : o.data = .dict es ep) (hsz : es.size = E.length) :
    Turn P w K tg (Itdk d o E) [it] it (fun i h => h.IsKeyIter it d i es.size ep) where
  mem := List.mem_singleton.mpr rfl
  obj := fun i h st b hb => by
    cases List.mem_singleton.mp hb
    obtain ⟨q, e, _, f⟩ := st
    exact ⟨q, e, fun v z => by rw [f] at z; cases z⟩
  keep := fun i h h' st k => st.at fun q e => k it (List.mem_singleton.mpr rfl) q e
  item := by
    intro X hP hw hK hc i pins s σ H G I hf st hg
    subst hP hw hK
    obtain ⟨f0, f1, f2, f3, f4, f5⟩ := hf it (List.mem_singleton.mpr rfl)
    obtain ⟨es', ep', g1, g2, g3, g4, _, _⟩ := dctO_get I hg.1
    obtain ⟨e1, e2⟩ := dict_ep hod g3
    subst e1 e2
    have hlt : i < es'.size := by rw [hsz]; exact hg.2
    refine wpAny_pyNext_keys_item_raw st ⟨o, g1, g2, g3⟩ hlt fun h' st' sb => ?_
    obtain ⟨y, h1, h2⟩ := pair_at g4 i (y := es'[i]) (by rw [Array.getElem?_toList]; exact Array.getElem?_eq_getElem hlt)
    have J : Inv X pins σ H { s with heap := h' } := I.turned (t' := s.toks) (fun b q hb e => (sb.2 b hb).trans e) f0 f1 f3 f4 f5
    obtain ⟨q, e, c, f⟩ := id st'
    exact ⟨_, rfl, go_of (s := { s with heap := h' }) e c f (by decide) ⟨y.kv, H, J, h2.1, ⟨rfl, y, h1, rfl⟩, st', fun b hb => (hf b hb).1⟩⟩
  done := by
    intro X hP hw hK hc i pins s σ H G I hf st hg
    subst hP hw hK
    obtain ⟨f0, f1, f2, f3, f4, f5⟩ := hf it (List.mem_singleton.mpr rfl)
    obtain ⟨es', ep', g1, g2, g3, g4, _, _⟩ := dctO_get I hg.1
    obtain ⟨e1, e2⟩ := dict_ep hod g3
    subst e1 e2
    exact wpAny_pyNext_keys_end_raw (I.ok.hd hc) st ⟨o, g1, g2, g3⟩ (by rw [hsz]; exact Nat.le_of_eq hg.2.symm) fun h' eb => ⟨rfl, I.turned (t' := s.toks) (fun b q hb e => eb b q hb e) f0 f1 f3 f4 f5⟩
  self := fun A i s Q G st h => wpAny_pyIter_keyiter st h
def iKeysD (td : TE) : TI := fun σ H R => td σ H fun x H1 => ∃ d o E, x = .ref d ∧ H1 d = some (dctO d o E) ∧ R (Itdk d o E) H1
theorem pi_keysD {X : Cx} {tg e : Expr} {td : TE} {ap cp : Pos} (he : PE X e td) (base : attributeBase e ("keys" : Str) X.env (eval e X.env) = eval e X.env) (line : (ap.endLine == cp.line) = true) : PI X tg (.Call (.Attribute e ("keys" : Str) ap) [] [] cp) (iKeysD td) := by
  refine ⟨fun pins s σ H R I h => wpAny_Call_method_late base rfl line rfl (thn (he.run pins s σ H _ I h) fun u s1 hx => ?_)⟩
  obtain ⟨x, H1, I1, rx, d, o, E, ex, hd, q⟩ := hx
  subst ex
  cases rx
  obtain ⟨es, ep, g1, g2, g3, g4, _, g6⟩ := dctO_get I1 hd
  have hsz : es.size = E.length := by
    have := Paired.len g4
    rw [Array.length_toList] at this
    exact this.symm
  have raw : s1.heap.DictRaw d es ep := ⟨o, g1, g2, g3⟩
  refine ⟨"dict", "dict.keys", PySem.F.plainAttrs_dict, PySem.F.slot_dict_keys, PySem.F.type_dict_keys, ⟨o, g1, g2.1⟩, fun a e2 => ?_, ?_⟩
  · cases e2
    exact ⟨o, g1, g2.2.1⟩
  · refine method_meetsIn PySem.F.slot_dict_keys PySem.F.entry_dict_keys rfl (PySem.evalArgs_none ⟨rfl, raw.typeIs, PySem.F.args_dict_keys_1 _, _, meets_dict_keys_raw d g6, ⟨es, ep, raw⟩, ?_⟩)
    have I2 : Inv X pins σ H1 { s1 with heap := s1.heap.push { cls := .type "dict_keys", data := .fields #[.ref d] } } := I1.kept (t' := s1.toks) fun b q e => Heap.get?_push_of_some _ e
    refine wpAny_pyIter_keys_raw (d := d) (es := es) (ep := ep) ⟨_, Heap.get?_push_size _ rfl, rfl, rfl⟩ (raw.at fun q e => Heap.get?_push_of_some _ e) ?_
    exact pi_one (tk := s1.toks) I2 _ (turn_keysD g3 hsz) ⟨_, Heap.get?_push_size _ rfl, rfl, rfl⟩ q
/-- for k in d -/
theorem pi_dictD {X : Cx} {tg e : Expr} {td : TE} (he : PE X e td) : PI X tg e (iKeysD td) := by
  refine ⟨fun pins s σ H R I h => thn (he.run pins s σ H _ I h) fun u s1 hx => ?_⟩
  obtain ⟨x, H1, I1, rx, d, o, E, ex, hd, q⟩ := hx
  subst ex
  cases rx
  obtain ⟨es, ep, g1, g2, g3, g4, _, g6⟩ := dctO_get I1 hd
  have hsz : es.size = E.length := by
    have := Paired.len g4
    rw [Array.length_toList] at this
    exact this.symm
  have raw : s1.heap.DictRaw d es ep := ⟨o, g1, g2, g3⟩
  refine wpAny_pyIter_dict_raw (es := es) (ep := ep) g6 raw ?_
  exact pi_one (tk := s1.toks) I1 _ (turn_keysD g3 hsz) ⟨_, Heap.get?_push_size _ rfl, rfl, rfl⟩ q
section
variable {K : Frag} {σ : L2.St} {H Im1 H1 : Hp}
theorem walk_keysD {d : Addr} {o : Obj} {E : List Ent} {kvs : List (D × D)} {v' : V} (hd : H1 d = some (dctO d o E)) (r : DRel K Im1 E kvs) : Walk (Itdk d o E) (kvs.map (·.1)).length (Kept (.ref d) v' H1) (Yd K Im1 (kvs.map (·.1))) := by
  rw [List.length_map, ← Paired.len r]
  refine ⟨fun i H hi g => ⟨g _ _ (.inl rfl) hd, hi⟩, fun H g => ⟨g _ _ (.inl rfl) hd, rfl⟩, fun i H x H' hi _ y => ?_⟩
  obtain ⟨e, y, h1, h2⟩ := y
  subst e h2
  intro Im g hs
  have hk : i < kvs.length := by rw [← Paired.len r]; exact hi
  obtain ⟨z, f1, f2⟩ := pair_at r i (y := kvs[i]) (List.getElem?_eq_getElem hk)
  rw [h1] at f1
  cases f1
  exact ⟨Im, kvs[i].1, Grow.refl hs, by rw [List.getElem?_map, List.getElem?_eq_getElem hk]; rfl, f2.2.2.1.mono g⟩
theorem walkL_keys {r q : RV} {xs : List D} (e : walkL .keys r q = some xs) : ∃ kvs, r = .dct kvs ∧ xs = kvs.map (·.1) := by
  cases r with
  | d x => cases x <;> simp [walkL] at e
  | dct kvs =>
    cases e
    exact ⟨kvs, rfl, rfl⟩
theorem tit_keys {fa fb : Sg → Option (W × Sg)} {R : It → Hp → Prop} (h : TIt K .keys fa fb σ H R) : iKeysD (TEv K fa) σ H R := by
  obtain ⟨s, Im, Re, w, s1, u, s2, r, q, xs, e1, e2, e3, e4, e5, k⟩ := h
  simp only [twoE, ItK.two, Bool.false_eq_true, if_false, Option.some.injEq, Prod.mk.injEq] at e2
  obtain ⟨rfl, rfl⟩ := e2
  obtain ⟨kvs, rfl, rfl⟩ := walkL_keys e5
  refine ⟨s, Im, Re, w, s1, e1, fun Im1 v H1 R1 st1 x1 => ?_⟩
  obtain ⟨d, o, E, rfl, hd, r⟩ := (x1.rv R1 e3).dct
  exact ⟨d, o, E, rfl, hd, k Im1 _ .non H1 _ R1 st1 x1 (.d .non) (walk_keysD hd r)⟩
end
end PV
namespace PV
open PySem PySem.Spec PyProof.Rows L2
/-- the values of the dict at d -/
def Itdv (d : Addr) (o : Obj) (E : List Ent) : It :=
  ⟨fun i H => H d = some (dctO d o E) ∧ i < E.length, fun i H x H' => H' = H ∧ ∃ y, E[i]? = some y ∧ x = y.v, fun i H => H d = some (dctO d o E) ∧ i = E.length⟩
theorem turn_valuesD {P : Program} {w : World} {K : Frag} {tg : Expr} {d it : Addr} {o : Obj} {E : List Ent} {es : Array DictEntry} {ep : Nat} (hod : o.data = .dict es ep) (hsz : es.size = E.length) :
    Turn P w K tg (Itdv d o E) [it] it (fun i h => h.IsValIter it d i es.size ep) where
  mem := List.mem_singleton.mpr rfl
  obj := fun i h st b hb => by
    cases List.mem_singleton.mp hb
    obtain ⟨q, e, _, f⟩ := st
    exact ⟨q, e, fun v z => by rw [f] at z; cases z⟩
  keep := fun i h h' st k => st.at fun q e => k it (List.mem_singleton.mpr rfl) q e
  item := by
    intro X hP hw hK hc i pins s σ H G I hf st hg
    subst hP hw hK
    obtain ⟨f0, f1, f2, f3, f4, f5⟩ := hf it (List.mem_singleton.mpr rfl)
    obtain ⟨es', ep', g1, g2, g3, g4, _, _⟩ := dctO_get I hg.1
    obtain ⟨e1, e2⟩ := dict_ep hod g3
    subst e1 e2
    have hlt : i < es'.size := by rw [hsz]; exact hg.2
    refine wpAny_pyNext_values_item_raw st ⟨o, g1, g2, g3⟩ hlt fun h' st' sb => ?_
    obtain ⟨y, h1, h2⟩ := pair_at g4 i (y := es'[i]) (by rw [Array.getElem?_toList]; exact Array.getElem?_eq_getElem hlt)
    have J : Inv X pins σ H { s with heap := h' } := I.turned (t' := s.toks) (fun b q hb e => (sb.2 b hb).trans e) f0 f1 f3 f4 f5
    obtain ⟨q, e, c, f⟩ := id st'
    exact ⟨_, rfl, go_of (s := { s with heap := h' }) e c f (by decide) ⟨y.v, H, J, h2.2.1, ⟨rfl, y, h1, rfl⟩, st', fun b hb => (hf b hb).1⟩⟩
  done := by
    intro X hP hw hK hc i pins s σ H G I hf st hg
    subst hP hw hK
    obtain ⟨f0, f1, f2, f3, f4, f5⟩ := hf it (List.mem_singleton.mpr rfl)
    obtain ⟨es', ep', g1, g2, g3, g4, _, _⟩ := dctO_get I hg.1
    obtain ⟨e1, e2⟩ := dict_ep hod g3
    subst e1 e2
    exact wpAny_pyNext_values_end_raw (I.ok.hd hc) st ⟨o, g1, g2, g3⟩ (by rw [hsz]; exact Nat.le_of_eq hg.2.symm) fun h' eb => ⟨rfl, I.turned (t' := s.toks) (fun b q hb e => eb b q hb e) f0 f1 f3 f4 f5⟩
  self := fun A i s Q G st h => wpAny_pyIter_valiter st h
def iValsD (td : TE) : TI := fun σ H R => td σ H fun x H1 => ∃ d o E, x = .ref d ∧ H1 d = some (dctO d o E) ∧ R (Itdv d o E) H1
theorem pi_valuesD {X : Cx} {tg e : Expr} {td : TE} {ap cp : Pos} (he : PE X e td) (base : attributeBase e ("values" : Str) X.env (eval e X.env) = eval e X.env) (line : (ap.endLine == cp.line) = true) : PI X tg (.Call (.Attribute e ("values" : Str) ap) [] [] cp) (iValsD td) := by
  refine ⟨fun pins s σ H R I h => wpAny_Call_method_late base rfl line rfl (thn (he.run pins s σ H _ I h) fun u s1 hx => ?_)⟩
  obtain ⟨x, H1, I1, rx, d, o, E, ex, hd, q⟩ := hx
  subst ex
  cases rx
  obtain ⟨es, ep, g1, g2, g3, g4, _, g6⟩ := dctO_get I1 hd
  have hsz : es.size = E.length := by
    have := Paired.len g4
    rw [Array.length_toList] at this
    exact this.symm
  have raw : s1.heap.DictRaw d es ep := ⟨o, g1, g2, g3⟩
  refine ⟨"dict", "dict.values", PySem.F.plainAttrs_dict, PySem.F.slot_dict_values, PySem.F.type_dict_values, ⟨o, g1, g2.1⟩, fun a e2 => ?_, ?_⟩
  · cases e2
    exact ⟨o, g1, g2.2.1⟩
  · refine method_meetsIn PySem.F.slot_dict_values PySem.F.entry_dict_values rfl (PySem.evalArgs_none ⟨rfl, raw.typeIs, PySem.F.args_dict_values_1 _, _, meets_dict_values_raw d g6, ⟨es, ep, raw⟩, ?_⟩)
    have I2 : Inv X pins σ H1 { s1 with heap := s1.heap.push { cls := .type "dict_values", data := .fields #[.ref d] } } := I1.kept (t' := s1.toks) fun b q e => Heap.get?_push_of_some _ e
    refine wpAny_pyIter_values_raw (d := d) (es := es) (ep := ep) ⟨_, Heap.get?_push_size _ rfl, rfl, rfl⟩ (raw.at fun q e => Heap.get?_push_of_some _ e) ?_
    exact pi_one (tk := s1.toks) I2 _ (turn_valuesD g3 hsz) ⟨_, Heap.get?_push_size _ rfl, rfl, rfl⟩ q
section
variable {K : Frag} {σ : L2.St} {H Im1 H1 : Hp}
theorem walk_valuesD {d : Addr} {o : Obj} {E : List Ent} {kvs : List (D × D)} {v' : V} (hd : H1 d = some (dctO d o E)) (r : DRel K Im1 E kvs) : Walk (Itdv d o E) (kvs.map (·.2)).length (Kept (.ref d) v' H1) (Yd K Im1 (kvs.map (·.2))) := by
  rw [List.length_map, ← Paired.len r]
  refine ⟨fun i H hi g => ⟨g _ _ (.inl rfl) hd, hi⟩, fun H g => ⟨g _ _ (.inl rfl) hd, rfl⟩, fun i H x H' hi _ y => ?_⟩
  obtain ⟨e, y, h1, h2⟩ := y
  subst e h2
  intro Im g hs
  have hk : i < kvs.length := by rw [← Paired.len r]; exact hi
  obtain ⟨z, f1, f2⟩ := pair_at r i (y := kvs[i]) (List.getElem?_eq_getElem hk)
  rw [h1] at f1
  cases f1
  exact ⟨Im, kvs[i].2, Grow.refl hs, by rw [List.getElem?_map, List.getElem?_eq_getElem hk]; rfl, f2.2.2.2.mono g⟩
theorem walkL_values {r q : RV} {xs : List D} (e : walkL .values r q = some xs) : ∃ kvs, r = .dct kvs ∧ xs = kvs.map (·.2) := by
  cases r with
  | d x => cases x <;> simp [walkL] at e
  | dct kvs =>
    cases e
    exact ⟨kvs, rfl, rfl⟩
theorem tit_values {fa fb : Sg → Option (W × Sg)} {R : It → Hp → Prop} (h : TIt K .values fa fb σ H R) : iValsD (TEv K fa) σ H R := by
  obtain ⟨s, Im, Re, w, s1, u, s2, r, q, xs, e1, e2, e3, e4, e5, k⟩ := h
  simp only [twoE, ItK.two, Bool.false_eq_true, if_false, Option.some.injEq, Prod.mk.injEq] at e2
  obtain ⟨rfl, rfl⟩ := e2
  obtain ⟨kvs, rfl, rfl⟩ := walkL_values e5
  refine ⟨s, Im, Re, w, s1, e1, fun Im1 v H1 R1 st1 x1 => ?_⟩
  obtain ⟨d, o, E, rfl, hd, r⟩ := (x1.rv R1 e3).dct
  exact ⟨d, o, E, rfl, hd, k Im1 _ .non H1 _ R1 st1 x1 (.d .non) (walk_valuesD hd r)⟩
end
end PV
namespace PV
open PySem PySem.Spec PyProof.Rows L2 SrtO
section
variable {prog : Program} {w : World} {A : Around} {E : Value → Shared → Prop} {s : Shared}
/-- sorted of what is collected from something else than a list or a tuple -/
theorem sorted_src {T : String} {r d : Addr} {n : Nat} {P : Nat → Value → Prop} {OK : Heap → Prop} {its : List Value} {ltv : Value → Value → Bool} {Q : Value → Shared → Prop} (O : Swo ltv) (K : PySem.W.KdlSrc prog w T r d n P OK) (hh : A.handled = none) (hok : OK s.heap) (hz : its.length ≤ sizeLine)
    (hn : n = its.length) (hP : ∀ acc : Array Value, ItemsOf P acc n → acc.toList = its)
    (hS : 2 ≤ its.length → ∀ (tk : Tok) (h₁ : Heap) (a : Addr), h₁.get? a = some (seqObj "list" its.toArray 0) → (∀ b o, s.heap.get? b = some o → b ≠ a ∧ h₁.get? b = some o) → SortableO prog w A.in1.in1 { s with heap := h₁, toks := tk } a its ltv)
    (h : ∀ (out : List Value) (h0 h' : Heap) (tk : Tok) (p' : Addr) (c : Nat), Srtd ltv out → Stb ltv out its → (∀ b o, s.heap.get? b = some o → h0.get? b = some o) → (∀ b o, h0.get? b = some o → h'.get? b = some o) → h0.objs.size ≤ p' → h'.get? p' = some (seqObj "list" out.toArray c) → Q (.ref p') { s with heap := h', toks := tk }) :
    wpAny (model prog w) A (call (.builtin "sorted") [.ref r]) Q E s := by
  refine Calls.call_function_entry kind_sorted plain_sorted entry_sorted (args_sorted1 _) ?_
  unfold Builtin.«sorted»
  refine wpAny_bind (m := checkCount "sorted" 1 1 _) (wpAny_pure ?_)
  refine wpAny_bind (PySem.W.kdu_collect (A := A.in1) K hh hok (by rw [hn]; exact hz) fun h0 tk acc k0 hi => ?_)
  rw [hP acc hi]
  refine wpAny_bind (wpAny_newList ?_ hz)
  have hoL : (h0.push (seqObj "list" its.toArray 0)).get? h0.objs.size = some (seqObj "list" its.toArray 0) := Heap.get?_push_size _ rfl
  have keep : ∀ b o, s.heap.get? b = some o → b ≠ h0.objs.size ∧ (h0.push (seqObj "list" its.toArray 0)).get? b = some o := fun b o q => ⟨Nat.ne_of_lt (Heap.lt_size (k0 b o q)), Heap.get?_push_of_some _ (k0 b o q)⟩
  refine wpAny_bind (wpAny_holding (wpAny_call_entry slot_list_sort ⟨_, hoL, rfl⟩ entry_list_sort (list_sort_ord O hoL hz (fun h2 => hS h2 tk _ _ hoL keep) fun out hs hb => ⟨_, rfl, ?_⟩) (args_list_sort _)))
  obtain ⟨c, hc⟩ := sortedHeap_at (vs := its) (out := out.toArray) hoL
  refine wpAny_pure ⟨_, rfl, h out h0 _ tk _ c hs hb k0 (fun b o q => ?_) (Nat.le_refl _) hc⟩
  have hlt := Heap.lt_size q
  rw [sortedHeap_old (Nat.ne_of_lt hlt) (by rw [size_push']; exact Nat.lt_succ_of_lt hlt)]
  exact Heap.get?_push_of_some _ q
end
theorem drel_keys {K : Frag} {Im : Hp} : ∀ {E : List Ent} {kvs : List (D × D)}, DRel K Im E kvs → RpAll K Im (E.map (·.kv)) (kvs.map (·.1))
  | _, _, .nil => .nil
  | _, _, .cons h t => .cons h.2.2.1 (drel_keys t)
theorem ent_keys : ∀ {E : List Ent} {es : List DictEntry}, Paired EntR E es → Vals (E.map (·.kv)) (es.map (·.key))
  | _, _, .nil => .nil
  | _, _, .cons h t => .cons h.1 (ent_keys t)
section
variable {X : Cx}
def tSK (K : Frag) (td : TE) : TE := fun σ H Q => td σ H fun x H1 => RAp1 K .sorted_keys x H1 Q
theorem pe_sortedKeys {e : Expr} {td : TE} {ap cp pos p : Pos} (hu : X.A.units + 64 < cLine) (hc : X.calm = true) (gl : Gl X ("sorted" : Str)) (mg : X.mg ("sorted" : Str) = none) (he : PE X e td) (base : attributeBase e ("keys" : Str) X.env (eval e X.env) = eval e X.env) (line : (ap.endLine == cp.line) = true) :
    PE X (.Call (.Name ("sorted" : Str) p) [.Call (.Attribute e ("keys" : Str) ap) [] [] cp] [] pos) (tSK X.K td) := by
  refine ⟨fun pins s σ H Q I h => ?_⟩
  refine wpAny_Call_Name_kw (ld_blt I gl mg PyProof.Rows.boot_sorted ?_)
  refine PyProof.Rows.callWith_builtin1 (PyProof.Rows.args_cons (wpAny_Call_method_late base rfl line rfl (thn (he.run pins s σ H _ I h) fun u s1 hx => ?_)) rfl) rfl rfl
  obtain ⟨x, H1, I1, rx, Im, r, w, hs, hr, e1, wt⟩ := hx
  change a1_sorted_keys r = some w at e1
  unfold a1_sorted_keys at e1
  split at e1
  · split at e1
    · rename_i kvs hcmp
      cases e1
      obtain ⟨d, o, E, rfl, hd, rd⟩ := hr.dct
      cases rx
      obtain ⟨es, ep, g1, g2, g3, g4, _, g6⟩ := dctO_get I1 hd
      have raw : s1.heap.DictRaw d es ep := ⟨o, g1, g2, g3⟩
      rw [Bool.and_eq_true] at hcmp
      have hl : kvs.length ≤ 16777216 := of_decide_eq_true hcmp.2
      have hE : E.length = kvs.length := Paired.len rd
      have hsz : es.size = kvs.length := by
        rw [← hE, Paired.len g4, Array.length_toList]
      have hline : kvs.length ≤ sizeLine := by rw [sizeLine_eq]; exact hl
      refine ⟨"dict", "dict.keys", PySem.F.plainAttrs_dict, PySem.F.slot_dict_keys, PySem.F.type_dict_keys, ⟨o, g1, g2.1⟩, fun a e2 => ?_, ?_⟩
      · cases e2
        exact ⟨o, g1, g2.2.1⟩
      · refine method_meetsIn PySem.F.slot_dict_keys PySem.F.entry_dict_keys rfl (PySem.evalArgs_none ⟨rfl, raw.typeIs, PySem.F.args_dict_keys_1 _, _, meets_dict_keys_raw d g6, ⟨es, ep, raw⟩, ?_⟩)
        refine PyProof.Rows.args_nil ?_
        have I2 : Inv X pins σ H1 { s1 with heap := s1.heap.push { cls := .type "dict_keys", data := .fields #[.ref d] } } := I1.kept (t' := s1.toks) fun b q e => Heap.get?_push_of_some _ e
        have hv : PySem.W.KdlKeysView (s1.heap.push { cls := .type "dict_keys", data := .fields #[.ref d] }) s1.heap.objs.size d := ⟨_, Heap.get?_push_size _ rfl, rfl, rfl⟩
        have rv : Vals (E.map (·.kv)) (es.toList.map (·.key)) := ent_keys g4
        have raw2 : (s1.heap.push { cls := .type "dict_keys", data := .fields #[.ref d] }).DictRaw d es ep := raw.at fun q e => Heap.get?_push_of_some _ e
        have hlen : (es.toList.map (·.key)).length = es.size := by rw [List.length_map, Array.length_toList]
        refine c_sortedG hu I2 hs rv (by rw [List.length_map, hE]; exact hline) (fun ltv Q O hS h => ?_) (drel_keys rd) hcmp.1 wt
        refine sorted_src O (PySem.KdlSrc.rawKeys (r := s1.heap.objs.size) (d := d) (es := es) (ep := ep)) (I2.ok.hd hc) ⟨hv, raw2⟩ (by rw [hlen, hsz]; exact hline) hlen.symm (fun acc hi => items_out (by rw [hlen]; exact hi) fun j v hv => ?_) hS h
        obtain ⟨hj, rfl⟩ := hv
        rw [List.getElem?_map, Array.getElem?_toList, Array.getElem?_eq_getElem hj]
        rfl
    · cases e1
  · cases e1
end
end PV
namespace PV
open PySem PySem.Spec PyProof.Rows L2
section
variable {K : Frag} {Im H : Hp}
/-- the pairs as they stand: the tuple's place, its two items -/
structure PrV where
  a : Addr
  k : V
  v : V
abbrev PrR (K : Frag) (Im : Hp) : List PrV → List (D × D) → Prop := Paired fun t p => TupAt Im t.a [t.k, t.v] ∧ Rp K Im t.k p.1 ∧ Rp K Im t.v p.2
theorem pairs_src : ∀ {vs : List V} {xs : List D} {ps : List (D × D)}, RpAll K Im vs xs → pairsOf xs = some ps → ∃ ts : List PrV, vs = ts.map (fun t => V.ref t.a) ∧ PrR K Im ts ps
  | _, _, ps, .nil, e => by
    cases e
    exact ⟨[], rfl, .nil⟩
  | _, _, ps, .cons (d := d) r t, e => by
    rw [pairsOf] at e
    simp only [Option.bind_eq_bind, Option.bind_eq_some_iff, Option.pure_def, Option.some.injEq] at e
    obtain ⟨p, e1, ps', e2, e3⟩ := e
    subst e3
    obtain ⟨ts, h1, h2⟩ := pairs_src t e2
    subst h1
    have hd : d = .tuple [p.1, p.2] := by
      unfold pairOf at e1
      split at e1
      · cases e1; rfl
      · cases e1
    subst hd
    cases r with
    | @tup a vs ds ta ra =>
      cases ra with
      | cons r1 ra =>
        cases ra with
        | cons r2 ra =>
          cases ra
          exact ⟨⟨a, _, _⟩ :: ts, rfl, .cons ⟨ta, r1, r2⟩ h2⟩
end
section
variable {X : Cx} {pins : List (Addr × Obj)} {σ : L2.St} {H Im : Hp} {s : Shared}
/-- .. and in the heap -/
theorem pairs_raw (I : Inv X pins σ H s) (hs : Sub Im H) : ∀ {ts : List PrV} {ps : List (D × D)}, PrR X.K Im ts ps → (∀ p ∈ ps, keyOk p.1 = true) → ∃ (raw : List (Value × Value)) (ks : List (NestedKey × Addr × Value)),
    raw.length = ts.length ∧ ks.length = ts.length ∧ (∀ (j : Nat) (t : PrV), ts[j]? = some t → ∃ q : Value × Value, raw[j]? = some q ∧ PairAt s.heap t.a q.1 q.2) ∧ (∀ (j : Nat) (q : Value × Value), raw[j]? = some q → ∃ (k : NestedKey) (b : Addr), ks[j]? = some (k, b, q.2) ∧ q.1 = Value.ref b) ∧
    (∀ x ∈ ks, (nestedKind X.prog X.w).is s.heap x.1 x.2.1) ∧ Paired (fun (p : D × D) (x : NestedKey × Addr × Value) => x.1 = keyN p.1 ∧ ∃ V, Rp X.K Im (.ref x.2.1) p.1 ∧ RelV V x.2.2 ∧ Rp X.K Im V p.2) ps ks
  | _, _, .nil, _ => ⟨[], [], rfl, rfl, (fun j t h => by simp at h), (fun j q h => by simp at h), (fun _ h => nomatch h), .nil⟩
  | _, _, .cons (a := t) (b := p) h r, hk => by
    obtain ⟨raw, ks, l1, l2, h1, h2, h3, h4⟩ := pairs_raw I hs r fun p hp => hk p (List.mem_cons_of_mem _ hp)
    have hp := hk p (List.mem_cons_self ..)
    obtain ⟨ta, rk, rv⟩ := h
    obtain ⟨b, eb⟩ := key_ref hp rk
    obtain ⟨o, eo, od⟩ := ta.keep fun _ => hs _ _
    obtain ⟨g, _, its, vals, o', g', hc, n, hd⟩ := (show ObjOk X.prog X.w H s.heap t.a (.frz o (.tup [t.k, t.v])) from I.hok t.a _ eo)
    rw [g] at g'
    cases g'
    cases vals with
    | cons q1 vals =>
      cases vals with
      | cons q2 vals =>
        cases vals
        rename_i u1 u2
        rw [eb] at q1 rk
        have e1 : u1 = Value.ref b := q1
        subst e1
        refine ⟨(.ref b, u2) :: raw, (keyN p.1, b, u2) :: ks, by simp [l1], by simp [l2], fun j t' hj => ?_, fun j q hj => ?_, fun x hx => ?_, .cons ⟨rfl, t.v, rk, q2, rv⟩ h4⟩
        · cases j with
          | zero =>
            simp at hj
            subst hj
            exact ⟨_, rfl, .inl ⟨o, g, hc, n, hd⟩⟩
          | succ j => exact h1 j t' (by simpa using hj)
        · cases j with
          | zero =>
            simp at hj
            subst hj
            exact ⟨_, _, rfl, rfl⟩
          | succ j => exact h2 j q (by simpa using hj)
        · rcases List.mem_cons.mp hx with rfl | hx
          · exact key_at I hs hp rk
          · exact h3 x hx
/-- what is stored, pair by pair -/
theorem stored_all {P : Program} {w : World} : ∀ {ps : List (D × D)} {ks : List (NestedKey × Addr × Value)} {E : List Ent} {kvs : List (D × D)} {xs : List (NestedKey × Addr × Value)},
    Paired (fun (p : D × D) (x : NestedKey × Addr × Value) => x.1 = keyN p.1 ∧ ∃ V, Rp X.K Im (.ref x.2.1) p.1 ∧ RelV V x.2.2 ∧ Rp X.K Im V p.2) ps ks → (∀ p ∈ ps, keyOk p.1 = true) → DRel X.K Im E kvs → X3 E xs →
    ∃ E', DRel X.K Im E' (ps.foldl (fun m p => dput m p.1 p.2) kvs) ∧ X3 E' (storedAllH xs ks)
  | _, _, E, kvs, xs, .nil, _, r, g => ⟨E, r, g⟩
  | _, _, E, kvs, xs, .cons (a := p) (b := x) h t, hk, r, g => by
    obtain ⟨e1, V, h1, h2, h3⟩ := h
    have hp := hk p (List.mem_cons_self ..)
    have ya := has_is hp r g
    have g' := store_X (n := keyN p.1) (b := x.2.1) g h2
    rw [ya] at g'
    have r' := store_D hp h1 h3 r
    obtain ⟨E', f1, f2⟩ := stored_all (P := P) (w := w) t (fun p hp => hk p (List.mem_cons_of_mem _ hp)) r' g'
    refine ⟨E', f1, ?_⟩
    unfold storedAllH at f2 ⊢
    rw [List.foldl_cons, e1]
    exact f2
theorem c_dict (hc : X.calm = true) (hu : X.A.units + 65 < cLine) : CallR X (.type "dict") (RC1 X.K .dict) := by
  intro pins s σ H xs us Q I r ⟨x, e0, Im, rv, w, hs, hr, e, wt⟩
  subst e0
  obtain ⟨u, eu, rx⟩ := vals1 r
  subst eu
  have core : ∀ (ds : List D) (ps : List (D × D)), rv = .d (.tuple ds) → pairsOf ds = some ps → (∀ p ∈ ps, keyOk p.1 = true) → ps.length ≤ 16777216 → w = .new (.dct (ps.foldl (fun m p => dput m p.1 p.2) [])) → wpAny (model X.prog X.w) X.A (call (.type "dict") [u]) (EP X pins σ Q) X.xe s := by
    intro ds ps ev ep hk hl ew
    subst ev ew
    obtain ⟨p, vs, rfl, hp, ra, _⟩ := hr.tuple hs
    cases rx
    obtain ⟨ts, e1, pr⟩ := pairs_src ra ep
    subst e1
    obtain ⟨raw, ks, l1, l2, h1, h2, h3, h4⟩ := pairs_raw I hs pr hk
    have lt : ts.length = ps.length := Paired.len pr
    obtain ⟨o, eo, od⟩ := hp
    obtain ⟨g, _, its, vals, o', g', hcl, n, hd⟩ := (show ObjOk X.prog X.w H s.heap p (.frz o (.tup (ts.map fun t => V.ref t.a))) from I.hok p _ eo)
    rw [g] at g'
    cases g'
    have hit : its = ts.map fun t => Value.ref t.a := by
      clear hd
      have go : ∀ (ts : List PrV) (its : List Value), Vals (ts.map fun t => V.ref t.a) its → its = ts.map fun t => Value.ref t.a := by
        intro ts
        induction ts with
        | nil => intro its h; cases h; rfl
        | cons t ts ih =>
          intro its h
          cases h with
          | cons q h =>
            have e : _ = Value.ref t.a := q
            rw [e, ih _ h]
            rfl
      exact go ts its vals
    let Ts : Nat → Addr := fun j => (ts[j]?.map (·.a)).getD 0
    have items : PairItems s.heap its.toArray Ts raw := by
      refine ⟨by rw [List.size_toArray, hit, List.length_map, l1], fun j k v hj => ?_⟩
      have hlt : j < ts.length := by rw [← l1]; exact (List.getElem?_eq_some_iff.mp hj).1
      have ht : ts[j]? = some ts[j] := List.getElem?_eq_getElem hlt
      obtain ⟨q, f1, f2⟩ := h1 j _ ht
      rw [hj] at f1
      cases f1
      have eT : Ts j = ts[j].a := by
        show (ts[j]?.map (·.a)).getD 0 = _
        rw [ht]
        rfl
      rw [eT]
      refine ⟨?_, f2⟩
      rw [hit]
      simp [hlt]
    have room : (nestedKind X.prog X.w).room X.A.in1.in1 := by
      show X.A.units + 1 + 1 + 8 < cLine
      omega
    refine call_dict_pairsH (knd := nestedKind X.prog X.w) (ps := ks) (PairArg.tuple p its.toArray Ts raw) (I.ok.hd hc) room ⟨⟨o, n, g, hcl, od, hd⟩, items⟩ ⟨by rw [l2, l1], fun i key v hrel => ?_⟩ (fun h' kp x hx => ?_) (by rw [l1, lt, sizeLine_eq]; exact hl) fun h' tk hx kp => ?_
    · obtain ⟨k, b, f1, f2⟩ := h2 i (key, v) hrel
      exact ⟨k, b, f1, f2⟩
    · refine nestedKind_stays.stays (fun b ob vs m eb ed => kp b ob ?_ (by simp) eb) (h3 x hx)
      exact Nat.ne_of_lt (Heap.lt_size eb)
    · obtain ⟨E', f1, f2⟩ := stored_all (X := X) (P := X.prog) (w := X.w) h4 hk (.nil : DRel X.K Im [] []) (.nil : X3 [] [])
      obtain ⟨ob, es, ep', b1, b2, b3, b4, _, b6⟩ := hx
      have new : DctAt s.heap.objs.size ob E' h' := ⟨es, ep', b1, b2, b3, by rw [b4]; exact ent_of f1 f2, by rw [f2.keys]; exact b6, beq_eq_false_iff_ne.mpr (Ne.symm (Nat.ne_of_lt I.big))⟩
      exact ⟨.ref _, _, I.laid (t' := tk) (fun b o e => kp b o (by simp) e) (Nat.le_refl _) (dctO_ok new), rfl, wt.dct hs f1 _ ob (I.hok.fresh (Nat.le_refl _))⟩
  have coreL : ∀ (ds : List D) (ps : List (D × D)), rv = .d (.list ds) → pairsOf ds = some ps → (∀ p ∈ ps, keyOk p.1 = true) → ps.length ≤ 16777216 → w = .new (.dct (ps.foldl (fun m p => dput m p.1 p.2) [])) → wpAny (model X.prog X.w) X.A (call (.type "dict") [u]) (EP X pins σ Q) X.xe s := by
    intro ds ps ev ep hk hl ew
    subst ev ew
    obtain ⟨p, vs, rfl, hp, ra⟩ := hr.list hs
    cases rx
    obtain ⟨ts, e1, pr⟩ := pairs_src ra ep
    subst e1
    obtain ⟨raw, ks, l1, l2, h1, h2, h3, h4⟩ := pairs_raw I hs pr hk
    have lt : ts.length = ps.length := Paired.len pr
    obtain ⟨its, vals, pl, _⟩ := I.list (SqL.of hp)
    obtain ⟨o, n, g, hcl, od, hd⟩ := pl
    have hd0 := hd
    have hit : its = ts.map fun t => Value.ref t.a := by
      clear hd hd0
      have go : ∀ (ts : List PrV) (its : List Value), Vals (ts.map fun t => V.ref t.a) its → its = ts.map fun t => Value.ref t.a := by
        intro ts
        induction ts with
        | nil => intro its h; cases h; rfl
        | cons t ts ih =>
          intro its h
          cases h with
          | cons q h =>
            have e : _ = Value.ref t.a := q
            rw [e, ih _ h]
            rfl
      exact go ts its vals
    let Ts : Nat → Addr := fun j => (ts[j]?.map (·.a)).getD 0
    have items : PairItems s.heap its.toArray Ts raw := by
      refine ⟨by rw [List.size_toArray, hit, List.length_map, l1], fun j k v hj => ?_⟩
      have hlt : j < ts.length := by rw [← l1]; exact (List.getElem?_eq_some_iff.mp hj).1
      have ht : ts[j]? = some ts[j] := List.getElem?_eq_getElem hlt
      obtain ⟨q, f1, f2⟩ := h1 j _ ht
      rw [hj] at f1
      cases f1
      have eT : Ts j = ts[j].a := by
        show (ts[j]?.map (·.a)).getD 0 = _
        rw [ht]
        rfl
      rw [eT]
      refine ⟨?_, f2⟩
      rw [hit]
      simp [hlt]
    have room : (nestedKind X.prog X.w).room X.A.in1.in1 := by
      show X.A.units + 1 + 1 + 8 < cLine
      omega
    refine call_dict_pairsH (knd := nestedKind X.prog X.w) (ps := ks) (PairArg.list p its.toArray Ts raw) (I.ok.hd hc) room ⟨⟨o, n, g, hcl, od, hd⟩, items⟩ ⟨by rw [l2, l1], fun i key v hrel => ?_⟩ (fun h' kp x hx => ?_) (by rw [l1, lt, sizeLine_eq]; exact hl) fun h' tk hx kp => ?_
    · obtain ⟨k, b, f1, f2⟩ := h2 i (key, v) hrel
      exact ⟨k, b, f1, f2⟩
    · refine nestedKind_stays.stays (fun b ob vs m eb ed => kp b ob ?_ (by simp) eb) (h3 x hx)
      exact Nat.ne_of_lt (Heap.lt_size eb)
    · obtain ⟨E', f1, f2⟩ := stored_all (X := X) (P := X.prog) (w := X.w) h4 hk (.nil : DRel X.K Im [] []) (.nil : X3 [] [])
      obtain ⟨ob, es, ep', b1, b2, b3, b4, _, b6⟩ := hx
      have new : DctAt s.heap.objs.size ob E' h' := ⟨es, ep', b1, b2, b3, by rw [b4]; exact ent_of f1 f2, by rw [f2.keys]; exact b6, beq_eq_false_iff_ne.mpr (Ne.symm (Nat.ne_of_lt I.big))⟩
      exact ⟨.ref _, _, I.laid (t' := tk) (fun b o e => kp b o (by simp) e) (Nat.le_refl _) (dctO_ok new), rfl, wt.dct hs f1 _ ob (I.hok.fresh (Nat.le_refl _))⟩
  change a1_dict rv = some w at e
  unfold a1_dict at e
  split at e
  · rename_i ds
    unfold dictOf at e
    split at e
    · rename_i ps ep
      split at e
      · rename_i hq
        rw [Bool.and_eq_true] at hq
        cases e
        exact core ds ps rfl ep (fun p hp => List.all_eq_true.mp hq.1 p hp) (of_decide_eq_true hq.2) rfl
      · cases e
    · cases e
  · rename_i ds
    unfold dictOf at e
    split at e
    · rename_i ps ep
      split at e
      · rename_i hq
        rw [Bool.and_eq_true] at hq
        cases e
        exact coreL ds ps rfl ep (fun p hp => List.all_eq_true.mp hq.1 p hp) (of_decide_eq_true hq.2) rfl
      · cases e
    · cases e
  · cases e
theorem c_list (hc : X.calm = true) : CallR X (.type "list") (RC1 X.K .list) := by
  intro pins s σ H xs us Q I r h
  obtain ⟨x, rfl, Im, rv, w, hs, hr, e, wt⟩ := h
  change a1_list rv = some w at e
  unfold a1_list at e
  split at e
  · cases e
    obtain ⟨p, vs, rfl, hp, ra, hi⟩ := hr.tuple hs
    exact call_list_of pins s σ H _ us Q I r ⟨p, vs, rfl, .inr hp.sq, wt.lst hs ra⟩
  · cases e
    obtain ⟨p, vs, rfl, hp, ra⟩ := hr.list hs
    exact call_list_of pins s σ H _ us Q I r ⟨p, vs, rfl, .inl (SqL.of hp), wt.lst hs ra⟩
  · split at e
    · rename_i kvs hl
      cases e
      obtain ⟨d, o, E, rfl, hd, rd⟩ := hr.dct
      obtain ⟨u, eu, rx⟩ := vals1 r
      subst eu
      cases rx
      obtain ⟨es, ep, g1, g2, g3, g4, _, g6⟩ := dctO_get I hd
      have raw : s.heap.DictRaw d es ep := ⟨o, g1, g2, g3⟩
      have hE : E.length = kvs.length := Paired.len rd
      have hsz : es.size = kvs.length := by rw [← hE, Paired.len g4, Array.length_toList]
      have hline : kvs.length ≤ sizeLine := by rw [sizeLine_eq]; exact hl
      have rv : Vals (E.map (·.kv)) (es.toList.map (·.key)) := ent_keys g4
      have hlen : (es.toList.map (·.key)).length = es.size := by rw [List.length_map, Array.length_toList]
      refine PySem.W.kdl_call (PySem.KdlSrc.rawDict (es := es) (ep := ep) g6) (I.ok.hd hc) raw (by rw [hsz]; exact hline) fun h' tk acc' c' hk hS hi => ?_
      have hacc : acc'.toList = es.toList.map (·.key) := L2.items_out (by rw [hlen]; exact hi) fun j v hv => by
        obtain ⟨hj, rfl⟩ := hv
        rw [List.getElem?_map, Array.getElem?_toList, Array.getElem?_eq_getElem hj]
        rfl
      refine ⟨.ref _, upd H s.heap.objs.size (.lst (E.map (·.kv))), I.laid (t' := tk) hk (Nat.le_refl _) ⟨by rw [List.length_map, hE]; exact hline, acc'.toList, c', by rw [hacc]; exact rv, by rw [hS, Array.toArray_toList]⟩, rfl, wt.lst hs (drel_keys rd) _ (I.hok.fresh (Nat.le_refl _))⟩
    · cases e
  · cases e
end
end PV
namespace PV
open PySem PySem.Spec PyProof.Rows L2
section
variable {X : Cx}
def PRd (X : Cx) (e : Expr) (t : L2.St → Hp → (Int → Int → Hp → Prop) → Prop) : Prop :=
  ∀ (pins : List (Addr × Obj)) (s : Shared) (σ : L2.St) (H : Hp) (Q : Int → Int → Hp → Prop), Inv X pins σ H s → t σ H Q →
    wpAny (model X.prog X.w) X.A (eval e X.env) (fun x s' => ∃ r a b t u v H', x = .ref r ∧ IsRange s'.heap r a b (-1) t u v ∧ Inv X pins σ H' s' ∧ Q a b H') X.xe s
def tRd3 (ta tb tc : TE) : L2.St → Hp → (Int → Int → Hp → Prop) → Prop := fun σ H Q => ta σ H fun x H1 => tb σ H1 fun y H2 => tc σ H2 fun z H3 => ∃ i j, x = .int i ∧ y = .int j ∧ z = .int (-1) ∧ Q i j H3
theorem prd_3 {a b c : Expr} {ta tb tc : TE} {p pos : Pos} (hg : Gl X "range") (hm : X.mg "range" = none) (ha : PE X a ta) (hb : PE X b tb) (hc : PE X c tc) (na : starEach [a, b, c] X.env = (false, eval a X.env) :: starEach [b, c] X.env)
    (nb : starEach [b, c] X.env = (false, eval b X.env) :: starEach [c] X.env) (nc : starEach [c] X.env = (false, eval c X.env) :: starEach [] X.env) (hp : (backTo pos (starEach [b, c] X.env)).any (·.1) = false) (hp2 : (backTo pos (starEach [c] X.env)).any (·.1) = false) : PRd X (.Call (.Name "range" p) [a, b, c] [] pos) (tRd3 ta tb tc) := by
  intro pins s σ H Q I h
  refine Call_ (ld_blt I hg hm boot_range (PyProof.Rows.callWith_type1 (args_cons (thn (ha.run pins s σ H _ I h) fun v s1 ⟨x, H1, I1, r1, q1⟩ => args_cons (thn (hb.run pins s1 σ H1 _ I1 q1) fun v2 s2 ⟨y, H2, I2, r2, q2⟩ => one_arg hc I2 q2 (fun u s3 z H3 I3 r3 q => ?_) nc) nb) na) na hp))
  obtain ⟨i, j, rfl, rfl, rfl, q⟩ := q
  obtain ⟨t, rfl⟩ := r1
  obtain ⟨t', rfl⟩ := r2
  obtain ⟨t'', rfl⟩ := r3
  exact call_range_3 (by decide) ⟨_, i, j, _, _, _, H3, rfl, IsRange.new _ _ _ _ _ _ _, I3.kept fun b u e => Heap.get?_push_of_some _ e, q⟩ (.inl (PyProof.noPylong_small (by decide)))
/-- the ints a, a - 1 .. b + 1 -/
def rdV (a b : Int) : List V := (List.range (a - b).toNat).map fun i => V.int (a - (i : Nat))
theorem rdV_length (a b : Int) : (rdV a b).length = (a - b).toNat := by unfold rdV; rw [List.length_map, List.length_range]
theorem vals_rd {a b : Int} {acc : Array Value} (h : ItemsOf (fun i v => ∃ t, v = .int (a + i * (-1)) t) acc (a - b).toNat) : Vals (rdV a b) acc.toList := by
  have e : acc.toList.length = (a - b).toNat := by rw [Array.length_toList]; exact h.1
  unfold rdV
  rw [← e]
  refine vals_of_get acc.toList _ fun j u hj => ?_
  obtain ⟨t, rfl⟩ := h.2 j u (by rw [← hj, Array.getElem?_toList])
  exact ⟨t, by rw [show a + (j : Int) * -1 = a - (j : Int) by omega]⟩
def RdOk (a b : Int) : Prop := -(2 ^ 62) ≤ a ∧ a < 2 ^ 62 ∧ -(2 ^ 62) ≤ b ∧ b < 2 ^ 62 ∧ (a - b).toNat ≤ 2 ^ 24
def tTupRdF (te : L2.St → Hp → (Int → Int → Hp → Prop) → Prop) : TE := fun σ H Q => te σ H fun a b H1 => RdOk a b ∧ NewT Q H1 (rdV a b)
theorem pe_tupRdF {e : Expr} {te : L2.St → Hp → (Int → Int → Hp → Prop) → Prop} {p pos : Pos} (hc : X.calm = true) (hg : Gl X "tuple") (hm : X.mg "tuple" = none) (he : PRd X e te) (na : starEach [e] X.env = (false, eval e X.env) :: starEach [] X.env := by rfl) : PE X (.Call (.Name "tuple" p) [e] [] pos) (tTupRdF te) := by
  refine ⟨fun pins s σ H Q I h => Call_ (ld_blt I hg hm boot_tuple (PyProof.Rows.callWith_type1 (args_cons (thn (he pins s σ H _ I h) fun x s1 hx => args_nil ?_) na) na))⟩
  obtain ⟨r, a, b, t, u, v, H1, ex, hr, I1, ⟨b1, b2, b3, b4, b5⟩, q⟩ := hx
  subst ex
  refine call_tuple_range (n := (a - b).toNat) (I1.ok.hd hc) hr (PySem.W.small_down b1 b2 b3 b4) (PySem.W.rangeSize_downNat a b) b5 fun h' tk acc hk hi => ?_
  have hz : (rdV a b).length ≤ sizeLine := by rw [rdV_length, sizeLine_eq]; omega
  have e : acc = acc.toList.toArray := (Array.toArray_toList).symm
  rw [e]
  exact newT (s := { s1 with heap := h', toks := tk }) (I1.kept hk) (vals_rd hi) hz q
end
end PV
namespace PV
open PySem PySem.Spec PyProof.Rows L2
section
variable {prog : Program} {w : World} {A : Around} {E : Value → Shared → Prop} {s : Shared}
theorem rev_places (n : Nat) : Builtin.Slice.slicePlaces ((n : Int) - 1) (-1) (-1) = n := by
  unfold Builtin.Slice.slicePlaces
  rw [if_neg (by decide)]
  by_cases h : n = 0
  · subst h; rfl
  · rw [if_pos (by omega)]
    have : ((n : Int) - 1 - -1 - 1) / (- -1) = (n : Int) - 1 := by
      rw [show (- -1 : Int) = 1 from rfl, Int.ediv_one]
      omega
    rw [this]
    omega
theorem rev_applied {sl : Addr} {vl vu vs : Value} {n : Nat} {Q : Int × Int × Nat → Shared → Prop} (hs : s.heap.IsSliceOf sl vl vu vs) (pl : IsPart vl none) (pu : IsPart vu none) (ps : IsPart vs (some (-1)))
    (h : Q ((n : Int) - 1, -1, n) s) : wpAny (model prog w) A (Builtin.Slice.sliceApplied (.ref sl) (pure (n : Int))) Q E s := by
  obtain ⟨os, hos, hcs, hds⟩ := id hs
  unfold Builtin.Slice.sliceApplied Builtin.Slice.sliceFields
  refine wpAny_bind (wpAny_bind (wpAny_field hos hds (x := vl) rfl (wpAny_bind (wpAny_field hos hds (x := vu) rfl (wpAny_bind (wpAny_field hos hds (x := vs) rfl (wpAny_pure ?_)))))))
  refine wpAny_bind (HT.slicePart_ ps ?_)
  show wpAny _ _ (if ((-1 : Int) == 0) = true then _ else _) _ _ s
  rw [if_neg (by decide)]
  refine wpAny_bind (HT.slicePart_ pl (wpAny_bind (HT.slicePart_ pu (wpAny_bind (wpAny_pure ?_)))))
  show wpAny _ _ (match Builtin.Slice.sliceAdjust none none (-1) (n : Int) with | (lo, hi) => pure (lo, (-1 : Int), Builtin.Slice.slicePlaces lo hi (-1))) _ _ s
  show wpAny _ _ (pure ((n : Int) - 1, (-1 : Int), Builtin.Slice.slicePlaces ((n : Int) - 1) (-1) (-1))) _ _ s
  rw [rev_places]
  exact wpAny_pure h
theorem rev_pick (xs : Array Value) : ((List.range xs.size).filterMap fun (m : Nat) => xs[(((xs.size : Nat) : Int) - 1 + (m : Int) * (-1)).toNat]?).toArray = xs.toList.reverse.toArray := by
  have h := PySem.W.krv_pick xs
  unfold slicePick at h
  rw [PySem.W.krv_bounds, PySem.W.krv_sliceRange] at h
  rw [← h, List.filterMap_map]
  congr 2
  funext m
  show xs[_]? = xs[xs.size - 1 - m]?
  have : (((xs.size : Nat) : Int) - 1 + (m : Int) * (-1)).toNat = xs.size - 1 - m := by omega
  rw [this]
theorem getItem_tuple_rev {t sl : Addr} {items : Array Value} {vl vu vs : Value} {Q : Value → Shared → Prop} (ht : IsTup s.heap t items) (hs : s.heap.IsSliceOf sl vl vu vs) (pl : IsPart vl none) (pu : IsPart vu none) (ps : IsPart vs (some (-1)))
    (h : Q (.ref s.heap.objs.size) { s with heap := s.heap.push { cls := .type "tuple", data := .seq items.toList.reverse.toArray } })
    (hsz : items.size ≤ sizeLine) : wpAny (model prog w) A (getItem (.ref t) (.ref sl)) Q E s := by
  have htake : sizeOk (.seq items.toList.reverse.toArray) := by
    show items.toList.reverse.toArray.size ≤ sizeLine
    rw [List.size_toArray, List.length_reverse, Array.length_toList]
    exact hsz
  obtain ⟨os, hos, hcs, hds⟩ := id hs
  have hTs : s.TypeIs (.ref sl) "slice" := ⟨os, hos, hcs⟩
  unfold getItem
  try with_reducible refine wpAny_holding ?_
  first | refine wpAny_bind (wpAny_pure ?_) | skip
  refine wpAny_bind (wpAny_sequenceKey ht.typeIs (by decide) ?_)
  refine wpAny_bind (wpAny_callSpecial?_slot (name := Str.ofString "__getitem__") ht.typeIs PyProof.Rows.slot_tuple_getitem
    (wpAny_call_entry PyProof.Rows.slot_tuple_getitem ht.typeIs entry_tuple_getitem ?_ (args_tuple_getitem _ _)))
  show wpAny _ _ (Builtin.Tuple.tupleItemsOf (.ref t) >>= _) _ _ s
  refine wpAny_bind (tupleItemsOf_ ht ?_)
  refine wpAny_bind (wpAny_typeOf hTs ?_)
  rw [if_pos (by decide)]
  refine wpAny_bind (rev_applied hs pl pu ps ?_)
  show wpAny _ _ (if (((items.size : Nat) : Int) - 1 == 0 && (-1 : Int) == 1 && items.size == items.size) = true then _ else _) _ _ s
  rw [if_neg (by rw [show ((-1 : Int) == 1) = false from rfl, Bool.and_false, Bool.false_and]; decide), rev_pick]
  first
    | exact wpAny_bind (m := Builtin.Tuple.tupleExact _) (wpAny_newObj_type (wpAny_pure ⟨_, rfl, wpAny_pure h⟩) htake)
    | exact wpAny_bind (m := Builtin.Tuple.tupleExact _) (wpAny_newObj_type (wpAny_bind (wpAny_pure (wpAny_pure ⟨_, rfl, wpAny_pure h⟩))) htake)
    | exact wpAny_bind (wpAny_bind (m := Builtin.Tuple.tupleExact _) (wpAny_newObj_type (wpAny_pure (wpAny_pure ⟨_, rfl, wpAny_pure h⟩)) htake))
    | exact wpAny_bind (wpAny_bind (m := Builtin.Tuple.tupleExact _) (wpAny_newObj_type (wpAny_pure ⟨_, rfl, wpAny_pure h⟩) htake))
end
section
variable {X : Cx}
def tRv (K : Frag) (te : TE) : TE := fun σ H Q => te σ H fun x H1 => RAp1 K .rev x H1 Q
theorem pe_rev {e : Expr} {te : TE} {k : Nat} {p1 p2 p3 pos : Pos} (he : PE X e te) : PE X (.Subscript e (.Slice none none (some (.UnaryOp .USub (.Constant (.int 1) k p1) p2)) p3) pos) (tRv X.K te) := by
  refine ⟨fun pins s σ H Q I h => ?_⟩
  refine Subscript_ (thn (he.run pins s σ H _ I h) fun v s1 ⟨x, H1, I1, r1, q1⟩ => ?_)
  obtain ⟨Im, r, w, hs, hr, e1, wt⟩ := q1
  have hst : PO X (some (.UnaryOp .USub (.Constant (.int 1) k p1) p2)) (tPart (tUn (rU fun i => .int (-i)) (tC (.int 1)))) := po_some (pe_un un_neg pe_int)
  refine wpAny_Slice (thn (po_none.run pins s1 σ H1 (fun o H2 => o = none ∧ H2 = H1) I1 ⟨rfl, rfl⟩) fun vl s2 ⟨l, H2, I2, pl, el, e2⟩ => ?_)
  subst el e2
  refine thn (po_none.run pins s2 σ H2 (fun o H3 => o = none ∧ H3 = H2) I2 ⟨rfl, rfl⟩) fun vu s3 ⟨u, H3, I3, pu, eu, e3⟩ => ?_
  subst eu e3
  refine thn (hst.run pins s3 σ H3 (fun o H4 => o = some (-1) ∧ H4 = H3) I3 ⟨1, rfl, -1, rfl, rfl, rfl⟩) fun vs s4 ⟨o, H4, I4, ps, eo, e4⟩ => ?_
  subst eo e4
  have I5 : Inv X pins σ H4 { s4 with heap := s4.heap.push { cls := .type "slice", data := .fields #[vl, vu, vs] } } := I4.kept (t' := s4.toks) fun b ob q => Heap.get?_push_of_some _ q
  change a1_rev r = some w at e1
  unfold a1_rev at e1
  split at e1
  · cases e1
    obtain ⟨a, xs, rfl, hp, ra⟩ := hr.list hs
    cases r1
    obtain ⟨its, rv, ht, hz⟩ := I5.list (SqL.of hp)
    have hlen := rv.length
    show wpAny (model X.prog X.w) X.A (subscriptTail e (.Slice none none (some (.UnaryOp .USub (.Constant (.int 1) k p1) p2)) p3) (.ref a) (.ref s4.heap.objs.size)) (EP X pins σ Q) X.xe { s4 with heap := s4.heap.push { cls := .type "slice", data := .fields #[vl, vu, vs] } }
    refine tail_any (ops := [.ref a, .ref s4.heap.objs.size]) ht.isList.typeIs (PySem.slot_list_getitem.lookup) ?_ (by with_unfolding_all rfl)
    refine wpAny_getItem_list_slice ht.isList (Heap.IsSliceOf.new _ vl vu vs) pl pu ps (by decide) ?_ (by rw [List.size_toArray]; omega)
    rw [PySem.W.krv_pick]
    refine ⟨.ref _, _, I5.laid (t' := s4.toks) (o := .lst xs.reverse) (fun b ob q => Heap.get?_push_of_some _ q) (Nat.le_refl _) ?_, rfl, wt.lst hs ra.reverse _ (I5.hok.fresh (Nat.le_refl _))⟩
    exact ⟨by rw [List.length_reverse]; exact hz, _, 0, rv.reverse, Heap.get?_push_size _ rfl⟩
  · cases e1
    obtain ⟨a, xs, rfl, hp, ra, _⟩ := hr.tuple hs
    cases r1
    obtain ⟨its, rv, pt, hz⟩ := I5.tuple hp.sq
    have hlen := rv.length
    show wpAny (model X.prog X.w) X.A (subscriptTail e (.Slice none none (some (.UnaryOp .USub (.Constant (.int 1) k p1) p2)) p3) (.ref a) (.ref s4.heap.objs.size)) (EP X pins σ Q) X.xe { s4 with heap := s4.heap.push { cls := .type "slice", data := .fields #[vl, vu, vs] } }
    refine tail_any (ops := [.ref a, .ref s4.heap.objs.size]) pt.typeIs (PyProof.Rows.slot_tuple_getitem.lookup) ?_ (by with_unfolding_all rfl)
    refine getItem_tuple_rev pt (Heap.IsSliceOf.new _ vl vu vs) pl pu ps ?_ (by rw [List.size_toArray]; omega)
    exact newT I5 rv.reverse (by rw [List.length_reverse]; exact hz) (wt.tup hs ra.reverse)
  · cases e1
end
end PV
namespace PV
open PySem PySem.Spec PyProof.Rows L2
section
variable {prog : Program} {w : World} {A : Around} {E : Value → Shared → Prop} {s : Shared}
theorem max_rawvalues {r d : Addr} {es : Array DictEntry} {ep : Nat} {x : PyData} {xs : List PyData} {as : List Addr} {Q : Value → Shared → Prop} (hh : A.handled = none) (hv : s.heap.IsValuesView r d) (hd : s.heap.DictRaw d es ep) (hr : PySem.ReadsAll s.heap (es.map (·.val)).toList (x :: xs) as) (ha : PySem.W.AlikeAll (x :: xs)) (hu : A.units + 1 + PyData.depthAll (x :: xs) < cLine)
    (h : ∀ (i : Nat) v h' tk bs, (es.map (·.val))[i]? = some v → Reads h' v (PySem.W.maxD x xs) bs → (∀ b o, s.heap.get? b = some o → h'.get? b = some o) → Q v { s with heap := h', toks := tk }) :
    wpAny (model prog w) A (call (.builtin "max") [.ref r]) Q E s := by
  have hn : (es.map (·.val)).size = xs.length + 1 := PySem.W.readsAll_len hr
  have hsz : es.size = xs.length + 1 := by rw [Array.size_map] at hn; exact hn
  have hlt : d < s.heap.objs.size := hd.lt_size
  refine PySem.call_max_walkH (wpAny_pyIter_values_raw hv hd ?_)
  have W := (Walks.mono_item (P' := fun i v => (es.map (·.val))[i]? = some v) (Walks.rawValues (prog := prog) (w := w) (A := A.in1) hh s.heap.objs.size d (Nat.ne_of_lt hlt) es ep) (fun i v hi ⟨hi', e⟩ => by
    rw [Array.getElem?_map, Array.getElem?_eq_getElem hi', e]
    rfl)).toS
  refine ⟨_, _, _, _, _, _, _, s.heap, _, rfl, W, ⟨⟨_, Heap.get?_push_size _ rfl, rfl, rfl⟩, hd.push _⟩, fun b hb => ?_, by omega, fun b o e hb => ?_, fun b o e => Heap.get?_push_of_some _ e, PySem.W.cmpIn_gt (A := A.in1) hr ha (by show A.units + 1 + _ < _; exact hu), fun v s' hP m => ?_⟩
  · show b < (s.heap.push _).objs.size
    rw [Heap.size_push]
    rcases List.mem_cons.mp hb with rfl | hb
    · exact Nat.lt_succ_self _
    · rcases List.mem_cons.mp hb with rfl | hb
      · exact Nat.lt_succ_of_lt hlt
      · cases hb
  · exact absurd (Heap.lt_size e) ((List.mem_singleton.mp hb) ▸ Nat.lt_irrefl _)
  · obtain ⟨h', tk, rfl, hk'⟩ := PySem.W.moved_old rfl rfl m
    obtain ⟨bs, r', _, _, _⟩ := PySem.W.readsAll_atA hr _ v hP
    have e1 : es.size - 1 = xs.length := by omega
    have e2 := (PySem.W.argBest_fold (fun a b => PySem.W.dataLt b a) PyData.none x xs xs.length (Nat.le_refl _)).2
    rw [List.take_length] at e2
    rw [e1] at r'
    exact h _ v h' tk bs hP (PySem.W.reads_keeps hk' (by unfold PySem.W.maxD; rw [← e2]; exact r')) hk'
end
theorem drel_vals {K : Frag} {Im : Hp} : ∀ {E : List Ent} {kvs : List (D × D)}, DRel K Im E kvs → RpAll K Im (E.map (·.v)) (kvs.map (·.2))
  | _, _, .nil => .nil
  | _, _, .cons h t => .cons h.2.2.2 (drel_vals t)
theorem ent_vals : ∀ {E : List Ent} {es : List DictEntry}, Paired EntR E es → Vals (E.map (·.v)) (es.map (·.val))
  | _, _, .nil => .nil
  | _, _, .cons h t => .cons h.2.1 (ent_vals t)
section
variable {X : Cx}
def tMV (K : Frag) (td : TE) : TE := fun σ H Q => td σ H fun x H1 => RAp1 K .max_values x H1 Q
theorem pe_maxValues {e : Expr} {td : TE} {ap cp pos p : Pos} (hu : X.A.units + 65 < cLine) (hc : X.calm = true) (gl : Gl X ("max" : Str)) (mg : X.mg ("max" : Str) = none) (he : PE X e td) (base : attributeBase e ("values" : Str) X.env (eval e X.env) = eval e X.env) (line : (ap.endLine == cp.line) = true) :
    PE X (.Call (.Name ("max" : Str) p) [.Call (.Attribute e ("values" : Str) ap) [] [] cp] [] pos) (tMV X.K td) := by
  refine ⟨fun pins s σ H Q I h => ?_⟩
  refine wpAny_Call_Name_kw (ld_blt I gl mg boot_max ?_)
  refine PyProof.Rows.callWith_builtin1 (PyProof.Rows.args_cons (wpAny_Call_method_late base rfl line rfl (thn (he.run pins s σ H _ I h) fun u s1 hx => ?_)) rfl) rfl rfl
  obtain ⟨x, H1, I1, rx, Im, r, w, hs, hr, e1, wt⟩ := hx
  change a1_max_values r = some w at e1
  unfold a1_max_values at e1
  split at e1
  · split at e1
    · rename_i kvs hcmp
      obtain ⟨m, hm, rfl⟩ := Option.map_eq_some_iff.mp e1
      obtain ⟨d, o, E, rfl, hd, rd⟩ := hr.dct
      cases rx
      obtain ⟨es, ep, g1, g2, g3, g4, _, g6⟩ := dctO_get I1 hd
      have raw : s1.heap.DictRaw d es ep := ⟨o, g1, g2, g3⟩
      have C : Cmp (kvs.map (·.2)) := Cmp.of hcmp
      refine ⟨"dict", "dict.values", PySem.F.plainAttrs_dict, PySem.F.slot_dict_values, PySem.F.type_dict_values, ⟨o, g1, g2.1⟩, fun a e2 => ?_, ?_⟩
      · cases e2
        exact ⟨o, g1, g2.2.1⟩
      · refine method_meetsIn PySem.F.slot_dict_values PySem.F.entry_dict_values rfl (PySem.evalArgs_none ⟨rfl, raw.typeIs, PySem.F.args_dict_values_1 _, _, meets_dict_values_raw d g6, ⟨es, ep, raw⟩, ?_⟩)
        refine PyProof.Rows.args_nil ?_
        have I2 : Inv X pins σ H1 { s1 with heap := s1.heap.push { cls := .type "dict_values", data := .fields #[.ref d] } } := I1.kept (t' := s1.toks) fun b q e => Heap.get?_push_of_some _ e
        have hv : (s1.heap.push { cls := .type "dict_values", data := .fields #[.ref d] }).IsValuesView s1.heap.objs.size d := ⟨_, Heap.get?_push_size _ rfl, rfl, rfl⟩
        have rv : Vals (E.map (·.v)) (es.toList.map (·.val)) := ent_vals g4
        have raw2 : (s1.heap.push { cls := .type "dict_values", data := .fields #[.ref d] }).DictRaw d es ep := raw.at fun q e => Heap.get?_push_of_some _ e
        have ra := drel_vals rd
        obtain ⟨as, rdd⟩ := Dp.readsAll I2 (kvs.map (·.2)) _ _ ((ra.mono hs).dp C.ok20) rv
        have lay := ra.lay C.ok20
        have hdp : PyData.depthAll (kvs.map (·.2)) ≤ 60 := Nat.le_trans lay.2 (by decide)
        generalize hds : kvs.map (·.2) = ds at *
        cases ds with
        | nil => cases hm
        | cons z zs =>
          have hmx : PySem.W.maxD z zs = m := by
            have e : greatest ltB (z :: zs) = some m := hm
            unfold greatest at e
            injection e with e
            rw [← e]
            exact fold_eq (f := fun a b => PySem.W.dataLt b a) (g := fun a b => ltB b a) zs z fun a ha b hb => C.lt b hb a ha
          have mem : m ∈ z :: zs := by rw [← hmx]; exact fold_mem (fun a b => PySem.W.dataLt b a) zs z
          refine max_rawvalues (I2.ok.hd hc) hv raw2 (x := z) (xs := zs) (as := as) (by rw [Array.toList_map]; exact rdd) C.alike (by omega) fun i v h' tk bs hi r k => ?_
          refine pick (its := es.toList.map (·.val)) I2 hs rv ra (by simpa using rdd) C mem (by simpa using hi) (by rw [← hmx]; exact r) k wt
    · cases e1
  · cases e1
end
end PV
namespace PV
open PySem PySem.Spec PyProof.Rows L2
theorem sumTo_pre (a : Int) : ∀ n, preSum (fun i => a + (i : Int) * 1) n = sumTo a n
  | 0 => rfl
  | n + 1 => by rw [preSum, sumTo, sumTo_pre a n]
section
variable {X : Cx}
def tSR (ta tb : TE) : TE := fun σ H Q => tRg2 ta tb σ H fun i j H1 => RgOk i j ∧ Q (.int (sumTo i (j - i).toNat)) H1
theorem sumr_is {K : Frag} {x y : V} {H : Hp} {Q : VK} (h : RAp2 K .sumr x y H Q) : ∃ i j, x = .int i ∧ y = .int j ∧ RgOk i j ∧ Q (.int (sumTo i (j - i).toNat)) H := by
  obtain ⟨Im, r, q, w, hs, hr, hq, e, wt⟩ := h
  change a2_sumr r q = some w at e
  unfold a2_sumr at e
  split at e
  · rename_i i j
    split at e
    · rename_i hb
      cases e
      obtain ⟨b1, b2, b3, b4⟩ := hb
      exact ⟨i, j, hr.int, hq.int, RgOk.of_le b1 (by omega) (by omega) b3, wt.int hs⟩
    · cases e
  · cases e
theorem pe_sumRange {a b : Expr} {ta tb : TE} {p p2 pos pos2 : Pos} (hc : X.calm = true) (gl : Gl X ("sum" : Str)) (mg : X.mg ("sum" : Str) = none) (gl2 : Gl X ("range" : Str)) (mg2 : X.mg ("range" : Str) = none) (ha : PE X a ta) (hb : PE X b tb) (na : starEach [a, b] X.env = (false, eval a X.env) :: starEach [b] X.env) (nb : starEach [b] X.env = (false, eval b X.env) :: starEach [] X.env) (hp : (backTo pos2 (starEach [b] X.env)).any (·.1) = false) :
    PE X (.Call (.Name ("sum" : Str) p) [.Call (.Name ("range" : Str) p2) [a, b] [] pos2] [] pos) (tSR ta tb) := by
  refine ⟨fun pins s σ H Q I h => ?_⟩
  have R := prg_2 (X := X) (p := p2) (pos := pos2) gl2 mg2 ha hb na nb hp pins s σ H (fun i j H' => RgOk i j ∧ Q (.int (sumTo i (j - i).toNat)) H') I
    h
  refine wpAny_Call_Name_kw (ld_blt I gl mg boot_sum ?_)
  refine PyProof.Rows.callWith_builtin1 (PyProof.Rows.args_cons (thn R fun x s1 ⟨r, i, j, t, u, v, H1, ex, hr, I1, ok, q⟩ => PyProof.Rows.args_nil ?_) rfl) rfl rfl
  subst ex
  obtain ⟨b1, b2, b3, b4, b5⟩ := ok
  refine call_sum_walkAnyS (wpAny_pyIter_range hr (small_one b1 b2 b3 b4) ?_)
  have W := (Walks.range (prog := X.prog) (w := X.w) (A := X.A.in1) (I1.ok.hd hc) s1.heap.objs.size i 1 (j - i).toNat).toS
  refine ⟨s1.heap.objs.size, _, _, _, _, _, _, fun k => i + (k : Int) * 1, rfl, W, ?_, fun b hb => ?_, fun k v hP => hP, fun s' t' hm => ?_⟩
  · show IsRangeIter _ _ _ _ _
    rw [show i + ((0 : Nat) : Int) * 1 = i by simp, show (((j - i).toNat : Nat) : Int) - ((0 : Nat) : Int) = Builtin.Range.rangeSize i j 1 by rw [rangeSize_nat]; simp]
    exact Heap.get?_push_size _ rfl
  · obtain rfl := List.mem_singleton.mp hb
    exact Heap.lt_size (Heap.get?_push_size _ rfl)
  · obtain ⟨h', tk, rfl, hk⟩ := PySem.W.moved_old rfl rfl hm
    refine ⟨.int (sumTo i (j - i).toNat), H1, I1.kept hk, ?_, q⟩
    rw [sumTo_pre]
    exact ⟨_, rfl⟩
end
end PV
namespace PV
open PySem PySem.Spec PyProof.Rows L2
theorem upd_twice {H : Hp} {D : Addr} {x y : HO} : upd (upd H D x) D y = upd H D y := by
  funext p
  by_cases h : p = D
  · subst h; rw [upd_same, upd_same]
  · rw [upd_ne h, upd_ne h, upd_ne h]
def sumsI (a b : List Int) : List Int := a.flatMap fun x => b.map fun y => x + y
theorem sumsD : ∀ (a b : List Int), ((a.map PyData.int).flatMap fun x => (b.map PyData.int).map fun y => addD x y) = (sumsI a b).map PyData.int
  | [], _ => rfl
  | x :: a, b => by
    unfold sumsI
    rw [List.map_cons, List.flatMap_cons, List.flatMap_cons, List.map_append, sumsD a b]
    congr 1
    rw [List.map_map, List.map_map]
    rfl
theorem sums_take (a b : List Int) {i : Nat} (h : i < a.length) : sumsI (a.take (i + 1)) b = sumsI (a.take i) b ++ b.map fun y => a[i] + y := by
  unfold sumsI
  rw [List.take_add_one, List.getElem?_eq_getElem h, List.flatMap_append]
  simp
theorem sums_len (b : List Int) : ∀ a : List Int, (sumsI a b).length = a.length * b.length
  | [] => by simp [sumsI]
  | x :: a => by
    have := sums_len b a
    unfold sumsI at this ⊢
    rw [List.flatMap_cons, List.length_append, List.length_map, this, List.length_cons, Nat.succ_mul, Nat.add_comm]
theorem wipe_same {σ σ2 : L2.St} {vs : List Nat} (hl : σ2.length = (L2.wipe σ vs).length) (h : ∀ i, i ∉ vs → σ2[i]? = (L2.wipe σ vs)[i]?) : L2.wipe σ2 vs = L2.wipe σ vs := by
  rw [← wipeσ_idem (σ := σ)]
  exact wipeσ_eq hl h
theorem tlc2_sums {K : Frag} {σ : L2.St} {H : Hp} {Q : VK} {i j so sx : Nat} {p q : Addr} {a b : List Int} (hp : σ[i]? = some (some (.ref p))) (hq : σ[j]? = some (some (.ref q))) (hP : H p = some (.lst (a.map V.int))) (hQ : H q = some (.lst (b.map V.int)))
    (i1 : i ≠ so) (i2 : i ≠ sx) (j1 : j ≠ so) (j2 : j ≠ sx) (hne : so ≠ sx) (ho : so < σ.length) (hx : sx < σ.length) (hz : a.length * b.length < 1000) (h : ∀ D, H D = none → Q (.ref D) (upd H D (.lst ((sumsI a b).map V.int)))) :
    tLc2 (iList K (tVar i)) (gName so) tYes (iList K (tVar j)) (gName sx) tYes (tOp (rI0 fun x y => .int (x + y)) (tVar so) (tVar sx)) [so, sx] [sx] σ H Q := by
  refine ⟨.ref p, hp, p, rfl, ⟨_, SqL.of hP⟩, fun D hD => ⟨fun i' m Hh => m = a.length - i' ∧ i' ≤ a.length ∧ Hh = upd H D (.lst ((sumsI (a.take i') b).map V.int)), ⟨a.length, by simp, Nat.zero_le _, rfl⟩, ?_⟩⟩
  rintro i' m Hh ⟨rfl, hi, rfl⟩
  have nP : p ≠ D := fun e => by rw [e, hD] at hP; cases hP
  have nQ : q ≠ D := fun e => by rw [e, hD] at hQ; cases hQ
  have gP : ∀ o, upd H D o p = some (.lst (a.map V.int)) := fun o => by rw [upd_ne nP]; exact hP
  have gQ : ∀ o, upd H D o q = some (.lst (b.map V.int)) := fun o => by rw [upd_ne nQ]; exact hQ
  by_cases hlt : i' < a.length
  · refine .inr ⟨⟨_, V.int a[i'], SqL.of (gP _), by rw [List.getElem?_map, List.getElem?_eq_getElem hlt]; rfl⟩, fun H' => H' = upd H D (.lst ((sumsI (a.take (i' + 1)) b).map V.int)), fun H' e => ⟨a.length - (i' + 1), by omega, rfl, hlt, e⟩, ?_⟩
    rintro x H' ⟨rfl, hx'⟩
    have ex := hx' _ (SqL.of (gP _))
    rw [List.getElem?_map, List.getElem?_eq_getElem hlt] at ex
    cases ex
    have hwl : (L2.wipe σ [so, sx]).length = σ.length := wipe_length σ _
    have w2 : L2.wipe ((L2.wipe σ [so, sx]).set so (some (V.int a[i']))) [so, sx] = L2.wipe σ [so, sx] := wipe_same (by rw [List.length_set]) fun k hk => set_other fun e => hk (by simp [e])
    refine ⟨w2, ?_⟩
    dsimp only [tYes]
    rw [if_pos rfl]
    generalize hσ2 : (L2.wipe σ [so, sx]).set so (some (V.int a[i'])) = σ2
    have l2 : σ2.length = σ.length := by rw [← hσ2, List.length_set, hwl]
    have s2o : σ2[so]? = some (some (V.int a[i'])) := by rw [← hσ2]; exact List.getElem?_set_self (by rw [hwl]; exact ho)
    have s2j : σ2[j]? = some (some (.ref q)) := by
      rw [← hσ2, set_other (Ne.symm j1), wipeσ_get, if_neg (by simp [j1, j2])]
      exact hq
    refine ⟨.ref q, s2j, q, rfl, ⟨_, SqL.of (gQ _)⟩, fun j' m Hh => m = b.length - j' ∧ j' ≤ b.length ∧ Hh = upd H D (.lst ((sumsI (a.take i') b ++ (b.take j').map fun y => a[i'] + y).map V.int)), ⟨b.length, by simp, Nat.zero_le _, by simp⟩, ?_⟩
    rintro j' m Hh ⟨rfl, hj, rfl⟩
    by_cases hlt2 : j' < b.length
    · refine .inr ⟨⟨_, V.int b[j'], SqL.of (gQ _), by rw [List.getElem?_map, List.getElem?_eq_getElem hlt2]; rfl⟩, fun H' => H' = upd H D (.lst ((sumsI (a.take i') b ++ (b.take (j' + 1)).map fun y => a[i'] + y).map V.int)), fun H' e => ⟨b.length - (j' + 1), by omega, rfl, hlt2, e⟩, ?_⟩
      rintro y H' ⟨rfl, hy'⟩
      have ey := hy' _ (SqL.of (gQ _))
      rw [List.getElem?_map, List.getElem?_eq_getElem hlt2] at ey
      cases ey
      have hwl2 : (L2.wipe σ2 [sx]).length = σ2.length := wipe_length σ2 _
      have w3 : L2.wipe ((L2.wipe σ2 [sx]).set sx (some (V.int b[j']))) [sx] = L2.wipe σ2 [sx] := wipe_same (by rw [List.length_set]) fun k hk => set_other fun e => hk (by simp [e])
      refine ⟨w3, ?_⟩
      dsimp only [tYes]
      rw [if_pos rfl]
      have s3o : ((L2.wipe σ2 [sx]).set sx (some (V.int b[j'])))[so]? = some (some (V.int a[i'])) := by
        rw [set_other (Ne.symm hne), wipeσ_get, if_neg (by simp [hne])]
        exact s2o
      have s3x : ((L2.wipe σ2 [sx]).set sx (some (V.int b[j'])))[sx]? = some (some (V.int b[j'])) := List.getElem?_set_self (by rw [hwl2, l2]; exact hx)
      refine ⟨_, s3o, _, s3x, a[i'], b[j'], rfl, rfl, _, upd_same, ?_, ?_⟩
      · rw [List.length_map, List.length_append, List.length_map, sums_len, List.length_take, List.length_take, sizeLine_eq]
        have h1 : min i' a.length * b.length + b.length ≤ a.length * b.length := by
          rw [← Nat.succ_mul]
          exact Nat.mul_le_mul_right _ (by omega)
        omega
      · rw [upd_twice, List.take_add_one, List.getElem?_eq_getElem hlt2]
        simp only [Option.toList, List.map_append, List.map_cons, List.map_nil, List.append_assoc]
    · have e : j' = b.length := by omega
      subst e
      refine .inl ⟨⟨_, SqL.of (gQ _), by rw [List.length_map]; exact Nat.le_refl _⟩, ?_⟩
      rw [List.take_length, ← sums_take a b hlt]
  · have e : i' = a.length := by omega
    subst e
    refine .inl ⟨⟨_, SqL.of (gP _), by rw [List.length_map]; exact Nat.le_refl _⟩, ?_⟩
    rw [List.take_length]
    exact h D hD
end PV
namespace PV
open PySem
section
variable {α : Type} (f : α → Nat)
theorem sorts_uniq : ∀ (a b : List α), a.Perm b → (a.Pairwise fun x y => f x ≤ f y) → (b.Pairwise fun x y => f x ≤ f y) → (∀ v, a.filter (fun x => decide (f x = v)) = b.filter (fun x => decide (f x = v))) → a = b
  | [], b, h, _, _, _ => h.nil_eq
  | x :: a, [], h, _, _, _ => by have := h.length_eq; simp at this
  | x :: a, y :: b, h, ha, hb, hf => by
    obtain ⟨a1, a2⟩ := List.pairwise_cons.mp ha
    obtain ⟨b1, b2⟩ := List.pairwise_cons.mp hb
    have hxy : f x = f y := by
      have h1 : x ∈ y :: b := h.mem_iff.mp List.mem_cons_self
      have h2 : y ∈ x :: a := h.mem_iff.mpr List.mem_cons_self
      have q1 : f y ≤ f x := by
        rcases List.mem_cons.mp h1 with e | q
        · rw [e]; exact Nat.le_refl _
        · exact b1 x q
      have q2 : f x ≤ f y := by
        rcases List.mem_cons.mp h2 with e | q
        · rw [e]; exact Nat.le_refl _
        · exact a1 y q
      omega
    have hx := hf (f x)
    rw [List.filter_cons, if_pos (decide_eq_true rfl), List.filter_cons, if_pos (decide_eq_true hxy.symm)] at hx
    injection hx with e _
    subst e
    rw [sorts_uniq a b (List.Perm.cons_inv h) a2 b2 fun v => by
      have := hf v
      rw [List.filter_cons, List.filter_cons] at this
      by_cases hv : f x = v
      · rw [if_pos (decide_eq_true hv), if_pos (decide_eq_true hv)] at this
        injection this
      · rw [if_neg (by simpa using hv), if_neg (by simpa using hv)] at this
        exact this]
theorem merge_filter (l : List α) (v : Nat) : (l.mergeSort fun a b => decide (f a ≤ f b)).filter (fun x => decide (f x = v)) = l.filter fun x => decide (f x = v) := by
  have tr : ∀ a b c : α, decide (f a ≤ f b) = true → decide (f b ≤ f c) = true → decide (f a ≤ f c) = true := fun a b c h1 h2 => by
    have := of_decide_eq_true h1
    have := of_decide_eq_true h2
    exact decide_eq_true (by omega)
  have to : ∀ a b : α, (decide (f a ≤ f b) || decide (f b ≤ f a)) = true := fun a b => by
    rw [Bool.or_eq_true, decide_eq_true_iff, decide_eq_true_iff]
    omega
  have hs : (l.filter fun x => decide (f x = v)).Sublist (l.mergeSort fun a b => decide (f a ≤ f b)) := List.sublist_mergeSort tr to (by
    refine List.Pairwise.imp_of_mem (R := fun _ _ => True) ?_ (List.pairwise_of_forall fun _ _ => trivial)
    intro a b ha hb _
    have h1 := of_decide_eq_true (List.mem_filter.mp ha).2
    have h2 := of_decide_eq_true (List.mem_filter.mp hb).2
    exact decide_eq_true (by omega)) List.filter_sublist
  have hs2 := hs.filter (fun x => decide (f x = v))
  rw [List.filter_filter] at hs2
  have e : (l.filter fun a => decide (f a = v) && decide (f a = v)) = l.filter fun x => decide (f x = v) := List.filter_congr fun x _ => Bool.and_self _
  rw [e] at hs2
  exact (hs2.eq_of_length (((List.mergeSort_perm l _).filter _).length_eq).symm).symm
theorem merge_sorted (l : List α) : (l.mergeSort fun a b => decide (f a ≤ f b)).Pairwise fun x y => f x ≤ f y := by
  have := List.pairwise_mergeSort (le := fun a b => decide (f a ≤ f b)) (fun a b c h1 h2 => by
    have := of_decide_eq_true h1
    have := of_decide_eq_true h2
    exact decide_eq_true (by omega)) (fun a b => by
    rw [Bool.or_eq_true, decide_eq_true_iff, decide_eq_true_iff]
    omega) l
  exact this.imp fun h => of_decide_eq_true h
end
section
variable (f : D → Nat)
abbrev ltF (a b : D) : Bool := decide (f a < f b)
theorem insF_perm (x : D) : ∀ l : List D, (insD (ltF f) x l).Perm (x :: l)
  | [] => .refl _
  | y :: l => by
    unfold insD
    split
    · exact .refl _
    · exact (List.Perm.cons y (insF_perm x l)).trans (List.Perm.swap x y l)
theorem insF_sort (x : D) : ∀ l : List D, (l.Pairwise fun a b => f a ≤ f b) → (insD (ltF f) x l).Pairwise fun a b => f a ≤ f b
  | [], _ => by simp [insD]
  | y :: l, h => by
    obtain ⟨h1, h2⟩ := List.pairwise_cons.mp h
    unfold insD
    split
    · rename_i hlt
      have hlt := of_decide_eq_true hlt
      refine List.pairwise_cons.mpr ⟨fun z hz => ?_, h⟩
      rcases List.mem_cons.mp hz with rfl | q
      · omega
      · have := h1 z q; omega
    · rename_i hlt
      have hlt : ¬ f x < f y := by simpa using hlt
      refine List.pairwise_cons.mpr ⟨fun z hz => ?_, insF_sort x l h2⟩
      rcases List.mem_cons.mp ((insF_perm f x l).mem_iff.mp hz) with rfl | q
      · omega
      · exact h1 z q
theorem insF_filter (x : D) (v : Nat) : ∀ l : List D, (l.Pairwise fun a b => f a ≤ f b) → (insD (ltF f) x l).filter (fun z => decide (f z = v)) = l.filter (fun z => decide (f z = v)) ++ if f x = v then [x] else []
  | [], _ => by
    unfold insD
    by_cases h : f x = v
    · simp [h]
    · simp [h]
  | y :: l, h => by
    obtain ⟨h1, h2⟩ := List.pairwise_cons.mp h
    unfold insD
    split
    · rename_i hlt
      have hlt := of_decide_eq_true hlt
      by_cases hx : f x = v
      · have hno : (y :: l).filter (fun z => decide (f z = v)) = [] := List.filter_eq_nil_iff.mpr fun z hz q => by
          have q := of_decide_eq_true q
          rcases List.mem_cons.mp hz with rfl | hz
          · omega
          · have := h1 z hz; omega
        rw [List.filter_cons, if_pos (decide_eq_true hx), hno, if_pos hx]
        rfl
      · rw [List.filter_cons, if_neg (by simpa using hx), if_neg hx, List.append_nil]
    · rw [List.filter_cons, List.filter_cons, insF_filter x v l h2]
      split <;> rfl
theorem sortF_go : ∀ (l a : List D), (a.Pairwise fun x y => f x ≤ f y) → (l.foldl (fun acc x => insD (ltF f) x acc) a).Perm (a ++ l) ∧ ((l.foldl (fun acc x => insD (ltF f) x acc) a).Pairwise fun x y => f x ≤ f y) ∧ ∀ v, (l.foldl (fun acc x => insD (ltF f) x acc) a).filter (fun z => decide (f z = v)) = a.filter (fun z => decide (f z = v)) ++ l.filter (fun z => decide (f z = v))
  | [], a, h => ⟨by simp, h, fun v => by simp⟩
  | x :: l, a, h => by
    obtain ⟨g1, g2, g3⟩ := sortF_go l (insD (ltF f) x a) (insF_sort f x a h)
    refine ⟨?_, g2, fun v => ?_⟩
    · refine g1.trans (((insF_perm f x a).append_right l).trans ?_)
      exact List.perm_middle.symm
    · rw [List.foldl_cons, g3, insF_filter f x v a h, List.filter_cons, List.append_assoc]
      congr 1
      by_cases hx : f x = v <;> simp [hx]
/-- sorted by a number, as the library does -/
theorem sortD_merge (l : List D) : sortD (fun a b => decide (f a < f b)) l = l.mergeSort fun a b => decide (f a ≤ f b) := by
  obtain ⟨g1, g2, g3⟩ := sortF_go f l [] .nil
  refine sorts_uniq f _ _ (g1.trans (List.mergeSort_perm l _).symm) g2 (merge_sorted f l) fun v => ?_
  rw [merge_filter]
  exact g3 v
end
end PV
namespace PV
open PySem PySem.Spec PyProof.Rows L2
open PySem.W (EachIs)
section
variable {prog : Program} {w : World}
theorem each_zip {K : Frag} {Im : Hp} : ∀ {vs : List V} {ds : List D} {its : List Value}, RpAll K Im vs ds → Vals vs its → ds.all isSeq = true → EachIs (fun (u : Value) (t : V × D) => RelV t.1 u ∧ Rp K Im t.1 t.2 ∧ isSeq t.2 = true) its (vs.zip ds)
  | _, _, _, .nil, .nil, _ => .nil
  | _, _, _, .cons r t, .cons q t', h => by
    rw [List.all_cons, Bool.and_eq_true] at h
    exact .cons ⟨q, r, h.1⟩ (each_zip t t' h.2)
theorem rpall_len {K : Frag} {Im : Hp} : ∀ {vs : List V} {ds : List D}, RpAll K Im vs ds → vs.length = ds.length
  | _, _, .nil => rfl
  | _, _, .cons _ t => by rw [List.length_cons, List.length_cons, rpall_len t]
theorem each_out {K : Frag} {Im : Hp} : ∀ {out : List Value} {T : List (V × D)}, EachIs (fun (u : Value) (t : V × D) => RelV t.1 u ∧ Rp K Im t.1 t.2 ∧ isSeq t.2 = true) out T → Vals (T.map (·.1)) out ∧ RpAll K Im (T.map (·.1)) (T.map (·.2))
  | _, _, .nil => ⟨.nil, .nil⟩
  | _, _, .cons h t => ⟨.cons h.1 (each_out t).1, .cons h.2.1 (each_out t).2⟩
theorem len_pure {X : Cx} {A : Around} {pins : List (Addr × Obj)} {s : Shared} {σ : L2.St} {H Im : Hp} {v : Value} {x : V × D} (I : Inv X pins σ H s) (hs : Sub Im H) (r : RelV x.1 v ∧ Rp X.K Im x.1 x.2 ∧ isSeq x.2 = true) (h : Heap) (tk : Nat) (k : ∀ b o, s.heap.get? b = some o → h.get? b = some o) :
    wpAny (model prog w) A (call (.builtin "len") [v]) (PySem.W.KeyPure (.int (lenD x.2 : Nat)) { s with heap := h, toks := tk }) (fun _ _ => False) { s with heap := h, toks := tk } := by
  obtain ⟨y, d⟩ := x
  obtain ⟨rv, rp, hd⟩ := r
  have hn := line63
  cases rp with
  | non => cases hd
  | bl b => cases hd
  | int i => cases hd
  | str x a b => cases hd
  | scr a => cases hd
  | emp a => cases hd
  | lst e ra =>
    cases rv
    obtain ⟨its, r', pl, hz⟩ := I.list (SqL.of (hs _ _ e))
    have hlen := r'.length
    have hl2 := rpall_len ra
    exact Calls.call_len_list (s := { s with heap := h, toks := tk }) (Heap.IsList.at pl.isList (k _)) (by simp only [List.size_toArray] <;> omega) ⟨h, _, rfl, fun _ _ e => e, by
      rw [List.size_toArray, ← hlen, hl2]
      exact .int _ _⟩
  | tup e ra =>
    cases rv
    obtain ⟨its, r', pl, hz⟩ := I.tuple (TupAt.keep e fun _ => hs _ _).sq
    have hlen := r'.length
    have hl2 := rpall_len ra
    exact len_tuple (s := { s with heap := h, toks := tk }) (IsTup.keeps pl k) (by simp only [List.size_toArray] <;> omega) ⟨h, _, rfl, fun _ _ e => e, by
      rw [List.size_toArray, ← hlen, hl2]
      exact .int _ _⟩
end
section
variable {X : Cx}
def tSL (K : Frag) (td : TE) : TE := fun σ H Q => td σ H fun x H1 => RAp1 K .sortedlen x H1 Q
theorem c_sortedLen (hu : X.A.units + 64 < cLine) {pins : List (Addr × Obj)} {s : Shared} {σ : L2.St} {H : Hp} {x : V} {u : Value} {Q : VK} (I : Inv X pins σ H s) (rx : RelV x u) (h : RAp1 X.K .sortedlen x H Q) :
    wpAny (model X.prog X.w) X.A (call (.builtin "sorted") [u] [(Str.ofString "key", .builtin "len")]) (EP X pins σ Q) X.xe s := by
  obtain ⟨Im, r, w, hs, hr, e1, wt⟩ := h
  change a1_sortedlen r = some w at e1
  unfold a1_sortedlen at e1
  split at e1
  · split at e1
    · rename_i ds hsq
      cases e1
      obtain ⟨p, vs, rfl, hp, ra⟩ := hr.list hs
      cases rx
      obtain ⟨its, rv, hl, hz⟩ := I.list (SqL.of hp)
      have hl2 := rpall_len ra
      have hzl : (vs.zip ds).length = vs.length := by rw [List.length_zip, ← hl2, Nat.min_self]
      refine PySem.W.sorted_key_data (b := false) (fun t : V × D => .int (lenD t.2 : Nat)) hl.isList (each_zip ra rv hsq) (PySem.W.AllAlike.of fun _ _ => rfl) (.inr fun d hd => ?_) (by rw [hzl]; exact hz) (fun t _ => ?_) (PyProof.Rows.ksk_s1 _ _) (fun _ => PyProof.Rows.ksk_l1 _ _) (fun _ => PyProof.Rows.ksk_t4 _ _) (fun v t hR _ h tk k => len_pure I hs hR h tk k) fun out c h' tk kp _ he' _ ho => ?_
      · obtain ⟨t, _, rfl⟩ := List.mem_map.mp hd
        refine ⟨?_, ?_⟩
        · intro e; cases e
        · intro xs e; cases e
      · show X.A.units + 2 + 0 < cLine
        omega
      · obtain ⟨v1, r1⟩ := each_out ho
        rw [PySem.W.dataLe_int (fun t : V × D => ((lenD t.2 : Nat) : Int))] at v1 r1
        have e3 : ((vs.zip ds).mergeSort fun a b => decide (((lenD a.2 : Nat) : Int) ≤ ((lenD b.2 : Nat) : Int))).map (·.2) = sortD (fun a b => decide (lenD a < lenD b)) ds := by
          rw [sortD_merge lenD ds]
          have e4 : (vs.zip ds).map (·.2) = ds := List.map_snd_zip (by omega)
          have e5 := List.map_mergeSort (f := fun t : V × D => t.2) (r := fun a b => decide (((lenD a.2 : Nat) : Int) ≤ ((lenD b.2 : Nat) : Int))) (s := fun a b => decide (lenD a ≤ lenD b)) (l := vs.zip ds) (fun a _ b _ => by simp)
          rw [e5, e4]
        rw [e3] at r1
        have hlen : (((vs.zip ds).mergeSort fun a b => decide (((lenD a.2 : Nat) : Int) ≤ ((lenD b.2 : Nat) : Int))).map (·.1)).length ≤ sizeLine := by
          rw [List.length_map, List.length_mergeSort, hzl]; exact hz
        have I0 : Inv X pins σ H { s with heap := s.heap, toks := tk } := I.kept fun _ _ e => e
        exact ⟨.ref (s.heap.objs.size + 1), upd H (s.heap.objs.size + 1) (.lst (((vs.zip ds).mergeSort fun a b => decide (((lenD a.2 : Nat) : Int) ≤ ((lenD b.2 : Nat) : Int))).map (·.1))), I0.laid (t' := tk) kp (Nat.le_succ _) ⟨hlen, out, c, v1, he'⟩, rfl, wt.lst hs r1 _ (I0.hok.fresh (Nat.le_succ _))⟩
    · cases e1
  · cases e1
theorem pe_sortedLen {e : Expr} {td : TE} {p p2 kp pos : Pos} (hu : X.A.units + 64 < cLine) (gl : Gl X ("sorted" : Str)) (mg : X.mg ("sorted" : Str) = none) (gl2 : Gl X ("len" : Str)) (mg2 : X.mg ("len" : Str) = none) (he : PE X e td) (hst : starEach [e] X.env = (false, eval e X.env) :: starEach [] X.env) :
    PE X (.Call (.Name ("sorted" : Str) p) [e] [⟨some (Str.ofString "key"), .Name ("len" : Str) p2, kp⟩] pos) (tSL X.K td) := by
  refine ⟨fun pins s σ H Q I h => ?_⟩
  refine wpAny_Call_Name_kw (ld_blt I gl mg boot_sorted ?_)
  refine PyProof.Rows.callWith_kw (PyProof.Rows.args_cons (thn (he.run pins s σ H _ I h) fun u s1 hx => ?_) hst) (by show backTo pos (starEach [e] X.env) = _; rw [hst]; rfl) (by rw [hst]; rfl)
  obtain ⟨x, H1, I1, rx, h1⟩ := hx
  refine PyProof.Rows.args_nil (PyProof.Rows.kws_cons (ld_blt I1 gl2 mg2 PySem.boot_len (PyProof.Rows.kws_nil ?_)))
  exact c_sortedLen hu I1 rx h1
end
end PV
namespace PV
open PySem PySem.Spec PyProof.Rows L2
structure Gi where
  P : String → Option Def
  cst : List (Str × D)
  blt : List Str
structure Cfg where
  N : List Str
  sc : Scope
  fnL : Str → Bool
def Cfg.blk (c : Cfg) (scope : Scope) : Cfg := { c with sc := relS scope c.sc, fnL := fun x => scope.names.lookup x == some .cell }
def isVis (sc : Scope) (x : Str) : Bool := match sc.names.lookup x with
  | some .local => true
  | some .cell => true
  | some .free => true
  | _ => false
def isGl (sc : Scope) (x : Str) : Bool := match sc.names.lookup x with
  | some .globalImplicit => true
  | _ => false
def okN (x : Str) : Bool := !(x == ("__debug__" : Str)) && !(x == ("__classdict__" : Str)) && !decide (x = ("__name__" : Str))
def nmAt (c : Cfg) (i : Nat) (x : Str) : Bool := decide (c.N[i]? = some x)
def wrt (c : Cfg) (x : Str) : Bool := match c.sc.names.lookup x with
  | some .local => true
  | some .cell => c.fnL x
  | _ => false
def bopOf : Op2 → Option Operator
  | .add => some .Add
  | .sub => some .Sub
  | .mul => some .Mult
  | .fdiv => some .FloorDiv
  | .mod => some .Mod
  | .pow => some .Pow
  | _ => none
def copOf : Op2 → Option CmpOp
  | .eq => some .Eq
  | .ne => some .NotEq
  | .lt => some .Lt
  | .le => some .LtE
  | .gt => some .Gt
  | .ge => some .GtE
  | .isin => some .In
  | .notin => some .NotIn
  | .is_ => some .Is
  | .isnot => some .IsNot
  | _ => none
def opB1 : Op1 → Option String
  | .len => some "len"
  | .abs => some "abs"
  | .sum => some "sum"
  | .sorted => some "sorted"
  | .max => some "max"
  | .min => some "min"
  | _ => none
/-- of a set made at once -/
def opS1 : Op1 → Option String
  | .sortedset => some "sorted"
  | .lenset => some "len"
  | _ => none
def mName : Op2 → Option Str
  | .index => some ("index" : Str)
  | .count => some ("count" : Str)
  | _ => none
def notCall : Expr → Bool
  | .Call (.Name _ _) [] [] _ => false
  | _ => true
def opT1 : Op1 → Option String
  | .tuple => some "tuple"
  | .list => some "list"
  | .int => some "int"
  | .dict => some "dict"
  | _ => none
def opB2 : Op2 → Option String
  | .max2 => some "max"
  | .min2 => some "min"
  | _ => none
def notSlice : Expr → Bool
  | .Slice .. => false
  | _ => true
def notSet : Expr → Bool
  | .Set .. => false
  | _ => true
def notStar : Expr → Bool
  | .Starred .. => false
  | _ => true
def conOk : D → Const → Bool
  | .none, .none => true
  | .bool a, .bool b => a == b
  | .int a, .int b => decide (a = b)
  | .str a, .str b => decide (a = b) && PyData.strOk a && decide (a.length ≤ sizeLine)
  | _, _ => false
def sameC : D → D → Bool
  | .none, .none => true
  | .bool a, .bool b => a == b
  | .int a, .int b => decide (a = b)
  | .str a, .str b => decide (a = b)
  | _, _ => false
def bltOk (G : Gi) (c : Cfg) (x : Str) (n : String) : Bool := decide (x = Str.ofString n) && isGl c.sc x && okN x && G.blt.contains x
def ownOf (c : Cfg) (t : Tgt) : List (Str × Nat) := t.slots.map fun i => ((c.N[i]?).getD default, i)
mutual
def ckT : Tgt → Cfg → Expr → Bool
  | .name i, c, e => match e with
    | .Name x _ => nmAt c i x && wrt c x
    | _ => false
  | .tnil, _, e => match e with
    | .Tuple [] _ _ => true
    | _ => false
  | .tcons a b, c, e => match e with
    | .Tuple (x :: xs) _ _ => isSeqT b && notStar x && ckT a c x && ckTs b c xs
    | _ => false
def ckTs : Tgt → Cfg → List Expr → Bool
  | .tnil, _, es => es.isEmpty
  | .tcons a b, c, es => match es with
    | x :: xs => notStar x && ckT a c x && ckTs b c xs
    | [] => false
  | .name _, _, _ => false
end
/-- [o + x for o in y for x in z] -/
def lc2C (c : Cfg) (a b : E) (o o1 x x1 y z : Str) (scope : Scope) : Bool := match a, b with
  | .var i, .var j => decide (o1 = o) && decide (x1 = x) && nmAt c (c.N.idxOf o) o && nmAt c (c.N.idxOf x) x && decide (c.N.idxOf o ≠ c.N.idxOf x) && decide (i ≠ c.N.idxOf o) && decide (i ≠ c.N.idxOf x) && decide (j ≠ c.N.idxOf o) && decide (j ≠ c.N.idxOf x) &&
    nmAt c i y && isVis c.sc y && okN y && nmAt c j z && isVis (c.blk scope).sc z && okN z && wrt (c.blk scope) o && wrt (c.blk scope) x && isVis (c.blk scope).sc o && okN o && isVis (c.blk scope).sc x && okN x && blkC c.N c.sc scope (ownOf c (.tcons (.name (c.N.idxOf o)) (.tcons (.name (c.N.idxOf x)) .tnil)))
  | _, _ => false
mutual
def ckE (G : Gi) : E → Cfg → Expr → Bool
  | .var i, c, e => match e with
    | .Name x _ => nmAt c i x && isVis c.sc x && okN x
    | _ => false
  | .con d, _, e => match e with
    | .Constant k _ _ => conOk d k
    | .Dict [] [] _ => (match d with | .dict [] => true | _ => false)
    | _ => false
  | .glob _ d, c, e => match e with
    | .Name x _ => isGl c.sc x && okN x && (match G.cst.lookup x with | some d' => sameC d d' | none => false)
    | _ => false
  | .op1 f a, c, e => match e with
    | .UnaryOp .USub x _ => decide (f = .neg) && ckE G a c x
    | .UnaryOp .Not x _ => decide (f = .not) && ckE G a c x
    | .Call (.Name x _) [y] [] _ => if f = .sorted_keys then (match y with
        | .Call (.Attribute z n ap) [] [] cp => bltOk G c x "sorted" && decide (n = ("keys" : Str)) && notCall z && (ap.endLine == cp.line) && ckE G a c z
        | _ => false) else if f = .max_values then (match y with
        | .Call (.Attribute z n ap) [] [] cp => bltOk G c x "max" && decide (n = ("values" : Str)) && notCall z && (ap.endLine == cp.line) && ckE G a c z
        | _ => false) else (match opS1 f with
      | some n => (match y with
        | .Call (.Name x2 _) [z] [] _ => bltOk G c x n && bltOk G c x2 "set" && notStar z && ckE G a c z
        | _ => false)
      | none => (match opB1 f with
        | some n => bltOk G c x n
        | none => match opT1 f with
          | some n => bltOk G c x n
          | none => false) && notStar y && ckE G a c y)
    | .Call (.Name x _) [y] [⟨some kn, .Name x2 _, _⟩] _ => decide (f = .sortedlen) && decide (kn = Str.ofString "key") && bltOk G c x "sorted" && bltOk G c x2 "len" && notStar y && ckE G a c y
    | .Subscript x (.Slice none none (some (.UnaryOp .USub (.Constant (.int n) _ _) _)) _) _ => decide (f = .rev) && decide (n = 1) && ckE G a c x
    | _ => false
  | .op2 f a b, c, e => match e with
    | .BinOp x op y _ => decide (bopOf f = some op) && ckE G a c x && ckE G b c y
    | .Compare x [op] [y] _ => decide (copOf f = some op) && !behindInMarks op y && ckE G a c x && ckE G b c y
    | .Subscript x y _ => decide (f = .ix) && notSlice y && ckE G a c x && ckE G b c y
    | .Call (.Name x _) [y, z] [] _ => (match opB2 f with
      | some n => bltOk G c x n
      | none => false) && notStar y && notStar z && ckE G a c y && ckE G b c z
    | .ListComp (.BinOp (.Name o1 _) .Add (.Name x1 _) _) [⟨.Name o _, .Name y _, [], ia⟩, ⟨.Name x _, .Name z _, [], ib⟩] scope _ => decide (f = .sums) && decide (ia = 0) && decide (ib = 0) && lc2C c a b o o1 x x1 y z scope
    | .Call (.Name x _) [.Call (.Name x2 _) [y, z] [] _] [] _ => decide (f = .sumr) && bltOk G c x "sum" && bltOk G c x2 "range" && notStar y && notStar z && ckE G a c y && ckE G b c z
    | _ => false
  | .and_ a b, c, e => match e with
    | .BoolOp .And (x :: y :: r) pos => ckE G a c x && (match r with
      | [] => ckE G b c y
      | _ => ckE G b c (.BoolOp .And (y :: r) pos))
    | _ => false
  | .or_ a b, c, e => match e with
    | .BoolOp .Or (x :: y :: r) pos => ckE G a c x && (match r with
      | [] => ckE G b c y
      | _ => ckE G b c (.BoolOp .Or (y :: r) pos))
    | _ => false
  | .ite t a b, c, e => match e with
    | .IfExp x y z _ => ckE G t c x && ckE G a c y && ckE G b c z
    | _ => false
  | .chain f g a b t, c, e => match e with
    | .Compare x [op, op'] [y, z] _ => decide (copOf f = some op) && decide (copOf g = some op') && !lastMarks [op, op'] [y, z] && ckE G a c x && ckE G b c y && ckE G t c z
    | _ => false
  | .tup es, c, e => match e with
    | .Tuple xs _ _ => decide (lenE es ≤ 1000) && ckEs G es c xs
    | _ => false
  | .lst es, c, e => match e with
    | .List xs _ => decide (lenE es ≤ 1000) && ckEs G es c xs
    | _ => false
  | .slice a lo hi, c, e => match e with
    | .Subscript x (.Slice l h none _) _ => ckE G a c x && (match l with
      | none => lo.isNil
      | some y => !lo.isNil && ckE G lo c y) && (match h with
      | none => hi.isNil
      | some y => !hi.isNil && ckE G hi c y)
    | _ => false
  | .isin1 a t, c, e => match e with
    | .Call (.Name x _) [y, .Name z _] [] _ => bltOk G c x "isinstance" && bltOk G c z t.name && notStar y && ckE G a c y
    | _ => false
  | .isin2 a t u, c, e => match e with
    | .Call (.Name x _) [y, .Tuple [.Name z _, .Name z' _] _ _] [] _ => bltOk G c x "isinstance" && bltOk G c z t.name && bltOk G c z' u.name && notStar y && ckE G a c y
    | _ => false
  | .rng q k a b, c, e => match e with
    | .Call (.Name x _) [.Call (.Name y _) zs [] _] [] _ => (match q with
      | .list_ => bltOk G c x "list"
      | .tuple_ => bltOk G c x "tuple") && bltOk G c y "range" && (match k, zs with
      | .range1, [z] => notStar z && ckE G a c z
      | .range2, [z, z'] => notStar z && notStar z' && ckE G a c z && ckE G b c z'
      | .range3, [z, z', .UnaryOp .USub (.Constant (.int n) _ _) _] => (match q with | .tuple_ => true | .list_ => false) && decide (n = 1) && notStar z && notStar z' && ckE G a c z && ckE G b c z'
      | _, _ => false)
    | _ => false
  | .call f args, c, e => match e with
    | .Call (.Name x _) xs [] _ => decide (x = Str.ofString f) && isGl c.sc x && okN x && (G.P f).isSome && ckEs G args c xs
    | _ => false
  | .comp elt t k a b d, c, e => match e with
    | .ListComp x [⟨tg, it, ifs, ia⟩] scope _ => decide (ia = 0) && notSet it && blkC c.N c.sc scope (ownOf c t) && ckT t (c.blk scope) tg && (match ifs with
      | [] => d.isNil
      | [y] => !d.isNil && ckE G d (c.blk scope) y
      | _ => false) && ckE G elt (c.blk scope) x && (match k with
      | .val => ckE G a c it
      | .range1 => (match it with
        | .Call (.Name y _) [z] [] _ => bltOk G c y "range" && notStar z && ckE G a c z
        | _ => false)
      | .range2 => (match it with
        | .Call (.Name y _) [z, z'] [] _ => bltOk G c y "range" && notStar z && notStar z' && ckE G a c z && ckE G b c z'
        | _ => false)
      | .range4 => (match it with
        | .Call (.Name y _) [z, z', .Constant (.int n) _ _] [] _ => bltOk G c y "range" && decide (n = 2) && notStar z && notStar z' && ckE G a c z && ckE G b c z'
        | _ => false)
      | .enum => (match it, tg with
        | .Call (.Name y _) [z] [] _, .Tuple _ _ _ => bltOk G c y "enumerate" && notStar z && ckE G a c z
        | _, _ => false)
      | .zip => (match it, tg with
        | .Call (.Name y _) [z, z'] [] _, .Tuple _ _ _ => bltOk G c y "zip" && notStar z && notStar z' && ckE G a c z && ckE G b c z'
        | _, _ => false)
      | .keys => (match it with
        | .Call (.Attribute y n ap) [] [] cp => decide (n = ("keys" : Str)) && notCall y && (ap.endLine == cp.line) && ckE G a c y
        | it' => ckE G a c it')
      | .values => (match it with
        | .Call (.Attribute y n ap) [] [] cp => decide (n = ("values" : Str)) && notCall y && (ap.endLine == cp.line) && ckE G a c y
        | _ => false)
      | _ => false)
    | _ => false
  | .pop i, c, e => match e with
    | .Call (.Attribute (.Name x _) n ap) [] [] cp => nmAt c i x && isVis c.sc x && okN x && decide (n = ("pop" : Str)) && (ap.endLine == cp.line)
    | _ => false
  | .dict0, _, e => match e with
    | .Dict [] [] _ => true
    | _ => false
  | .dict1 k v, c, e => match e with
    | .Dict [some x] [y] _ => ckE G k c x && ckE G v c y
    | _ => false
  | .get d k z, c, e => match e with
    | .Call (.Attribute x n ap) [y, y'] [] cp => decide (n = ("get" : Str)) && notCall x && (ap.endLine == cp.line) && notStar y && notStar y' && ckE G d c x && ckE G k c y && ckE G z c y'
    | _ => false
  | .meth f a b, c, e => match e with
    | .Call (.Attribute x n ap) [y] [] cp => decide (mName f = some n) && notCall x && (ap.endLine == cp.line) && notStar y && ckE G a c x && ckE G b c y
    | _ => false
  | _, _, _ => false
def ckEs (G : Gi) : E → Cfg → List Expr → Bool
  | .nil, _, es => es.isEmpty
  | .cons a b, c, es => match es with
    | x :: xs => notStar x && ckE G a c x && ckEs G b c xs
    | [] => false
  | _, _, _ => false
end
structure Ctx (G : Gi) (k : Nat) (X : Cx) (c : Cfg) : Prop where
  N : X.N = c.N
  sc : X.env.scope = c.sc
  nd : c.N.Nodup
  calm : X.calm = true
  room : Room k X.A
  blt : ∀ x, G.blt.contains x = true → X.mg x = none
  cst : ∀ x d, G.cst.lookup x = some d → ∃ v u, X.mg x = some u ∧ RelV v u ∧ ∀ Im, Rp X.K Im v d
  fns : ∀ f d, G.P f = some d → ∃ fa fd ps, FnOk X.prog X.w X.K X.mg X.base CX0 k fa fd ps (spOf X.K d.refs (callN G.P k f)) ∧ X.mg (Str.ofString f) = some (.ref fa) ∧ PySem.W.keepIn X.K (.ref fa) = true ∧ Binds X.K fd ps []
  fnl : ∀ x, c.fnL x = true → X.fn x = true
section
variable {G : Gi} {k : Nat} {X : Cx} {c : Cfg}
theorem Ctx.blk {scope : Scope} {s : Shared} {H : Hp} {cl : List (Str × Addr)} {C : Addr} {fp : List Addr} (h : Ctx G k X c) : Ctx G k (X.blk s H scope (compEnvC scope cl C X.env) fp) (c.blk scope) :=
  ⟨h.N, by show relS scope X.env.scope = relS scope c.sc; rw [h.sc], h.nd, h.calm, h.room, h.blt, h.cst, h.fns, fun x hx => hx⟩
theorem Ctx.vis {x : Str} (h : Ctx G k X c) (e : isVis c.sc x = true) : Vis X.env.scope x := by
  rw [h.sc]
  unfold isVis at e
  unfold Vis
  split at e
  · exact .inl (by assumption)
  · exact .inr (.inl (by assumption))
  · exact .inr (.inr (by assumption))
  · cases e
theorem Ctx.gl {x : Str} (h : Ctx G k X c) (e : isGl c.sc x = true) : Gl X x := by
  unfold Gl
  show X.env.scope.names.lookup x = _
  rw [h.sc]
  unfold isGl at e
  split at e
  · assumption
  · cases e
theorem okN_d {x : Str} (h : okN x = true) : (x == ("__debug__" : Str)) = false ∧ (x == ("__classdict__" : Str)) = false ∧ x ≠ ("__name__" : Str) := by
  unfold okN at h
  rw [Bool.and_eq_true, Bool.and_eq_true] at h
  exact ⟨by simpa using h.1.1, by simpa using h.1.2, by simpa using h.2⟩
theorem nmAt_is {i : Nat} {x : Str} (h : Ctx G k X c) (e : nmAt c i x = true) : X.N[i]? = some x := by
  rw [h.N]
  exact of_decide_eq_true e
structure Blt (G : Gi) (X : Cx) (x : Str) (n : String) : Prop where
  eq : x = Str.ofString n
  gl : Gl X x
  mg : X.mg x = none
  nn : x ≠ ("__name__" : Str)
  nd : (x == ("__debug__" : Str)) = false
theorem Ctx.bl {x : Str} {n : String} (h : Ctx G k X c) (e : bltOk G c x n = true) : Blt G X x n := by
  unfold bltOk at e
  rw [Bool.and_eq_true, Bool.and_eq_true, Bool.and_eq_true] at e
  obtain ⟨⟨⟨e1, e2⟩, e3⟩, e4⟩ := e
  have q := okN_d e3
  exact ⟨of_decide_eq_true e1, h.gl e2, h.blt _ e4, q.2.2, q.1⟩
theorem star_of {e : Expr} {es : List Expr} {env : Env} (h : notStar e = true) : starEach (e :: es) env = (false, eval e env) :: starEach es env := by
  cases e <;> first | rfl | cases h
theorem Ctx.wr {x : Str} (h : Ctx G k X c) (e : wrt c x = true) : L2.Loc X.env.scope x ∧ (X.fn x = true ∨ X.env.scope.names.lookup x = some .local) := by
  rw [h.sc]
  unfold wrt at e
  unfold L2.Loc
  split at e
  · rename_i q
    exact ⟨.inl q, .inr q⟩
  · rename_i q
    exact ⟨.inr q, .inl (h.fnl x e)⟩
  · cases e
theorem assignEach_cons {e : Expr} {es : List Expr} {env : Env} (h : notStar e = true) : assignEach (e :: es) env = (false, assign e env) :: assignEach es env := by
  cases e <;> first | rfl | cases h
theorem ckTs_len : ∀ {t : Tgt} {es : List Expr} {env : Env}, ckTs t c es = true → (assignEach es env).length = lenT t ∧ (assignEach es env).findIdx? (·.1) = none
  | .tnil, [], _, _ => ⟨rfl, rfl⟩
  | .tnil, _ :: _, _, h => by simp [ckTs] at h
  | .tcons a b, [], _, h => by simp [ckTs] at h
  | .tcons a b, e :: es, env, h => by
    rw [ckTs, Bool.and_eq_true, Bool.and_eq_true] at h
    obtain ⟨h1, h2⟩ := ckTs_len (t := b) (es := es) (env := env) h.2
    rw [assignEach_cons h.1.1, List.length_cons, h1]
    refine ⟨rfl, ?_⟩
    rw [List.findIdx?_cons]
    simp [h2]
  | .name _, _, _, h => by simp [ckTs] at h
theorem PGs.of {es : List Expr} {t t' : TGs} (h : PGs X es t) (g : ∀ vs σ H Q, t' vs σ H Q → t vs σ H Q) : PGs X es t' := ⟨fun pins s σ H vs us Q I r q => h.run pins s σ H vs us Q I r (g vs σ H Q q)⟩
mutual
theorem ckT_ok (h : Ctx G k X c) : ∀ (t : Tgt) {e : Expr}, ckT t c e = true → PG X e (TGt X.K t)
  | .name i, e, q => by
    unfold ckT at q
    split at q
    · rw [Bool.and_eq_true] at q
      obtain ⟨q1, q2⟩ := h.wr q.2
      exact (pg_name (by rw [h.N]; exact h.nd) (nmAt_is h q.1) q1 q2).of fun v σ H Q z => tgt_name z
    · cases q
  | .tnil, e, q => by
    unfold ckT at q
    split at q
    · refine (pg_tup (n := 0) h.calm (PGs.of (t' := TGts X.K .tnil) pgs_nil fun vs σ H Q z => tgts_nil z)).of fun v σ H Q z => ?_
      exact tgt_tup rfl z
    · cases q
  | .tcons a b, e, q => by
    unfold ckT at q
    split at q
    · rename_i x xs _ _
      rw [Bool.and_eq_true, Bool.and_eq_true, Bool.and_eq_true] at q
      obtain ⟨⟨⟨q1, q2⟩, q3⟩, q4⟩ := q
      have hl := ckTs_len (t := .tcons a b) (es := x :: xs) (env := X.env) (c := c) (by rw [ckTs, q2, q3, q4]; rfl)
      refine (pg_tup h.calm (ckTs_ok h (.tcons a b) (es := x :: xs) (by rw [ckTs, q2, q3, q4]; rfl)) hl.1 hl.2).of fun v σ H Q z => tgt_tup q1 z
    · cases q
theorem ckTs_ok (h : Ctx G k X c) : ∀ (t : Tgt) {es : List Expr}, ckTs t c es = true → PGs X es (TGts X.K t)
  | .tnil, es, q => by
    cases es with
    | nil => exact PGs.of pgs_nil fun vs σ H Q z => tgts_nil z
    | cons _ _ => simp [ckTs] at q
  | .tcons a b, es, q => by
    cases es with
    | nil => simp [ckTs] at q
    | cons e es =>
      rw [ckTs, Bool.and_eq_true, Bool.and_eq_true] at q
      exact PGs.of (pgs_cons (ckT_ok h a q.1.2) (ckTs_ok h b q.2) (by rw [assignEach_cons q.1.1]; rfl)) fun vs σ H Q z => tgts_cons z
  | .name _, _, q => by simp [ckTs] at q
end
abbrev sigG (G : Gi) : SigF := fun f => (G.P f).map (·.refs)
abbrev evG (G : Gi) (k : Nat) : E → Sg → Option (W × Sg) := ev (sigG G) (callN G.P k)
structure Snd (G : Gi) (k : Nat) (X : Cx) (E : E) (e : Expr) : Prop where
  pe : PE X e (TEv X.K (evG G k E))
  pt : PT X e (TTv X.K (evB (evG G k E)))
  pw : ∀ op es pos, e = .BoolOp op es pos → PW X e (TTv X.K (evB (evG G k E)))
theorem Snd.mk' {E : E} {e : Expr} (h : PE X e (TEv X.K (evG G k E))) (he : ∀ whole, isTrue e X.env whole = (do let v ← whole; standAt e.pos; holding [v] (truthy v))) (hb : ∀ op es pos, e ≠ .BoolOp op es pos) : Snd G k X E e :=
  ⟨h, pt_of_pe h he, fun op es pos z => absurd z (hb op es pos)⟩
theorem con_ok {d : D} {q : Const} {j : Nat} {pos : Pos} (h : conOk d q = true) : PE X (.Constant q j pos) (TEv X.K (evG G k (.con d))) := by
  cases d <;> cases q <;> first | (cases h; done) | skip
  · exact s_con _ _ pe_non fun Im => .non
  · rename_i a b
    have e : a = b := by simpa [conOk] using h
    subst e
    exact s_con _ _ pe_bl fun Im => .bl _
  · rename_i a b
    have e : a = b := of_decide_eq_true h
    subst e
    exact s_con _ _ pe_int fun Im => .int _
  · rename_i a b
    have h : (decide (a = b) && PyData.strOk a && decide (a.length ≤ sizeLine)) = true := h
    rw [Bool.and_eq_true, Bool.and_eq_true] at h
    have e : a = b := of_decide_eq_true h.1.1
    subst e
    exact s_con _ _ pe_str fun Im => .str _ h.1.2 (of_decide_eq_true h.2)
theorem sameC_eq {a b : D} (h : sameC a b = true) : a = b := by
  cases a <;> cases b <;> first | (cases h; done) | skip
  · rfl
  · rw [show _ = _ from eq_of_beq h]
  · rw [show _ = _ from of_decide_eq_true h]
  · rw [show _ = _ from of_decide_eq_true h]
theorem room65 (h : Ctx G k X c) : X.A.units + 65 < cLine := by have := h.room.un; omega
theorem bop_ok {f : Op2} {op : Operator} (e : bopOf f = some op) : OpR X (binaryOp op) (RAp2 X.K f) := by
  cases f <;> first | (cases e; done) | skip
  · cases e; exact r_add
  · cases e; exact r_sub
  · cases e; exact r_mul
  · cases e; exact r_fdiv
  · cases e; exact r_mod
  · cases e; exact r_pow
theorem cop_ok {f : Op2} {op : CmpOp} (hu : X.A.units + 65 < cLine) (e : copOf f = some op) : OpR X (compareOp op) (RAp2 X.K f) := by
  have hu' : X.A.units + 64 < cLine := by omega
  cases f <;> first | (cases e; done) | skip
  · cases e; exact r_eq hu'
  · cases e; exact r_ne hu'
  · cases e; exact r_lt hu'
  · cases e; exact r_le hu'
  · cases e; exact r_gt hu'
  · cases e; exact r_ge hu'
  · cases e; exact r_isin hu
  · cases e; exact r_notin hu
  · cases e; exact r_is
  · cases e; exact r_isnot
theorem b1_ok {f : Op1} {n : String} (hu : X.A.units + 64 < cLine) (hu' : X.A.units + 65 < cLine) (hc : X.calm = true) (e : opB1 f = some n) : CallR X (.builtin n) (RC1 X.K f) ∧ bootBuiltins (Str.ofString n) = some (.builtin n) := by
  cases f <;> first | (cases e; done) | skip
  · cases e; exact ⟨c_len, PySem.boot_len⟩
  · cases e; exact ⟨c_sorted hu, PyProof.Rows.boot_sorted⟩
  · cases e; exact ⟨c_sum hc, boot_sum⟩
  · cases e; exact ⟨c_best hc hu' false, boot_max⟩
  · cases e; exact ⟨c_best hc hu' true, boot_min⟩
  · cases e; exact ⟨c_abs, boot_abs⟩
theorem t1_ok {f : Op1} {n : String} (hu' : X.A.units + 65 < cLine) (hc : X.calm = true) (e : opT1 f = some n) : CallR X (.type n) (RC1 X.K f) ∧ bootBuiltins (Str.ofString n) = some (.type n) := by
  cases f <;> first | (cases e; done) | skip
  · cases e; exact ⟨c_tuple, PyProof.Rows.boot_tuple⟩
  · cases e; exact ⟨c_list hc, PyProof.Rows.boot_list⟩
  · cases e; exact ⟨c_int, PyProof.Rows.boot_int⟩
  · cases e; exact ⟨c_dict hc hu', PyProof.Rows.boot_dict⟩
theorem b2_ok {f : Op2} {n : String} (hc : X.calm = true) (e : opB2 f = some n) : CallR X (.builtin n) (RC2 X.K f) ∧ bootBuiltins (Str.ofString n) = some (.builtin n) := by
  cases f <;> first | (cases e; done) | skip
  · cases e; exact ⟨c_max2 hc, boot_max⟩
  · cases e; exact ⟨c_min2 hc, boot_min⟩
theorem ty_boot (t : Ty) : bootBuiltins (Str.ofString t.name) = some (.type t.name) := by
  cases t
  · exact PyProof.Rows.boot_int
  · exact PyProof.Rows.boot_bool
  · exact PyProof.Rows.boot_tuple
  · exact PyProof.Rows.boot_str
  · exact PyProof.Rows.boot_list
def allNS (es : List Expr) : Bool := es.all notStar
theorem plain_of {es : List Expr} {env : Env} {pos : Pos} (h : allNS es = true) : (backTo pos (starEach es env)).any (·.1) = false := by
  induction es with
  | nil => rfl
  | cons e es ih =>
    unfold allNS at h
    rw [List.all_cons, Bool.and_eq_true] at h
    rw [star_of h.1]
    unfold backTo at ih ⊢
    rw [List.map_cons, List.any_cons, ih h.2]
    rfl
/-- what is shown of a term -/
def Good (G : Gi) (k : Nat) (E : E) : Prop :=
  (∀ X c e, Ctx G k X c → ckE G E c e = true → Snd G k X E e) ∧
  (∀ X c es, Ctx G k X c → ckEs G E c es = true → PA X es (TAd X.K (evsD (sigG G) (callN G.P k) E)) ∧ PA X es (TAw X.K (evs (sigG G) (callN G.P k) E)) ∧ allNS es = true)
theorem no_es {E : E} (h : ∀ c es, ckEs G E c es = false) : ∀ X c es, Ctx G k X c → ckEs G E c es = true → PA X es (TAd X.K (evsD (sigG G) (callN G.P k) E)) ∧ PA X es (TAw X.K (evs (sigG G) (callN G.P k) E)) ∧ allNS es = true :=
  fun X c es _ q => by rw [h] at q; cases q
theorem good_var (i : Nat) : Good G k (.var i) := by
  refine ⟨fun X c e h q => ?_, no_es fun c es => by simp [ckEs]⟩
  unfold ckE at q
  split at q
  · rw [Bool.and_eq_true, Bool.and_eq_true] at q
    obtain ⟨⟨q1, q2⟩, q3⟩ := q
    have o := okN_d q3
    exact .mk' (s_var _ _ (nmAt_is h q1) (h.vis q2) o.1 o.2.1) (fun _ => rfl) (fun _ _ _ z => nomatch z)
  · cases q
theorem good_con (d : D) : Good G k (.con d) := by
  refine ⟨fun X c e h q => ?_, no_es fun c es => by simp [ckEs]⟩
  unfold ckE at q
  split at q
  · exact .mk' (con_ok q) (fun _ => rfl) (fun _ _ _ z => nomatch z)
  · split at q
    · exact .mk' (pe_dnewK.of fun σ H Q z => tev_conE _ _ z) (fun _ => rfl) (fun _ _ _ z => nomatch z)
    · cases q
  · cases q
theorem good_glob (z : String) (d : D) : Good G k (.glob z d) := by
  refine ⟨fun X c e h q => ?_, no_es fun c es => by simp [ckEs]⟩
  unfold ckE at q
  split at q
  · rename_i x _
    rw [Bool.and_eq_true, Bool.and_eq_true] at q
    obtain ⟨⟨q1, q2⟩, q3⟩ := q
    split at q3
    · rename_i d' hd
      have e := sameC_eq q3
      subst e
      obtain ⟨v, u, h1, h2, h3⟩ := h.cst _ _ hd
      exact .mk' (s_glob _ _ (h.gl q1) h1 h2 (okN_d q2).1 h3) (fun _ => rfl) (fun _ _ _ z => nomatch z)
    · cases q3
  · cases q
theorem base_ok {x : Expr} {n : Str} (h : notCall x = true) : attributeBase x n X.env (eval x X.env) = eval x X.env := by
  cases x <;> first | rfl | skip
  rename_i f as ks p
  cases f <;> cases as <;> cases ks <;> first | rfl | cases h
theorem good_op1 (f : Op1) (a : E) (ha : Good G k a) : Good G k (.op1 f a) := by
  refine ⟨fun X c e h q => ?_, no_es fun c es => by simp [ckEs]⟩
  unfold ckE at q
  split at q
  · rw [Bool.and_eq_true] at q
    have e := of_decide_eq_true q.1
    subst e
    exact .mk' (s_un _ _ u_neg (ha.1 X c _ h q.2).pe) (fun _ => rfl) (fun _ _ _ z => nomatch z)
  · rw [Bool.and_eq_true] at q
    have e := of_decide_eq_true q.1
    subst e
    have sa := ha.1 X c _ h q.2
    exact ⟨(pe_not sa.pe).of fun σ H Q z => tev_not _ _ z, (pt_not sa.pt).of fun σ H Q z => ttv_not _ _ z, fun _ _ _ z => nomatch z⟩
  · rename_i x p y pos
    split at q
    · rename_i hf
      subst hf
      split at q
      · rename_i z n ap cp
        rw [Bool.and_eq_true, Bool.and_eq_true, Bool.and_eq_true, Bool.and_eq_true] at q
        obtain ⟨⟨⟨⟨q1, q2⟩, q3⟩, q4⟩, q5⟩ := q
        have b := h.bl q1
        have e1 := b.eq
        have e2 := of_decide_eq_true q2
        subst e1 e2
        exact .mk' ((pe_sortedKeys h.room.units h.calm b.gl b.mg (ha.1 X c _ h q5).pe (base_ok q3) q4).of fun σ H Q z => tev_op1 (r := fun x H Q => RAp1 X.K .sorted_keys x H Q) _ _ z fun _ _ _ w => w) (fun _ => rfl) (fun _ _ _ z => nomatch z)
      · cases q
    split at q
    · rename_i hf
      subst hf
      split at q
      · rename_i z n ap cp
        rw [Bool.and_eq_true, Bool.and_eq_true, Bool.and_eq_true, Bool.and_eq_true] at q
        obtain ⟨⟨⟨⟨q1, q2⟩, q3⟩, q4⟩, q5⟩ := q
        have b := h.bl q1
        have e1 := b.eq
        have e2 := of_decide_eq_true q2
        subst e1 e2
        exact .mk' ((pe_maxValues (room65 h) h.calm b.gl b.mg (ha.1 X c _ h q5).pe (base_ok q3) q4).of fun σ H Q z => tev_op1 (r := fun x H Q => RAp1 X.K .max_values x H Q) _ _ z fun _ _ _ w => w) (fun _ => rfl) (fun _ _ _ z => nomatch z)
      · cases q
    split at q
    · rename_i n hn
      split at q
      · rename_i x2 p2 z pos2
        rw [Bool.and_eq_true, Bool.and_eq_true, Bool.and_eq_true] at q
        obtain ⟨⟨⟨q1, q2⟩, q3⟩, q4⟩ := q
        have b := h.bl q1
        have b2 := h.bl q2
        have e1 := b.eq
        have e2 := b2.eq
        subst e1 e2
        have sa := ha.1 X c _ h q4
        have hz : starEach [z] X.env = (false, eval z X.env) :: starEach [] X.env := star_of q3
        have innerI := fun kd : Bool => pe_callTy (pos := pos2) (p := p2) (c_setIK h.calm kd) b2.gl b2.mg PyProof.Rows.boot_set (pa_cons sa.pe pa_nil hz) b2.nn b2.nd hz rfl
        have innerT := fun kd : Bool => pe_callTy (pos := pos2) (p := p2) (c_setTK h.calm h.room.units kd) b2.gl b2.mg PyProof.Rows.boot_set (pa_cons sa.pe pa_nil hz) b2.nn b2.nd hz rfl
        cases f <;> first | (cases hn; done) | skip
        · cases hn
          have both := fun kd : Bool => pe_or2 (pe_callB (pos := pos) (p := p) (cr_sortedSet h.calm) b.gl b.mg PyProof.Rows.boot_sorted (pa_cons (innerI kd) pa_nil rfl) b.nn b.nd rfl rfl) (pe_callB (pos := pos) (p := p) (cr_sortedM h.calm h.room.units) b.gl b.mg PyProof.Rows.boot_sorted (pa_cons (innerT kd) pa_nil rfl) b.nn b.nd rfl rfl)
          exact .mk' ((pe_or2 (both true) (both false)).of fun σ H Q z => tev_sortedset _ _ z) (fun _ => rfl) (fun _ _ _ z => nomatch z)
        · cases hn
          have both := fun kd : Bool => pe_callB (pos := pos) (p := p) c_lenO b.gl b.mg PySem.boot_len (pa_cons (innerI kd) pa_nil rfl) b.nn b.nd rfl rfl
          exact .mk' ((pe_or2 (both true) (both false)).of fun σ H Q z => tev_lenset _ _ z) (fun _ => rfl) (fun _ _ _ z => nomatch z)
      · cases q
    rw [Bool.and_eq_true, Bool.and_eq_true] at q
    obtain ⟨⟨q1, q2⟩, q3⟩ := q
    have sa := ha.1 X c _ h q3
    have hs : starEach [y] X.env = (false, eval y X.env) :: starEach [] X.env := star_of q2
    split at q1
    · rename_i n hn
      have b := h.bl q1
      obtain ⟨r1, r2⟩ := b1_ok (X := X) h.room.units (room65 h) h.calm hn
      have hx := b.eq
      subst hx
      exact .mk' ((pe_callB r1 b.gl b.mg r2 (pa_cons sa.pe pa_nil hs) b.nn b.nd hs rfl).of fun σ H Q z => tev_call1 _ _ z) (fun _ => rfl) (fun _ _ _ z => nomatch z)
    · split at q1
      · rename_i n hn
        have b := h.bl q1
        obtain ⟨r1, r2⟩ := t1_ok (X := X) (room65 h) h.calm hn
        have hx := b.eq
        subst hx
        exact .mk' ((pe_callTy r1 b.gl b.mg r2 (pa_cons sa.pe pa_nil hs) b.nn b.nd hs rfl).of fun σ H Q z => tev_call1 _ _ z) (fun _ => rfl) (fun _ _ _ z => nomatch z)
      · cases q1
  · rename_i x p y kn x2 p2 kp pos
    rw [Bool.and_eq_true, Bool.and_eq_true, Bool.and_eq_true, Bool.and_eq_true, Bool.and_eq_true] at q
    obtain ⟨⟨⟨⟨⟨q1, q2⟩, q3⟩, q4⟩, q5⟩, q6⟩ := q
    have e1 := of_decide_eq_true q1
    have e2 := of_decide_eq_true q2
    subst e1 e2
    have b := h.bl q3
    have b2 := h.bl q4
    have e3 := b.eq
    have e4 := b2.eq
    subst e3 e4
    have hs : starEach [y] X.env = (false, eval y X.env) :: starEach [] X.env := star_of q5
    exact .mk' ((pe_sortedLen h.room.units b.gl b.mg b2.gl b2.mg (ha.1 X c _ h q6).pe hs).of fun σ H Q z => tev_op1 (r := fun x H Q => RAp1 X.K .sortedlen x H Q) _ _ z fun _ _ _ w => w) (fun _ => rfl) (fun _ _ _ z => nomatch z)
  · rename_i x n k p1 p2 p3 pos
    rw [Bool.and_eq_true, Bool.and_eq_true] at q
    obtain ⟨⟨q1, q2⟩, q3⟩ := q
    have e1 := of_decide_eq_true q1
    have e2 := of_decide_eq_true q2
    subst e1 e2
    exact .mk' ((pe_rev (ha.1 X c _ h q3).pe).of fun σ H Q z => tev_op1 (r := fun x H Q => RAp1 X.K .rev x H Q) _ _ z fun _ _ _ w => w) (fun _ => rfl) (fun _ _ _ z => nomatch z)
  · cases q
theorem own_slots0 {c : Cfg} {t : Tgt} : (ownOf c t).map (·.2) = t.slots := by
  unfold ownOf
  rw [List.map_map]
  exact List.map_id' _
theorem rp_ints {K : Frag} {Im : Hp} : ∀ ns : List Int, RpAll K Im (ns.map V.int) (ns.map PyData.int)
  | [] => .nil
  | n :: r => .cons (.int n) (rp_ints r)
theorem tvar_of {sig : SigF} {cf : CF} {K : Frag} {i : Nat} {σ : L2.St} {H : Hp} {Q : VK} (h : TEv K (ev sig cf (.var i)) σ H Q) : tVar i σ H Q := by
  obtain ⟨s, Im, R, w, s', e, k⟩ := h
  rw [ev] at e
  split at e
  · rename_i x es
    cases e
    obtain ⟨v, h1, h2⟩ := R.d _ _ es
    exact ⟨v, h1, k Im v H R .refl (.d h2)⟩
  · rename_i q c es
    cases e
    obtain ⟨p, h1, h2, _⟩ := R.m _ _ _ es
    exact ⟨_, h1, k Im _ H R .refl (.own h1)⟩
  · cases e
theorem lc2_good {a b : E} {o x y z : Str} {o1 x1 : Str} {scope : Scope} {po1 px1 pb po py px pz pos : Pos} (h : Ctx G k X c) (q : lc2C c a b o o1 x x1 y z scope = true) :
    PE X (.ListComp (.BinOp (.Name o1 po1) .Add (.Name x1 px1) pb) [⟨.Name o po, .Name y py, [], 0⟩, ⟨.Name x px, .Name z pz, [], 0⟩] scope pos) (TEv X.K (ev (sigG G) (callN G.P k) (.op2 .sums a b))) := by
  unfold lc2C at q
  split at q
  · rename_i i j
    simp only [Bool.and_eq_true, decide_eq_true_eq] at q
    obtain ⟨⟨⟨⟨⟨⟨⟨⟨⟨⟨⟨⟨⟨⟨⟨⟨⟨⟨⟨⟨⟨q1, q2⟩, q3⟩, q4⟩, q5⟩, q6⟩, q7⟩, q8⟩, q9⟩, q10⟩, q11⟩, q12⟩, q13⟩, q14⟩, q15⟩, q16⟩, q17⟩, q18⟩, q19⟩, q20⟩, q21⟩, q22⟩ := q
    subst q1 q2
    generalize hso : c.N.idxOf o1 = so at *
    generalize hsx : c.N.idxOf x1 = sx at *
    have n3 := nmAt_is h q3
    have n4 := nmAt_is h q4
    have okb : BlkOk X.N X.env.scope scope (ownOf c (.tcons (.name so) (.tcons (.name sx) .tnil))) := by
      rw [h.N, h.sc]
      exact blkOk_by q22
    have hO := okN_d q12
    have hZ := okN_d q15
    have ho := okN_d q19
    have hx := okN_d q21
    have core := pe_lc2 (X := X) (pos := pos) (vs1 := [sx]) (iter := .Name y py) (wi := iList X.K (tVar i)) h.calm (by rw [h.N]; exact h.nd) (tg := .Name o1 po) (pi_list (pe_var (pos := py) (nmAt_is h q10) (h.vis q11) hO.1 hO.2.1)) okb (by rw [own_slots0]; simp [Tgt.slots])
      (fun s H C cl fp => by
        have hb := h.blk (s := s) (H := H) (cl := cl) (C := C) (fp := fp) (scope := scope)
        obtain ⟨w1, w2⟩ := hb.wr q16
        exact pg_name (pos := po) (by rw [hb.N]; exact hb.nd) (nmAt_is hb q3) w1 w2)
      (fun s H C cl fp => pts_nil) (tg1 := .Name x1 px) (iter1 := .Name z pz) (wi1 := iList X.K (tVar j))
      (fun s H C cl fp => by
        have hb := h.blk (s := s) (H := H) (cl := cl) (C := C) (fp := fp) (scope := scope)
        exact pi_list (pe_var (pos := pz) (nmAt_is hb q13) (hb.vis q14) hZ.1 hZ.2.1))
      (fun s H C cl fp => by
        have hb := h.blk (s := s) (H := H) (cl := cl) (C := C) (fp := fp) (scope := scope)
        obtain ⟨w1, w2⟩ := hb.wr q17
        exact pg_name (pos := px) (by rw [hb.N]; exact hb.nd) (nmAt_is hb q4) w1 w2)
      (fun s H C cl fp => pts_nil)
      (fun s H C cl fp => by
        have hb := h.blk (s := s) (H := H) (cl := cl) (C := C) (fp := fp) (scope := scope)
        exact pe_op (pos := pb) op_add (pe_var (pos := po1) (nmAt_is hb q3) (hb.vis q18) ho.1 ho.2.1) (pe_var (pos := px1) (nmAt_is hb q4) (hb.vis q20) hx.1 hx.2.1))
    rw [own_slots0] at core
    refine ⟨fun pins s σ H Q I w => core.run pins s σ H Q I ?_⟩
    obtain ⟨v, e1, z1⟩ := tvar_of (tev_op2 (r2 := fun x y H Q => RAp2 X.K .sums x y H Q) _ _ w fun _ _ _ _ r => r)
    obtain ⟨u, e2, Im, r, q, w', hs, hr, hq, e, wt⟩ := tvar_of z1
    change a2_sums r q = some w' at e
    unfold a2_sums at e
    split at e
    · split at e
      · rename_i hc
        cases e
        simp only [Bool.and_eq_true, decide_eq_true_eq] at hc
        obtain ⟨⟨c1, c2⟩, c3⟩ := hc
        obtain ⟨ns, rfl⟩ := allInt_map c1
        obtain ⟨ms, rfl⟩ := allInt_map c2
        obtain ⟨p1, vs1, rfl, hp1, ra1⟩ := hr.list hs
        obtain ⟨p2, vs2, rfl, hp2, ra2⟩ := hq.list hs
        have e3 := ra1.intsV
        have e4 := ra2.intsV
        subst e3 e4
        have ln : ∀ {i : Nat} {x : Str}, X.N[i]? = some x → i < σ.length := fun e => by rw [I.len]; exact (List.getElem?_eq_some_iff.mp e).1
        refine tlc2_sums e1 e2 hp1 hp2 q6 q7 q8 q9 q5 (ln n3) (ln n4) (by simpa using c3) fun D hD => ?_
        rw [sumsD] at wt
        exact wt.lst hs (rp_ints _) D hD
      · cases e
    · cases e
  · cases q
theorem good_op2 (f : Op2) (a b : E) (ha : Good G k a) (hb : Good G k b) : Good G k (.op2 f a b) := by
  refine ⟨fun X c e h q => ?_, no_es fun c es => by simp [ckEs]⟩
  unfold ckE at q
  split at q
  · rw [Bool.and_eq_true, Bool.and_eq_true] at q
    obtain ⟨⟨q1, q2⟩, q3⟩ := q
    exact .mk' (s_op _ _ (bop_ok (of_decide_eq_true q1)) (ha.1 X c _ h q2).pe (hb.1 X c _ h q3).pe) (fun _ => rfl) (fun _ _ _ z => nomatch z)
  · rw [Bool.and_eq_true, Bool.and_eq_true, Bool.and_eq_true] at q
    obtain ⟨⟨⟨q1, q2⟩, q3⟩, q4⟩ := q
    have hm := q2
    rw [Bool.not_eq_true'] at hm
    have o := cop_ok (room65 h) (of_decide_eq_true q1)
    exact ⟨s_cmp _ _ o (ha.1 X c _ h q3).pe (hb.1 X c _ h q4).pe hm, t_cmp _ _ o (ha.1 X c _ h q3).pe (hb.1 X c _ h q4).pe hm, fun _ _ _ z => nomatch z⟩
  · rename_i x y pos
    rw [Bool.and_eq_true, Bool.and_eq_true, Bool.and_eq_true] at q
    obtain ⟨⟨⟨q1, q2⟩, q3⟩, q4⟩ := q
    have e := of_decide_eq_true q1
    subst e
    have hp : PlainIx y := fun o i => by cases y <;> first | rfl | cases q2
    exact .mk' (s_ix _ _ (room65 h) (ha.1 X c _ h q3).pe (hb.1 X c _ h q4).pe hp) (fun _ => rfl) (fun _ _ _ z => nomatch z)
  · rename_i x p y z pos
    rw [Bool.and_eq_true, Bool.and_eq_true, Bool.and_eq_true, Bool.and_eq_true] at q
    obtain ⟨⟨⟨⟨q1, q2⟩, q3⟩, q4⟩, q5⟩ := q
    split at q1
    · rename_i n hn
      have bb := h.bl q1
      obtain ⟨r1, r2⟩ := b2_ok (X := X) h.calm hn
      have hx := bb.eq
      subst hx
      have hs1 : starEach [z] X.env = (false, eval z X.env) :: starEach [] X.env := star_of q3
      have hs : starEach [y, z] X.env = (false, eval y X.env) :: starEach [z] X.env := star_of q2
      exact .mk' ((pe_callB r1 bb.gl bb.mg r2 (pa_cons (ha.1 X c _ h q4).pe (pa_cons (hb.1 X c _ h q5).pe pa_nil hs1) hs) bb.nn bb.nd hs (plain_of (by unfold allNS; simp [q3]))).of fun σ H Q z => tev_call2 _ _ z) (fun _ => rfl) (fun _ _ _ z => nomatch z)
    · cases q1
  · rename_i o1 po1 x1 px1 pb o po y py ia x px z pz ib scope pos
    simp only [Bool.and_eq_true, decide_eq_true_eq] at q
    obtain ⟨⟨⟨q1, q2⟩, q3⟩, q4⟩ := q
    subst q1 q2 q3
    exact .mk' (lc2_good h q4) (fun _ => rfl) (fun _ _ _ z => nomatch z)
  · rename_i x p x2 p2 y z pos2 pos
    rw [Bool.and_eq_true, Bool.and_eq_true, Bool.and_eq_true, Bool.and_eq_true, Bool.and_eq_true, Bool.and_eq_true] at q
    obtain ⟨⟨⟨⟨⟨⟨q1, q2⟩, q3⟩, q4⟩, q5⟩, q6⟩, q7⟩ := q
    have e1 := of_decide_eq_true q1
    subst e1
    have bb := h.bl q2
    have b2 := h.bl q3
    have e2 := bb.eq
    have e3 := b2.eq
    subst e2 e3
    have hs1 : starEach [z] X.env = (false, eval z X.env) :: starEach [] X.env := star_of q5
    have hs : starEach [y, z] X.env = (false, eval y X.env) :: starEach [z] X.env := star_of q4
    exact .mk' ((pe_sumRange h.calm bb.gl bb.mg b2.gl b2.mg (ha.1 X c _ h q6).pe (hb.1 X c _ h q7).pe hs hs1 (plain_of (by unfold allNS; simp [q5]))).of fun σ H Q w => tev_op2 (r2 := fun x y H Q => ∃ i j, x = .int i ∧ y = .int j ∧ RgOk i j ∧ Q (.int (sumTo i (j - i).toNat)) H) _ _ w fun _ _ _ _ r => sumr_is r) (fun _ => rfl) (fun _ _ _ z => nomatch z)
  · cases q
theorem mName_ok {f : Op2} {n : Str} (hu : X.A.units + 65 < cLine) (e : mName f = some n) : ∃ i1 i2 : String, PySem.Slot "list" n i1 ∧ typeOf (.builtin i1) = pure (.type "method_descriptor") ∧ MtR X i1 (RMt X.K true f) ∧ PySem.Slot "tuple" n i2 ∧ typeOf (.builtin i2) = pure (.type "method_descriptor") ∧ MtR X i2 (RMt X.K false f) := by
  cases f <;> first | (cases e; done) | skip
  · cases e
    exact ⟨"list.index", "tuple.index", PySem.F.slot_list_index, PySem.F.type_list_index, mt_ix hu true, PySem.F.slot_tuple_index, PySem.F.type_tuple_index, mt_ix hu false⟩
  · cases e
    exact ⟨"list.count", "tuple.count", PySem.F.slot_list_count, PySem.F.type_list_count, mt_ct hu true, PySem.F.slot_tuple_count, PySem.F.type_tuple_count, mt_ct hu false⟩
theorem good_meth (f : Op2) (a b : E) (ha : Good G k a) (hb : Good G k b) : Good G k (.meth f a b) := by
  refine ⟨fun X c e h q => ?_, no_es fun c es => by simp [ckEs]⟩
  unfold ckE at q
  split at q
  · rename_i x n ap y cp
    rw [Bool.and_eq_true, Bool.and_eq_true, Bool.and_eq_true, Bool.and_eq_true, Bool.and_eq_true] at q
    obtain ⟨⟨⟨⟨⟨q1, q2⟩, q3⟩, q4⟩, q5⟩, q6⟩ := q
    obtain ⟨i1, i2, s1, t1, m1, s2, t2, m2⟩ := mName_ok (X := X) (room65 h) (of_decide_eq_true q1)
    have hs : starEach [y] X.env = (false, eval y X.env) :: starEach [] X.env := star_of q4
    have few : ((backTo cp (starEach [y] X.env)).all (fun x => !x.1) && (backToKw cp (keywordEach [] X.env)).all (fun x => x.1.isSome) && decide ([y].length + ([] : List Keyword).length + (if ([] : List Keyword).isEmpty then 0 else 1) < 30)) = true := by rw [hs]; rfl
    have sa := ha.1 X c _ h q5
    have sb := hb.1 X c _ h q6
    have pa := pa_cons sb.pe pa_nil hs
    exact .mk' ((pe_or2 (pe_bm PySem.F.plainAttrs_list s1 t1 m1 sa.pe pa (base_ok q2) few q3 hs rfl) (pe_bmT s2 t2 m2 sa.pe pa (base_ok q2) few q3 hs rfl)).of fun σ H Q z => tev_meth _ _ z) (fun _ => rfl) (fun _ _ _ z => nomatch z)
  · cases q
theorem good_dict0 : Good G k .dict0 := by
  refine ⟨fun X c e h q => ?_, no_es fun c es => by simp [ckEs]⟩
  unfold ckE at q
  split at q
  · exact .mk' (pe_dict0.of fun σ H Q z => tev_dict0 _ _ z) (fun _ => rfl) (fun _ _ _ z => nomatch z)
  · cases q
theorem good_dict1 (a b : E) (ha : Good G k a) (hb : Good G k b) : Good G k (.dict1 a b) := by
  refine ⟨fun X c e h q => ?_, no_es fun c es => by simp [ckEs]⟩
  unfold ckE at q
  split at q
  · rw [Bool.and_eq_true] at q
    exact .mk' ((pe_dict1 (room65 h) (ha.1 X c _ h q.1).pe (hb.1 X c _ h q.2).pe).of fun σ H Q z => tev_dict1 _ _ z) (fun _ => rfl) (fun _ _ _ z => nomatch z)
  · cases q
theorem good_get (d a b : E) (hd : Good G k d) (ha : Good G k a) (hb : Good G k b) : Good G k (.get d a b) := by
  refine ⟨fun X c e h q => ?_, no_es fun c es => by simp [ckEs]⟩
  unfold ckE at q
  split at q
  · rename_i x n ap y z cp
    rw [Bool.and_eq_true, Bool.and_eq_true, Bool.and_eq_true, Bool.and_eq_true, Bool.and_eq_true, Bool.and_eq_true, Bool.and_eq_true] at q
    obtain ⟨⟨⟨⟨⟨⟨⟨q1, q2⟩, q3⟩, q4⟩, q5⟩, q6⟩, q7⟩, q8⟩ := q
    have en := of_decide_eq_true q1
    subst en
    have hs1 : starEach [z] X.env = (false, eval z X.env) :: starEach [] X.env := star_of q5
    have hs : starEach [y, z] X.env = (false, eval y X.env) :: starEach [z] X.env := star_of q4
    have few : ((backTo cp (starEach [y, z] X.env)).all (fun x => !x.1) && (backToKw cp (keywordEach [] X.env)).all (fun x => x.1.isSome) && decide ([y, z].length + ([] : List Keyword).length + (if ([] : List Keyword).isEmpty then 0 else 1) < 30)) = true := by rw [hs, hs1]; rfl
    have pa := pa_cons (ha.1 X c _ h q7).pe (pa_cons (hb.1 X c _ h q8).pe pa_nil hs1) hs
    exact .mk' ((pe_bmD PySem.F.slot_dict_get PySem.F.type_dict_get (mt_get (room65 h)) (hd.1 X c _ h q6).pe pa (base_ok q2) few q3 hs (plain_of (by unfold allNS; simp [q5]))).of fun σ H Q w => tev_get _ _ w) (fun _ => rfl) (fun _ _ _ z => nomatch z)
  · cases q
theorem good_and (a b : E) (ha : Good G k a) (hb : Good G k b) : Good G k (.and_ a b) := by
  refine ⟨fun X c e h q => ?_, no_es fun c es => by simp [ckEs]⟩
  unfold ckE at q
  split at q
  · rename_i x y r pos
    rw [Bool.and_eq_true] at q
    obtain ⟨q1, q2⟩ := q
    have sa := ha.1 X c _ h q1
    split at q2
    · have sb := hb.1 X c _ h q2
      have pw : PW X (.BoolOp .And [x, y] pos) (TTv X.K (evB (evG G k (.and_ a b)))) := (pw_and sa.pt (pw_and1 sb.pt)).of fun σ H Q z => ttv_and _ _ z
      exact ⟨(pe_and sa.pe (pe_one sb.pe)).of fun σ H Q z => tev_and _ _ z, pw.pt, fun op es p z => by cases z; exact pw⟩
    · have sb := hb.1 X c _ h q2
      have pw : PW X (.BoolOp .And (x :: y :: r) pos) (TTv X.K (evB (evG G k (.and_ a b)))) := (pw_and sa.pt (sb.pw _ _ _ rfl)).of fun σ H Q z => ttv_and _ _ z
      exact ⟨(pe_and sa.pe sb.pe).of fun σ H Q z => tev_and _ _ z, pw.pt, fun op es p z => by cases z; exact pw⟩
  · cases q
theorem good_or (a b : E) (ha : Good G k a) (hb : Good G k b) : Good G k (.or_ a b) := by
  refine ⟨fun X c e h q => ?_, no_es fun c es => by simp [ckEs]⟩
  unfold ckE at q
  split at q
  · rename_i x y r pos
    rw [Bool.and_eq_true] at q
    obtain ⟨q1, q2⟩ := q
    have sa := ha.1 X c _ h q1
    split at q2
    · have sb := hb.1 X c _ h q2
      have pw : PW X (.BoolOp .Or [x, y] pos) (TTv X.K (evB (evG G k (.or_ a b)))) := (pw_or sa.pt (pw_or1 sb.pt)).of fun σ H Q z => ttv_or _ _ z
      exact ⟨(pe_or sa.pe (pe_one sb.pe)).of fun σ H Q z => tev_or _ _ z, pw.pt, fun op es p z => by cases z; exact pw⟩
    · have sb := hb.1 X c _ h q2
      have pw : PW X (.BoolOp .Or (x :: y :: r) pos) (TTv X.K (evB (evG G k (.or_ a b)))) := (pw_or sa.pt (sb.pw _ _ _ rfl)).of fun σ H Q z => ttv_or _ _ z
      exact ⟨(pe_or sa.pe sb.pe).of fun σ H Q z => tev_or _ _ z, pw.pt, fun op es p z => by cases z; exact pw⟩
  · cases q
theorem ttv_ite {K : Frag} {σ : St} {H : Hp} {sig : SigF} {cf : CF} {ec ea eb : E} {Q : Bool → Hp → Prop} (h : TTv K (evB (ev sig cf (.ite ec ea eb))) σ H Q) : TTv K (evB (ev sig cf ec)) σ H fun t H1 => if t = true then TTv K (evB (ev sig cf ea)) σ H1 Q else TTv K (evB (ev sig cf eb)) σ H1 Q := by
  obtain ⟨s, Im, R, b, s', e, k⟩ := h
  have e := evB_is e
  rw [ev] at e
  simp only [Option.bind_eq_bind, Option.bind_eq_some_iff] at e
  obtain ⟨⟨w1, s1⟩, e1, b1, e2, e3⟩ := e
  refine ⟨s, Im, R, b1, s1, by unfold evB; simp [e1, e2], fun Im1 H1 R1 st1 => ?_⟩
  cases b1 with
  | true => exact ⟨s1, Im1, R1, b, s', by unfold evB; simp only [if_true] at e3; simp [e3, asB], fun Im2 H2 R2 st2 => k Im2 H2 R2 (st1.trans st2)⟩
  | false => exact ⟨s1, Im1, R1, b, s', by unfold evB; simp only [Bool.false_eq_true, if_false] at e3; simp [e3, asB], fun Im2 H2 R2 st2 => k Im2 H2 R2 (st1.trans st2)⟩
theorem good_ite (t a b : E) (ht : Good G k t) (ha : Good G k a) (hb : Good G k b) : Good G k (.ite t a b) := by
  refine ⟨fun X c e h q => ?_, no_es fun c es => by simp [ckEs]⟩
  unfold ckE at q
  split at q
  · rw [Bool.and_eq_true, Bool.and_eq_true] at q
    obtain ⟨⟨q1, q2⟩, q3⟩ := q
    have st := ht.1 X c _ h q1
    have sa := ha.1 X c _ h q2
    have sb := hb.1 X c _ h q3
    refine ⟨s_ite _ _ st.pt sa.pe sb.pe, ⟨fun pins s σ H Q I hw => ?_⟩, fun _ _ _ z => nomatch z⟩
    refine isTrue_IfExp (thn (st.pt.run pins s σ H _ I (ttv_ite hw)) fun d s1 ⟨H1, I1, q1⟩ => ?_)
    cases d with
    | true => exact sa.pt.run pins s1 σ H1 Q I1 q1
    | false => exact sb.pt.run pins s1 σ H1 Q I1 q1
  · cases q
theorem good_chain (f g : Op2) (a b t : E) (ha : Good G k a) (hb : Good G k b) (ht : Good G k t) : Good G k (.chain f g a b t) := by
  refine ⟨fun X c e h q => ?_, no_es fun c es => by simp [ckEs]⟩
  unfold ckE at q
  split at q
  · rw [Bool.and_eq_true, Bool.and_eq_true, Bool.and_eq_true, Bool.and_eq_true, Bool.and_eq_true] at q
    obtain ⟨⟨⟨⟨⟨q1, q2⟩, q3⟩, q4⟩, q5⟩, q6⟩ := q
    have o1 := cop_ok (room65 h) (of_decide_eq_true q1)
    have o2 := cop_ok (room65 h) (of_decide_eq_true q2)
    have hm := q3
    rw [Bool.not_eq_true'] at hm
    exact ⟨s_chain _ _ o1 o2 (ha.1 X c _ h q4).pe (hb.1 X c _ h q5).pe (ht.1 X c _ h q6).pe hm, t_chain _ _ o1 o2 (ha.1 X c _ h q4).pe (hb.1 X c _ h q5).pe (ht.1 X c _ h q6).pe hm, fun _ _ _ z => nomatch z⟩
  · cases q
theorem good_nil : Good G k .nil := by
  refine ⟨fun X c e h q => by simp [ckE] at q, fun X c es h q => ?_⟩
  cases es with
  | nil => exact ⟨s_nil _ _, s_argn _ _, rfl⟩
  | cons _ _ => simp [ckEs] at q
theorem good_cons (a b : E) (ha : Good G k a) (hb : Good G k b) : Good G k (.cons a b) := by
  refine ⟨fun X c e h q => by simp [ckE] at q, fun X c es h q => ?_⟩
  cases es with
  | nil => simp [ckEs] at q
  | cons x xs =>
    rw [ckEs, Bool.and_eq_true, Bool.and_eq_true] at q
    obtain ⟨⟨q1, q2⟩, q3⟩ := q
    obtain ⟨h1, h2, h3⟩ := hb.2 X c xs h q3
    have sa := ha.1 X c _ h q2
    exact ⟨s_cons _ _ sa.pe h1 (star_of q1), s_argc _ _ sa.pe h2 (star_of q1), by unfold allNS at h3 ⊢; rw [List.all_cons, q1, h3]; rfl⟩
theorem good_tup (es : E) (he : Good G k es) : Good G k (.tup es) := by
  refine ⟨fun X c e h q => ?_, no_es fun c es => by simp [ckEs]⟩
  unfold ckE at q
  split at q
  · rw [Bool.and_eq_true] at q
    exact .mk' (s_tup _ _ (he.2 X c _ h q.2).1 (of_decide_eq_true q.1)) (fun _ => rfl) (fun _ _ _ z => nomatch z)
  · cases q
theorem good_lst (es : E) (he : Good G k es) : Good G k (.lst es) := by
  refine ⟨fun X c e h q => ?_, no_es fun c es => by simp [ckEs]⟩
  unfold ckE at q
  split at q
  · rw [Bool.and_eq_true] at q
    exact .mk' (s_lst _ _ (he.2 X c _ h q.2).1 (of_decide_eq_true q.1)) (fun _ => rfl) (fun _ _ _ z => nomatch z)
  · cases q
end
end PV
namespace PV
open PySem PySem.Spec PyProof.Rows L2
section
variable {G : Gi} {k : Nat} {X : Cx} {c : Cfg}
theorem part_ok {E : E} {l : Option Expr} (hE : Good G k E) (h : Ctx G k X c) (q : (match l with
      | none => E.isNil
      | some y => !E.isNil && ckE G E c y) = true) : PO X l (TPv X.K (partE E.isNil (fun s => evG G k E s))) := by
  cases l with
  | none =>
    have q : E.isNil = true := q
    rw [q]
    exact s_part0
  | some y =>
    have q : (!E.isNil && ckE G E c y) = true := q
    rw [Bool.and_eq_true, Bool.not_eq_true'] at q
    rw [q.1]
    exact s_part (hE.1 X c _ h q.2).pe
theorem good_slice (a lo hi : E) (ha : Good G k a) (hl : Good G k lo) (hh : Good G k hi) : Good G k (.slice a lo hi) := by
  refine ⟨fun X c e h q => ?_, no_es fun c es => by simp [ckEs]⟩
  unfold ckE at q
  split at q
  · rw [Bool.and_eq_true, Bool.and_eq_true] at q
    obtain ⟨⟨q1, q2⟩, q3⟩ := q
    exact .mk' (s_slice _ _ (ha.1 X c _ h q1).pe (part_ok hl h q2) (part_ok hh h q3)) (fun _ => rfl) (fun _ _ _ z => nomatch z)
  · cases q
theorem good_isin1 (a : E) (t : Ty) (ha : Good G k a) : Good G k (.isin1 a t) := by
  refine ⟨fun X c e h q => ?_, no_es fun c es => by simp [ckEs]⟩
  unfold ckE at q
  split at q
  · rename_i x p y z p2 pos
    rw [Bool.and_eq_true, Bool.and_eq_true, Bool.and_eq_true] at q
    obtain ⟨⟨⟨q1, q2⟩, q3⟩, q4⟩ := q
    have b := h.bl q1
    have b2 := h.bl q2
    have e1 := b.eq
    have e2 := b2.eq
    subst e1 e2
    have hs : starEach [y, .Name (Str.ofString t.name) p2] X.env = (false, eval y X.env) :: starEach [.Name (Str.ofString t.name) p2] X.env := star_of q3
    have hz : PE X (.Name (Str.ofString t.name) p2) (tC (.ty t.name)) := pe_bltn b2.gl b2.mg (ty_boot t) rfl b2.nn b2.nd
    exact .mk' ((pe_callB call_isi b.gl b.mg PyProof.Rows.boot_isinstance (pa_cons (ha.1 X c _ h q4).pe (pa_cons hz pa_nil rfl) hs) b.nn b.nd hs rfl).of fun σ H Q z => tev_isin1 _ _ z) (fun _ => rfl) (fun _ _ _ z => nomatch z)
  · cases q
theorem good_isin2 (a : E) (t u : Ty) (ha : Good G k a) : Good G k (.isin2 a t u) := by
  refine ⟨fun X c e h q => ?_, no_es fun c es => by simp [ckEs]⟩
  unfold ckE at q
  split at q
  · rename_i x p y z p2 z' p3 kk p4 pos
    rw [Bool.and_eq_true, Bool.and_eq_true, Bool.and_eq_true, Bool.and_eq_true] at q
    obtain ⟨⟨⟨⟨q1, q2⟩, q2'⟩, q3⟩, q4⟩ := q
    have b := h.bl q1
    have b2 := h.bl q2
    have b3 := h.bl q2'
    have e1 := b.eq
    have e2 := b2.eq
    have e3 := b3.eq
    subst e1 e2 e3
    have hs : starEach [y, .Tuple [.Name (Str.ofString t.name) p2, .Name (Str.ofString u.name) p3] kk p4] X.env = (false, eval y X.env) :: starEach [.Tuple [.Name (Str.ofString t.name) p2, .Name (Str.ofString u.name) p3] kk p4] X.env := star_of q3
    have hz : PE X (.Name (Str.ofString t.name) p2) (tC (.ty t.name)) := pe_bltn b2.gl b2.mg (ty_boot t) rfl b2.nn b2.nd
    have hz' : PE X (.Name (Str.ofString u.name) p3) (tC (.ty u.name)) := pe_bltn b3.gl b3.mg (ty_boot u) rfl b3.nn b3.nd
    exact .mk' ((pe_callB call_isiT b.gl b.mg PyProof.Rows.boot_isinstance (pa_cons (ha.1 X c _ h q4).pe (pa_cons (pe_tup (pa_cons hz (pa_cons hz' pa_nil rfl) rfl)) pa_nil rfl) hs) b.nn b.nd hs rfl).of fun σ H Q z => tev_isin2 _ _ z) (fun _ => rfl) (fun _ _ _ z => nomatch z)
  · cases q
theorem rg_rp {K : Frag} {Im : Hp} (a b : Int) : RpAll K Im (rgV a b) (rangeD a (b - a).toNat) := by
  unfold rgV rangeD
  generalize List.range (b - a).toNat = l
  induction l with
  | nil => exact .nil
  | cons n l ih => exact .cons (.int _) ih
theorem okLen_rg {a b : Int} {z : Unit} (e : okLen (rangeD a (b - a).toNat) = some z) : (b - a).toNat ≤ 2 ^ 24 := by
  unfold okLen at e
  split at e
  · rename_i h
    rw [rangeD_length] at h
    exact h
  · cases e
theorem rngE {sig : SigF} {cf : CF} {K : Frag} {σ : St} {H : Hp} {q : RngK} {ea eb : E} {Q : VK} (h : TEv K (ev sig cf (.rng q .range1 ea eb)) σ H Q) : tRg1 (TEv K (ev sig cf ea)) σ H fun a b H1 => RgOk a b ∧ ∃ Im, Sub Im H1 ∧ Wants K Im H1 (rngW q (rangeD a (b - a).toNat)) Q := by
  obtain ⟨s, Im, R, w, s', e, k⟩ := h
  rw [ev] at e
  simp only [Option.bind_eq_bind, Option.bind_eq_some_iff, Option.pure_def] at e
  obtain ⟨⟨w1, s1⟩, e1, ⟨u, s2⟩, e2, r, e3, p, e4, xs, e5, _, e7, e6⟩ := e
  simp only [Option.some.injEq, Prod.mk.injEq] at e6
  obtain ⟨e6, e8⟩ := e6
  simp only [twoE, ItK.two, Bool.false_eq_true, if_false, Option.some.injEq, Prod.mk.injEq] at e2
  obtain ⟨rfl, rfl⟩ := e2
  obtain ⟨n, rfl, hb, rfl⟩ := walkL_range1 e5
  refine ⟨s, Im, R, w1, s1, e1, fun Im1 v H1 R1 st1 x1 => ?_⟩
  have e := (x1.rv R1 e3).int
  subst e
  refine ⟨n, rfl, ⟨by omega, by omega, by omega, by omega, by omega⟩, Im1, R1.sub, fun Im3 z H3 g res => ?_⟩
  subst e6 e8
  rw [Int.sub_zero] at res
  exact k Im3 z H3 (R1.grow g) (st1.grow g) ((res.wr R1).before st1)
theorem rngE2 {sig : SigF} {cf : CF} {K : Frag} {σ : St} {H : Hp} {q : RngK} {ea eb : E} {Q : VK} (h : TEv K (ev sig cf (.rng q .range2 ea eb)) σ H Q) : tRg2 (TEv K (ev sig cf ea)) (TEv K (ev sig cf eb)) σ H fun a b H1 => RgOk a b ∧ ∃ Im, Sub Im H1 ∧ Wants K Im H1 (rngW q (rangeD a (b - a).toNat)) Q := by
  obtain ⟨s, Im, R, w, s', e, k⟩ := h
  rw [ev] at e
  simp only [Option.bind_eq_bind, Option.bind_eq_some_iff, Option.pure_def] at e
  obtain ⟨⟨w1, s1⟩, e1, ⟨u, s2⟩, e2, r, e3, p, e4, xs, e5, _, e7, e6⟩ := e
  simp only [Option.some.injEq, Prod.mk.injEq] at e6
  obtain ⟨e6, e8⟩ := e6
  simp only [twoE, ItK.two, if_true] at e2
  obtain ⟨a, b, rfl, rfl, hb, rfl⟩ := walkL_range2 e5
  refine ⟨s, Im, R, w1, s1, e1, fun Im1 v H1 R1 st1 x1 => ⟨s1, Im1, R1, u, s2, e2, fun Im2 v2 H2 R2 st2 x2 => ?_⟩⟩
  have ev1 := ((x1.later st2).rv R2 e3).int
  have ev2 := (x2.rv R2 e4).int
  subst ev1 ev2
  have st12 := st1.trans st2
  refine ⟨a, b, rfl, rfl, ⟨by omega, by omega, by omega, by omega, okLen_rg e7⟩, Im2, R2.sub, fun Im3 z H3 g res => ?_⟩
  subst e6 e8
  exact k Im3 z H3 (R2.grow g) (st12.grow g) ((res.wr R2).before st12)
theorem rd_rp {K : Frag} {Im : Hp} (a b : Int) : RpAll K Im (rdV a b) (rangeDown a (a - b).toNat) := by
  unfold rdV rangeDown
  generalize List.range (a - b).toNat = l
  induction l with
  | nil => exact .nil
  | cons n l ih => exact .cons (.int _) ih
theorem okLen_rd {a b : Int} {z : Unit} (e : okLen (rangeDown a (a - b).toNat) = some z) : (a - b).toNat ≤ 2 ^ 24 := by
  unfold okLen at e
  split at e
  · rename_i h
    rw [rangeDown_length] at h
    exact h
  · cases e
theorem rngE3 {sig : SigF} {cf : CF} {K : Frag} {σ : St} {H : Hp} {q : RngK} {ea eb : E} {Q : VK} (h : TEv K (ev sig cf (.rng q .range3 ea eb)) σ H Q) : tRd3 (TEv K (ev sig cf ea)) (TEv K (ev sig cf eb)) (tUn (rU fun i => .int (-i)) (tC (.int 1))) σ H fun a b H1 => RdOk a b ∧ ∃ Im, Sub Im H1 ∧ Wants K Im H1 (rngW q (rangeDown a (a - b).toNat)) Q := by
  obtain ⟨s, Im, R, w, s', e, k⟩ := h
  rw [ev] at e
  simp only [Option.bind_eq_bind, Option.bind_eq_some_iff, Option.pure_def] at e
  obtain ⟨⟨w1, s1⟩, e1, ⟨u, s2⟩, e2, r, e3, p, e4, xs, e5, _, e7, e6⟩ := e
  simp only [Option.some.injEq, Prod.mk.injEq] at e6
  obtain ⟨e6, e8⟩ := e6
  simp only [twoE, ItK.two, if_true] at e2
  obtain ⟨a, b, rfl, rfl, hb, rfl⟩ := walkL_range3 e5
  refine ⟨s, Im, R, w1, s1, e1, fun Im1 v H1 R1 st1 x1 => ⟨s1, Im1, R1, u, s2, e2, fun Im2 v2 H2 R2 st2 x2 => ?_⟩⟩
  have ev1 := ((x1.later st2).rv R2 e3).int
  have ev2 := (x2.rv R2 e4).int
  subst ev1 ev2
  have st12 := st1.trans st2
  refine ⟨1, rfl, a, b, rfl, rfl, rfl, ⟨by omega, by omega, by omega, by omega, okLen_rd e7⟩, Im2, R2.sub, fun Im3 z H3 g res => ?_⟩
  subst e6 e8
  exact k Im3 z H3 (R2.grow g) (st12.grow g) ((res.wr R2).before st12)
theorem good_rng (q : RngK) (kk : ItK) (a b : E) (ha : Good G k a) (hb : Good G k b) : Good G k (.rng q kk a b) := by
  refine ⟨fun X c e h w => ?_, no_es fun c es => by simp [ckEs]⟩
  unfold ckE at w
  split at w
  · rename_i x p y p2 zs p3 pos
    rw [Bool.and_eq_true, Bool.and_eq_true] at w
    obtain ⟨⟨w1, w2⟩, w3⟩ := w
    have b2 := h.bl w2
    have e2 := b2.eq
    subst e2
    have fin : ∀ {te : St → Hp → (Int → Int → Hp → Prop) → Prop}, PRg X (.Call (.Name (Str.ofString "range") p2) zs [] p3) te → (∀ σ H Q, TEv X.K (evG G k (.rng q kk a b)) σ H Q → te σ H fun a b H1 => RgOk a b ∧ ∃ Im, Sub Im H1 ∧ Wants X.K Im H1 (rngW q (rangeD a (b - a).toNat)) Q) → (∀ σ H Q Q', (∀ a b H1, Q a b H1 → Q' a b H1) → te σ H Q → te σ H Q') → PE X (.Call (.Name x p) [.Call (.Name (Str.ofString "range") p2) zs [] p3] [] pos) (TEv X.K (evG G k (.rng q kk a b))) := fun {te} hr hte mono => by
      cases q with
      | list_ =>
        have bb := h.bl w1
        have e1 := bb.eq
        subst e1
        refine (pe_listRg h.calm bb.gl bb.mg hr).of fun σ H Q z => mono σ H _ _ (fun a b H1 ⟨h1, Im, hS, wt⟩ => ⟨h1, wt.lst hS (rg_rp a b)⟩) (hte σ H Q z)
      | tuple_ =>
        have bb := h.bl w1
        have e1 := bb.eq
        subst e1
        refine (pe_tupRgF h.calm bb.gl bb.mg hr).of fun σ H Q z => mono σ H _ _ (fun a b H1 ⟨h1, Im, hS, wt⟩ => ⟨h1, wt.tup hS (rg_rp a b)⟩) (hte σ H Q z)
    have tmono : ∀ {K : Frag} {f : Sg → Option (W × Sg)} {σ : St} {H : Hp} {Q Q' : VK}, (∀ v H1, Q v H1 → Q' v H1) → TEv K f σ H Q → TEv K f σ H Q' := fun g ⟨s, Im, R, w, s', e, k⟩ => ⟨s, Im, R, w, s', e, fun Im' v H' R' st x => g _ _ (k Im' v H' R' st x)⟩
    refine .mk' ?_ (fun _ => rfl) (fun _ _ _ z => nomatch z)
    split at w3
    · rename_i z
      rw [Bool.and_eq_true] at w3
      have hs : starEach [z] X.env = (false, eval z X.env) :: starEach [] X.env := star_of w3.1
      exact fin (prg_1 b2.gl b2.mg (ha.1 X c _ h w3.2).pe hs) (fun σ H Q z => rngE z) fun σ H Q Q' g z => tmono (fun v H1 ⟨n, e, q⟩ => ⟨n, e, g _ _ _ q⟩) z
    · rename_i z z'
      rw [Bool.and_eq_true, Bool.and_eq_true, Bool.and_eq_true] at w3
      obtain ⟨⟨⟨w4, w5⟩, w6⟩, w7⟩ := w3
      have hs1 : starEach [z'] X.env = (false, eval z' X.env) :: starEach [] X.env := star_of w5
      have hs : starEach [z, z'] X.env = (false, eval z X.env) :: starEach [z'] X.env := star_of w4
      exact fin (prg_2 b2.gl b2.mg (ha.1 X c _ h w6).pe (hb.1 X c _ h w7).pe hs hs1 (plain_of (by unfold allNS; simp [w5]))) (fun σ H Q z => rngE2 z) fun σ H Q Q' g z => tmono (fun v H1 z => tmono (fun v2 H2 ⟨i, j, e1, e2, q⟩ => ⟨i, j, e1, e2, g _ _ _ q⟩) z) z
    · rename_i z z' n j p4 p5
      rw [Bool.and_eq_true, Bool.and_eq_true, Bool.and_eq_true, Bool.and_eq_true, Bool.and_eq_true] at w3
      obtain ⟨⟨⟨⟨⟨w3, w4⟩, w5⟩, w6⟩, w7⟩, w8⟩ := w3
      cases q with
      | list_ => cases w3
      | tuple_ =>
        have e3 := of_decide_eq_true w4
        subst e3
        have bb := h.bl w1
        have e1 := bb.eq
        subst e1
        have hu : PE X (.UnaryOp .USub (.Constant (.int 1) j p4) p5) (tUn (rU fun i => .int (-i)) (tC (.int 1))) := pe_un un_neg pe_int
        have hs2 : starEach [z', .UnaryOp .USub (.Constant (.int 1) j p4) p5] X.env = (false, eval z' X.env) :: starEach [.UnaryOp .USub (.Constant (.int 1) j p4) p5] X.env := star_of w6
        have hs : starEach [z, z', .UnaryOp .USub (.Constant (.int 1) j p4) p5] X.env = (false, eval z X.env) :: starEach [z', .UnaryOp .USub (.Constant (.int 1) j p4) p5] X.env := star_of w5
        have hr := prd_3 (p := p2) (pos := p3) b2.gl b2.mg (ha.1 X c _ h w7).pe (hb.1 X c _ h w8).pe hu hs hs2 rfl (plain_of (by show (notStar z' && (true && true)) = true; rw [w6]; rfl)) rfl
        refine (pe_tupRdF h.calm bb.gl bb.mg hr).of fun σ H Q z => ?_
        have z := rngE3 z
        have tmono3 : ∀ {σ : St} {H : Hp} {ta tb tc : TE} {Q Q' : Int → Int → Hp → Prop}, (∀ {σ H} {Q Q' : VK}, (∀ v H1, Q v H1 → Q' v H1) → ta σ H Q → ta σ H Q') → (∀ {σ H} {Q Q' : VK}, (∀ v H1, Q v H1 → Q' v H1) → tb σ H Q → tb σ H Q') → (∀ {σ H} {Q Q' : VK}, (∀ v H1, Q v H1 → Q' v H1) → tc σ H Q → tc σ H Q') → (∀ a b H1, Q a b H1 → Q' a b H1) → tRd3 ta tb tc σ H Q → tRd3 ta tb tc σ H Q' :=
          fun m1 m2 m3 g z => m1 (fun _ _ z => m2 (fun _ _ z => m3 (fun _ _ ⟨i, j, a1, a2, a3, q⟩ => ⟨i, j, a1, a2, a3, g _ _ _ q⟩) z) z) z
        exact tmono3 (fun g z => tmono g z) (fun g z => tmono g z) (fun g ⟨i, e, q⟩ => ⟨i, e, g _ _ q⟩) (fun a b H1 ⟨h1, Im, hS, wt⟩ => ⟨h1, wt.tup hS (rd_rp a b)⟩) z
    · cases w3
  · cases w
theorem good_call (f : String) (args : E) (ha : Good G k args) : Good G k (.call f args) := by
  refine ⟨fun X c e h q => ?_, no_es fun c es => by simp [ckEs]⟩
  unfold ckE at q
  split at q
  · rename_i x p xs pos
    rw [Bool.and_eq_true, Bool.and_eq_true, Bool.and_eq_true, Bool.and_eq_true] at q
    obtain ⟨⟨⟨⟨q1, q2⟩, q3⟩, q4⟩, q5⟩ := q
    have ex := of_decide_eq_true q1
    subst ex
    obtain ⟨_, h2, h3⟩ := ha.2 X c xs h q5
    cases hP : G.P f with
    | none => rw [hP] at q4; cases q4
    | some d =>
      obtain ⟨fa, fd, ps, F, hm, hk, hb⟩ := h.fns f d hP
      have hsig : sigG G f = some d.refs := by show (G.P f).map (·.refs) = _; rw [hP]; rfl
      refine .mk' ?_ (fun _ => rfl) (fun _ _ _ z => nomatch z)
      cases xs with
      | nil =>
        have h2' : ∀ σ H Q, TAw X.K (evs (sigG G) (callN G.P k) args) σ H Q → tNil σ H Q := fun σ H Q z => by
          cases args with
          | nil => exact taw_nil _ _ z
          | cons _ _ => simp [ckEs] at q5
          | _ => simp [ckEs] at q5
        exact (pe_call0 (E := E0) F h.room (h.gl q2) hm hk hb .nil pass0 (okN_d q3).1).of fun σ H Q z => h2' σ H _ (tev_call _ _ hsig z)
      | cons y ys =>
        unfold allNS at h3
        rw [List.all_cons, Bool.and_eq_true] at h3
        exact (pe_call (E := E0) F h.room (h.gl q2) hm hk hb .nil pass0 h2 (okN_d q3).1 (star_of h3.1) (plain_of h3.2)).of fun σ H Q z => tev_call _ _ hsig z
  · cases q
theorem good_pop (i : Nat) : Good G k (.pop i) := by
  refine ⟨fun X c e h q => ?_, no_es fun c es => by simp [ckEs]⟩
  unfold ckE at q
  split at q
  · rename_i x p n ap cp
    rw [Bool.and_eq_true, Bool.and_eq_true, Bool.and_eq_true, Bool.and_eq_true] at q
    obtain ⟨⟨⟨⟨q1, q2⟩, q3⟩, q4⟩, q5⟩ := q
    have en := of_decide_eq_true q4
    subst en
    have o := okN_d q3
    have pv : PE X (.Name x p) (tVar i) := pe_var (nmAt_is h q1) (h.vis q2) o.1 o.2.1
    exact .mk' ((pe_bm0 PySem.F.plainAttrs_list PySem.F.slot_list_pop PySem.F.type_list_pop mt_pop pv rfl q5).of fun σ H Q z => tev_pop _ _ z) (fun _ => rfl) (fun _ _ _ z => nomatch z)
  · cases q
theorem own_slots {c : Cfg} {t : Tgt} : (ownOf c t).map (·.2) = t.slots := by
  unfold ownOf
  rw [List.map_map]
  exact List.map_id' _
theorem tif_nil {sig : SigF} {cf : CF} {K : Frag} {d : E} {σ : St} {H : Hp} {Q : Bool → Hp → Prop} (hd : d.isNil = true) (h : TTv K (evIf sig cf d) σ H Q) : tYes σ H Q := by
  obtain ⟨s, Im, R, b, s', e, k⟩ := h
  unfold evIf testE at e
  rw [hd] at e
  cases e
  exact k Im H R .refl
theorem tif_one {sig : SigF} {cf : CF} {d : E} (hd : d.isNil = false) : evIf sig cf d = evB (ev sig cf d) := by
  funext s
  unfold evIf testE
  rw [hd]
  rfl
theorem _root_.L2.PTs.of {es : List Expr} {t t' : TT} (h : PTs X es t) (g : ∀ σ H Q, t' σ H Q → t σ H Q) : PTs X es t' := ⟨fun pins s σ H Q I q => h.run pins s σ H Q I (g σ H Q q)⟩
theorem good_comp (elt : E) (t : Tgt) (kk : ItK) (a b d : E) (he : Good G k elt) (ha : Good G k a) (hb : Good G k b) (hd : Good G k d) : Good G k (.comp elt t kk a b d) := by
  refine ⟨fun X c e h q => ?_, no_es fun c es => by simp [ckEs]⟩
  unfold ckE at q
  split at q
  · rename_i x tg it ifs ia scope pos
    rw [Bool.and_eq_true, Bool.and_eq_true, Bool.and_eq_true, Bool.and_eq_true, Bool.and_eq_true, Bool.and_eq_true] at q
    obtain ⟨⟨⟨⟨⟨⟨q1, q2⟩, q3⟩, q4⟩, q5⟩, q6⟩, q7⟩ := q
    have e1 := of_decide_eq_true q1
    subst e1
    have hit : PI X tg it (TIt X.K kk (evG G k a) (evG G k b)) := by
      split at q7
      · exact s_itval _ _ (ha.1 X c _ h q7).pe
      · split at q7
        · rename_i y p z pos'
          rw [Bool.and_eq_true, Bool.and_eq_true] at q7
          have bb := h.bl q7.1.1
          have ex := bb.eq
          subst ex
          have hs : starEach [z] X.env = [(false, eval z X.env)] := star_of q7.1.2
          exact (pi_range1 bb.gl bb.mg (pa_cons (ha.1 X c _ h q7.2).pe pa_nil hs) hs).of fun σ H R z => tit_range1 z
        · cases q7
      · split at q7
        · rename_i y p z z' pos'
          rw [Bool.and_eq_true, Bool.and_eq_true, Bool.and_eq_true, Bool.and_eq_true] at q7
          obtain ⟨⟨⟨⟨r1, r2⟩, r3⟩, r4⟩, r5⟩ := q7
          have bb := h.bl r1
          have ex := bb.eq
          subst ex
          have hs2 : starEach [z'] X.env = [(false, eval z' X.env)] := star_of r3
          have hs : starEach [z, z'] X.env = [(false, eval z X.env), (false, eval z' X.env)] := by rw [star_of r2, hs2]
          exact (pi_range2 bb.gl bb.mg (pa_cons (ha.1 X c _ h r4).pe (pa_cons (hb.1 X c _ h r5).pe pa_nil hs2) (by rw [hs, hs2])) hs hs2).of fun σ H R z => tit_range2 z
        · cases q7
      · split at q7
        · rename_i y p z z' n j p4 pos'
          rw [Bool.and_eq_true, Bool.and_eq_true, Bool.and_eq_true, Bool.and_eq_true, Bool.and_eq_true] at q7
          obtain ⟨⟨⟨⟨⟨r1, r0⟩, r2⟩, r3⟩, r4⟩, r5⟩ := q7
          have bb := h.bl r1
          have ex := bb.eq
          subst ex
          have e1 := of_decide_eq_true r0
          subst e1
          have hu : PE X (.Constant (.int 2) j p4) (tC (.int 2)) := pe_int
          have hs2 : starEach [z', .Constant (.int 2) j p4] X.env = (false, eval z' X.env) :: starEach [.Constant (.int 2) j p4] X.env := star_of r3
          have hs : starEach [z, z', .Constant (.int 2) j p4] X.env = (false, eval z X.env) :: starEach [z', .Constant (.int 2) j p4] X.env := star_of r2
          exact (pi_range3 bb.gl bb.mg (pa_cons (ha.1 X c _ h r4).pe (pa_cons (hb.1 X c _ h r5).pe (pa_cons hu pa_nil rfl) hs2) hs) hs (plain_of (by show (notStar z' && (true && true)) = true; rw [r3]; rfl))).of fun σ H R z => tit_range4 z
        · cases q7
      · split at q7
        · rename_i y p z pos' tse tk tp
          rw [Bool.and_eq_true, Bool.and_eq_true] at q7
          have bb := h.bl q7.1.1
          have ex := bb.eq
          subst ex
          have hs : starEach [z] X.env = [(false, eval z X.env)] := star_of q7.1.2
          have pa := pa_cons (ha.1 X c _ h q7.2).pe pa_nil hs
          exact (pi_or (pi_enumK true bb.gl bb.mg pa hs) (pi_enumK false bb.gl bb.mg pa hs)).of fun σ H R z => tit_enum z
        · cases q7
      · split at q7
        · rename_i y p z z' pos' tse tk tp
          rw [Bool.and_eq_true, Bool.and_eq_true, Bool.and_eq_true, Bool.and_eq_true] at q7
          obtain ⟨⟨⟨⟨r1, r2⟩, r3⟩, r4⟩, r5⟩ := q7
          have bb := h.bl r1
          have ex := bb.eq
          subst ex
          have hs2 : starEach [z'] X.env = (false, eval z' X.env) :: starEach [] X.env := star_of r3
          have hs : starEach [z, z'] X.env = (false, eval z X.env) :: starEach [z'] X.env := star_of r2
          have pz := pa_cons (ha.1 X c _ h r4).pe (pa_cons (hb.1 X c _ h r5).pe pa_nil hs2) hs
          have hpl : (backTo pos' (starEach [z'] X.env)).any (·.1) = false := plain_of (by unfold allNS; simp [r3])
          exact (pi_or (pi_or (pi_zipX true true bb.gl bb.mg pz hs hpl) (pi_zipX true false bb.gl bb.mg pz hs hpl)) (pi_or (pi_zipX false true bb.gl bb.mg pz hs hpl) (pi_zipX false false bb.gl bb.mg pz hs hpl))).of fun σ H R z => tit_zip z
        · cases q7
      · split at q7
        · rename_i y n ap cp
          rw [Bool.and_eq_true, Bool.and_eq_true, Bool.and_eq_true] at q7
          obtain ⟨⟨⟨r1, r2⟩, r3⟩, r4⟩ := q7
          have en := of_decide_eq_true r1
          subst en
          exact (pi_keysD (ha.1 X c _ h r4).pe (base_ok r2) r3).of fun σ H R z => tit_keys z
        · exact (pi_dictD (ha.1 X c _ h q7).pe).of fun σ H R z => tit_keys z
      · split at q7
        · rename_i y n ap cp
          rw [Bool.and_eq_true, Bool.and_eq_true, Bool.and_eq_true] at q7
          obtain ⟨⟨⟨r1, r2⟩, r3⟩, r4⟩ := q7
          have en := of_decide_eq_true r1
          subst en
          exact (pi_valuesD (ha.1 X c _ h r4).pe (base_ok r2) r3).of fun σ H R z => tit_values z
        · cases q7
      · cases q7
    have ok : BlkOk X.N X.env.scope scope (ownOf c t) := by
      rw [h.N, h.sc]
      exact blkOk_by q3
    refine .mk' ?_ (fun _ => rfl) (fun _ _ _ z => nomatch z)
    have core := pe_lc (X := X) (pos := pos) (elt := x) (ifs := ifs) (g := TGt X.K t) (tt := TTv X.K (evIf (sigG G) (callN G.P k) d)) (te := TEv X.K (evG G k elt)) h.calm (by rw [h.N]; exact h.nd) hit ok
      (fun s H C cl fp => ckT_ok (h.blk (s := s) (H := H) (cl := cl) (C := C) (fp := fp)) t q4)
      (fun s H C cl fp => by
        split at q5
        · exact pts_nil.of fun σ H Q z => tif_nil q5 z
        · rw [Bool.and_eq_true, Bool.not_eq_true'] at q5
          rw [tif_one q5.1]
          exact pts_one (hd.1 _ _ _ (h.blk (s := s) (H := H) (cl := cl) (C := C) (fp := fp)) q5.2).pt
        · cases q5)
      (fun s H C cl fp => (he.1 _ _ _ (h.blk (s := s) (H := H) (cl := cl) (C := C) (fp := fp)) q6).pe)
      (fun y => by cases it <;> first | rfl | cases q2)
    rw [own_slots] at core
    exact core.of fun σ H Q z => tev_comp _ _ z
  · cases q
theorem good_all (G : Gi) (k : Nat) : ∀ E : E, Good G k E := by
  intro E
  induction E with
  | nil => exact good_nil
  | cons a b ha hb => exact good_cons a b ha hb
  | var i => exact good_var i
  | con d => exact good_con d
  | glob x d => exact good_glob x d
  | op1 f a ha => exact good_op1 f a ha
  | op2 f a b ha hb => exact good_op2 f a b ha hb
  | and_ a b ha hb => exact good_and a b ha hb
  | or_ a b ha hb => exact good_or a b ha hb
  | ite t a b ht ha hb => exact good_ite t a b ht ha hb
  | chain f g a b c ha hb hc => exact good_chain f g a b c ha hb hc
  | tup es he => exact good_tup es he
  | lst es he => exact good_lst es he
  | slice a lo hi ha hl hh => exact good_slice a lo hi ha hl hh
  | isin1 a t ha => exact good_isin1 a t ha
  | isin2 a t u ha => exact good_isin2 a t u ha
  | rng q kk a b ha hb => exact good_rng q kk a b ha hb
  | call f args ha => exact good_call f args ha
  | comp elt t kk a b d he ha hb hd => exact good_comp elt t kk a b d he ha hb hd
  | pop i => exact good_pop i
  | meth f a b ha hb => exact good_meth f a b ha hb
  | dict0 => exact good_dict0
  | dict1 a b ha hb => exact good_dict1 a b ha hb
  | get d a b hd ha hb => exact good_get d a b hd ha hb
end
end PV
namespace PV
open PySem PySem.Spec PyProof.Rows L2
def isLC : Expr → Bool
  | .ListComp .. => true
  | .SetComp .. => true
  | .DictComp .. => true
  | _ => false
def isTup : Expr → Bool
  | .Tuple .. => true
  | _ => false
def iopOf : Op2 → Option Operator
  | .add => some .Add
  | .sub => some .Sub
  | .mul => some .Mult
  | _ => none
def isStr : Expr → Bool
  | .Starred .. => true
  | _ => false
def swNames (sc : Scope) (ts : List Expr) : List Str := ts.filterMap fun
  | .Name id pos => if sc.names.lookup id == some .local && pos.line == (ts.head?.map (·.pos.line)).getD 0 then some id else none
  | _ => none
def swP (sc : Scope) (ts vs : List Expr) : Option (Option (List Str)) :=
  if (!(ts.length == 2 || ts.length == 3) || vs.length != ts.length) = true then some none else
  if (vs.any isStr) = true then some none else
  if ((swNames sc ts).length != ts.length || (swNames sc ts).eraseDups.length != (swNames sc ts).length) = true then some none else
  if (vs.all (foldedForSure 8)) = true then some none else
  if (vs.all (constantsAlone 8)) = true then none else some (some (swNames sc ts))
def ckNs (c : Cfg) : List Nat → List Expr → Bool
  | [], [] => true
  | i :: is, .Name x _ :: es => nmAt c i x && wrt c x && ckNs c is es
  | _, _ => false
def ckM1 (G : Gi) (c : Cfg) (i : Nat) (k : E) (e : Expr) : Bool := match e with
  | .Name x _ => k.isNil && nmAt c i x && wrt c x
  | .Subscript (.Name x _) y _ => !k.isNil && nmAt c i x && isVis c.sc x && okN x && notSlice y && ckE G k c y
  | _ => false
def ckMix (G : Gi) (c : Cfg) : List (Nat × E) → List Expr → Bool
  | [], [] => true
  | t :: ts, e :: es => ckM1 G c t.1 t.2 e && ckMix G c ts es
  | _, _ => false
def lcl (c : Cfg) (x : Str) : Bool := decide (c.sc.names.lookup x = some .local)
def ckIS (G : Gi) (kk : ItK) (a b : E) (c : Cfg) (tg it : Expr) : Bool := match kk with
  | .val => ckE G a c it
  | .range1 => (match it with
    | .Call (.Name y _) [z] [] _ => bltOk G c y "range" && notStar z && ckE G a c z
    | _ => false)
  | .range2 => (match it with
    | .Call (.Name y _) [z, z'] [] _ => bltOk G c y "range" && notStar z && notStar z' && ckE G a c z && ckE G b c z'
    | _ => false)
  | .range3 => (match it with
    | .Call (.Name y _) [z, z', .UnaryOp .USub (.Constant (.int q) _ _) _] [] _ => bltOk G c y "range" && decide (q = 1) && notStar z && notStar z' && ckE G a c z && ckE G b c z'
    | _ => false)
  | .range4 => (match it with
    | .Call (.Name y _) [z, z', .Constant (.int n) _ _] [] _ => bltOk G c y "range" && decide (n = 2) && notStar z && notStar z' && ckE G a c z && ckE G b c z'
    | _ => false)
  | .enum => (match it, tg with
    | .Call (.Name y _) [z] [] _, .Tuple _ _ _ => bltOk G c y "enumerate" && notStar z && ckE G a c z
    | _, _ => false)
  | .zip => (match it, tg with
    | .Call (.Name y _) [z, z'] [] _, .Tuple _ _ _ => bltOk G c y "zip" && notStar z && notStar z' && ckE G a c z && ckE G b c z'
    | _, _ => false)
  | .keys => (match it with
    | .Call (.Attribute y n ap) [] [] cp => decide (n = ("keys" : Str)) && notCall y && (ap.endLine == cp.line) && ckE G a c y
    | it' => ckE G a c it')
  | .values => (match it with
    | .Call (.Attribute y n ap) [] [] cp => decide (n = ("values" : Str)) && notCall y && (ap.endLine == cp.line) && ckE G a c y
    | _ => false)
def lcOk (c : Cfg) (x : Str) (p : Pos) (v : Expr) : Bool := match v with
  | .ListComp _ gs scope vp => decide (gs.length = 1) && (decide (c.sc.kind = .function) && ((lcl c x && (p.line == vp.line) && !(scope.names.any fun (n, k) => n == x && (k == .local || k == .cell))) || !lcl c x))
  | _ => false
def tupOk (c : Cfg) (is : List Nat) (ts vs : List Expr) : Bool := match swP c.sc ts vs with
  | some none => true
  | some (some _) => (match is, ts with
    | [i, j], [.Name x _, .Name y _] => decide (i ≠ j) && lcl c x && lcl c y && decide (swP c.sc ts vs = some (some [x, y]))
    | [i, j, l], [.Name x _, .Name y _, .Name z _] => decide (i ≠ j) && decide (i ≠ l) && decide (j ≠ l) && lcl c x && lcl c y && lcl c z && decide (swP c.sc ts vs = some (some [x, y, z]))
    | _, _ => false)
  | none => false
def ckB (G : Gi) : S → Cfg → List Stmt → Bool
  | .skip, _, st => match st with
    | [] => true
    | [.Pass _] => true
    | _ => false
  | .seq a b, c, st => match st with
    | x :: y :: r => ckB G a c [x] && ckB G b c (y :: r)
    | _ => false
  | .ifs t a b, c, st => match st with
    | [.If x y z _] => !t.isNil && ckE G t c x && ckB G a c y && ckB G b c z
    | _ => false
  | .whl t a, c, st => match st with
    | [.While x y [] _] => !t.isNil && ckE G t c x && ckB G a c y
    | _ => false
  | .for_ t kk a b body, c, st => match st with
    | [.For tg it y [] _] => ckT t c tg && ckIS G kk a b c tg it && notSet it && ckB G body c y
    | _ => false
  | .set i e, c, st => match st with
    | [.Assign [.Name x p] v _] => nmAt c i x && wrt c x && ckE G e c v && (!isLC v || lcOk c x p v)
    | _ => false
  | .setTup is es, c, st => match st with
    | [.Assign [.Tuple ts _ _] (.Tuple vs _ _) _] => decide (c.sc.kind = .function) && ckNs c is ts && decide (lenE es ≤ 1000) && ckEs G es c vs && decide (vs.length = is.length) && tupOk c is ts vs
    | _ => false
  | .setMix ts es, c, st => match st with
    | [.Assign [.Tuple tg _ _] (.Tuple vs _ _) _] => decide (c.sc.kind = .function) && ckMix G c ts tg && decide (lenE es ≤ 1000) && ckEs G es c vs && decide (vs.length = ts.length) && decide (swP c.sc tg vs = some none)
    | _ => false
  | .unpack t e, c, st => match st with
    | [.Assign [.Tuple ts kk p] v _] => ckT t c (.Tuple ts kk p) && !isLC v && !isTup v && ckE G e c v
    | _ => false
  | .setIx i ek e, c, st => match st with
    | [.Assign [.Subscript (.Name x _) y _] v _] => nmAt c i x && isVis c.sc x && okN x && notSlice y && !isLC v && ckE G ek c y && ckE G e c v
    | _ => false
  | .aug i f e, c, st => match st with
    | [.AugAssign (.Name x _) op v _] => nmAt c i x && wrt c x && decide (iopOf f = some op) && ckE G e c v
    | _ => false
  | .augIx i ek f e, c, st => match st with
    | [.AugAssign (.Subscript (.Name x _) y _) op v _] => nmAt c i x && isVis c.sc x && okN x && notSlice y && decide (iopOf f = some op) && ckE G ek c y && ckE G e c v
    | _ => false
  | .app i e, c, st => match st with
    | [.Expr (.Call (.Attribute (.Name x _) n ap) [y] [] cp) _] => nmAt c i x && isVis c.sc x && okN x && decide (n = ("append" : Str)) && (ap.endLine == cp.line) && notStar y && ckE G e c y
    | _ => false
  | .drop e, c, st => match st with
    | [.Expr v _] => !isLC v && ckE G e c v
    | _ => false
  | .ret e, c, st => match st with
    | [.Return (some v) _] => ckE G e c v
    | [.Return none _] => (match e with
      | .con .none => true
      | _ => false)
    | _ => false
  | .brk, _, st => match st with
    | [.Break _] => true
    | _ => false
  | .raise, _, _ => true
  | _, _, _ => false
section
variable {G : Gi} {k : Nat} {X : Cx} {c : Cfg}
abbrev exG (G : Gi) (k : Nat) : S → Sg → Option (Out × Sg) := ex (sigG G) (callN G.P k)
theorem blockKind_of {env : Env} (h : env.scope.kind = .function) : env.blockKind = .function := by unfold Env.blockKind; rw [h]; rfl
theorem isStr_eq : (fun e : Expr => match e with | .Starred .. => true | _ => false) = isStr := by
  funext e
  cases e <;> rfl
theorem swP_ok {env : Env} {ts vs : List Expr} {k1 k2 : Nat} {p1 p2 : Pos} {r : Option (List Str)} (hk : env.scope.kind = .function) (h : swP env.scope ts vs = some r) : swappedStores [.Tuple ts k1 p1] (.Tuple vs k2 p2) env = pure r := by
  have e : swappedStores [.Tuple ts k1 p1] (.Tuple vs k2 p2) env = (if (!(ts.length == 2 || ts.length == 3) || vs.length != ts.length || env.blockKind != .function) = true then pure none else
      if (vs.any isStr) = true then pure none else
      if ((swNames env.scope ts).length != ts.length || (swNames env.scope ts).eraseDups.length != (swNames env.scope ts).length) = true then pure none else
      if (vs.all (foldedForSure 8)) = true then pure none else
      if (vs.all (constantsAlone 8)) = true then unsupported "assign.tuple-of-constant-expressions:order-of-the-stores" else pure (some (swNames env.scope ts))) := by
    rw [← isStr_eq]
    rfl
  rw [e, blockKind_of hk]
  have e2 : (!(ts.length == 2 || ts.length == 3) || vs.length != ts.length || (ScopeKind.function != ScopeKind.function)) = (!(ts.length == 2 || ts.length == 3) || vs.length != ts.length) := by
    rw [show (ScopeKind.function != ScopeKind.function) = false from by decide, Bool.or_false]
  rw [e2]
  unfold swP at h
  by_cases h1 : (!(ts.length == 2 || ts.length == 3) || vs.length != ts.length) = true
  · rw [if_pos h1] at h ⊢; cases h; rfl
  · rw [if_neg h1] at h ⊢
    by_cases h2 : (vs.any isStr) = true
    · rw [if_pos h2] at h ⊢; cases h; rfl
    · rw [if_neg h2] at h ⊢
      by_cases h3 : ((swNames env.scope ts).length != ts.length || (swNames env.scope ts).eraseDups.length != (swNames env.scope ts).length) = true
      · rw [if_pos h3] at h ⊢; cases h; rfl
      · rw [if_neg h3] at h ⊢
        by_cases h4 : (vs.all (foldedForSure 8)) = true
        · rw [if_pos h4] at h ⊢; cases h; rfl
        · rw [if_neg h4] at h ⊢
          by_cases h5 : (vs.all (constantsAlone 8)) = true
          · rw [if_pos h5] at h; cases h
          · rw [if_neg h5] at h ⊢; cases h; rfl
theorem noLC {v : Expr} {t : Option Expr} {l : Nat} {env : Env} (h : isLC v = false) : swapsWith v t l env = pure false := by
  cases v <;> first | rfl | cases h
def gNs : List Nat → TGs
  | [] => gNil
  | i :: is => gCons (gName i) (gNs is)
theorem ckNs_ok (h : Ctx G k X c) : ∀ (is : List Nat) {ts : List Expr}, ckNs c is ts = true → PGs X ts (gNs is) ∧ ts.length = is.length ∧ (assignEach ts X.env).length = is.length ∧ (assignEach ts X.env).findIdx? (·.1) = none
  | [], [], _ => ⟨pgs_nil, rfl, rfl, rfl⟩
  | [], _ :: _, q => by simp [ckNs] at q
  | _ :: _, [], q => by simp [ckNs] at q
  | i :: is, e :: es, q => by
    cases e with
    | Name x p =>
      rw [ckNs, Bool.and_eq_true, Bool.and_eq_true] at q
      obtain ⟨h1, h2, h3, h4⟩ := ckNs_ok h is q.2
      obtain ⟨w1, w2⟩ := h.wr q.1.2
      refine ⟨pgs_cons (pg_name (by rw [h.N]; exact h.nd) (nmAt_is h q.1.1) w1 w2) h1, by rw [List.length_cons, List.length_cons, h2], by rw [assignEach_cons rfl, List.length_cons, List.length_cons, h3], ?_⟩
      rw [assignEach_cons rfl, List.findIdx?_cons]
      simp [h4]
    | _ => simp [ckNs] at q
theorem gNs_all : ∀ (is : List Nat) {vs : List V} {σ : St} {H : Hp} {Q : St → Hp → Prop}, vs.length = is.length → Q (setAll σ is vs) H → gNs is vs σ H Q
  | [], [], _, _, _, _, q => ⟨rfl, q⟩
  | [], _ :: _, _, _, _, h, _ => by simp at h
  | _ :: _, [], _, _, _, h, _ => by simp at h
  | i :: is, v :: vs, σ, H, Q, h, q => ⟨v, vs, rfl, gNs_all is (by simpa using h) q⟩
theorem iter_ok {kk : ItK} {a b : E} {tg it : Expr} (h : Ctx G k X c) (q7 : ckIS G kk a b c tg it = true) : PI X tg it (TIt X.K kk (evG G k a) (evG G k b)) := by
  have ha := good_all G k a
  have hb := good_all G k b
  unfold ckIS at q7
  split at q7
  · exact s_itval _ _ (ha.1 X c _ h q7).pe
  · split at q7
    · rename_i y p z pos'
      rw [Bool.and_eq_true, Bool.and_eq_true] at q7
      have bb := h.bl q7.1.1
      have ex := bb.eq
      subst ex
      have hs : starEach [z] X.env = [(false, eval z X.env)] := star_of q7.1.2
      exact (pi_range1 bb.gl bb.mg (pa_cons (ha.1 X c _ h q7.2).pe pa_nil hs) hs).of fun σ H R z => tit_range1 z
    · cases q7
  · split at q7
    · rename_i y p z z' pos'
      rw [Bool.and_eq_true, Bool.and_eq_true, Bool.and_eq_true, Bool.and_eq_true] at q7
      obtain ⟨⟨⟨⟨r1, r2⟩, r3⟩, r4⟩, r5⟩ := q7
      have bb := h.bl r1
      have ex := bb.eq
      subst ex
      have hs2 : starEach [z'] X.env = [(false, eval z' X.env)] := star_of r3
      have hs : starEach [z, z'] X.env = [(false, eval z X.env), (false, eval z' X.env)] := by rw [star_of r2, hs2]
      exact (pi_range2 bb.gl bb.mg (pa_cons (ha.1 X c _ h r4).pe (pa_cons (hb.1 X c _ h r5).pe pa_nil hs2) (by rw [hs, hs2])) hs hs2).of fun σ H R z => tit_range2 z
    · cases q7
  · split at q7
    · rename_i y p z z' q j p3 p4 pos'
      rw [Bool.and_eq_true, Bool.and_eq_true, Bool.and_eq_true, Bool.and_eq_true, Bool.and_eq_true] at q7
      obtain ⟨⟨⟨⟨⟨r1, r0⟩, r2⟩, r3⟩, r4⟩, r5⟩ := q7
      have bb := h.bl r1
      have ex := bb.eq
      subst ex
      have e1 := of_decide_eq_true r0
      subst e1
      have hu : PE X (.UnaryOp .USub (.Constant (.int 1) j p3) p4) (tUn (rU fun i => .int (-i)) (tC (.int 1))) := pe_un un_neg pe_int
      have hs2 : starEach [z', .UnaryOp .USub (.Constant (.int 1) j p3) p4] X.env = (false, eval z' X.env) :: starEach [.UnaryOp .USub (.Constant (.int 1) j p3) p4] X.env := star_of r3
      have hs : starEach [z, z', .UnaryOp .USub (.Constant (.int 1) j p3) p4] X.env = (false, eval z X.env) :: starEach [z', .UnaryOp .USub (.Constant (.int 1) j p3) p4] X.env := star_of r2
      exact (pi_range3 bb.gl bb.mg (pa_cons (ha.1 X c _ h r4).pe (pa_cons (hb.1 X c _ h r5).pe (pa_cons hu pa_nil rfl) hs2) hs) hs (plain_of (by show (notStar z' && (true && true)) = true; rw [r3]; rfl))).of fun σ H R z => tit_range3 z
    · cases q7
  · split at q7
    · rename_i y p z z' n j p4 pos'
      rw [Bool.and_eq_true, Bool.and_eq_true, Bool.and_eq_true, Bool.and_eq_true, Bool.and_eq_true] at q7
      obtain ⟨⟨⟨⟨⟨r1, r0⟩, r2⟩, r3⟩, r4⟩, r5⟩ := q7
      have bb := h.bl r1
      have ex := bb.eq
      subst ex
      have e1 := of_decide_eq_true r0
      subst e1
      have hu : PE X (.Constant (.int 2) j p4) (tC (.int 2)) := pe_int
      have hs2 : starEach [z', .Constant (.int 2) j p4] X.env = (false, eval z' X.env) :: starEach [.Constant (.int 2) j p4] X.env := star_of r3
      have hs : starEach [z, z', .Constant (.int 2) j p4] X.env = (false, eval z X.env) :: starEach [z', .Constant (.int 2) j p4] X.env := star_of r2
      exact (pi_range3 bb.gl bb.mg (pa_cons (ha.1 X c _ h r4).pe (pa_cons (hb.1 X c _ h r5).pe (pa_cons hu pa_nil rfl) hs2) hs) hs (plain_of (by show (notStar z' && (true && true)) = true; rw [r3]; rfl))).of fun σ H R z => tit_range4 z
    · cases q7
  · split at q7
    · rename_i y p z pos' tse tk tp
      rw [Bool.and_eq_true, Bool.and_eq_true] at q7
      have bb := h.bl q7.1.1
      have ex := bb.eq
      subst ex
      have hs : starEach [z] X.env = [(false, eval z X.env)] := star_of q7.1.2
      have pa := pa_cons (ha.1 X c _ h q7.2).pe pa_nil hs
      exact (pi_or (pi_enumK true bb.gl bb.mg pa hs) (pi_enumK false bb.gl bb.mg pa hs)).of fun σ H R z => tit_enum z
    · cases q7
  · split at q7
    · rename_i y p z z' pos' tse tk tp
      rw [Bool.and_eq_true, Bool.and_eq_true, Bool.and_eq_true, Bool.and_eq_true] at q7
      obtain ⟨⟨⟨⟨r1, r2⟩, r3⟩, r4⟩, r5⟩ := q7
      have bb := h.bl r1
      have ex := bb.eq
      subst ex
      have hs2 : starEach [z'] X.env = (false, eval z' X.env) :: starEach [] X.env := star_of r3
      have hs : starEach [z, z'] X.env = (false, eval z X.env) :: starEach [z'] X.env := star_of r2
      have pz := pa_cons (ha.1 X c _ h r4).pe (pa_cons (hb.1 X c _ h r5).pe pa_nil hs2) hs
      have hpl : (backTo pos' (starEach [z'] X.env)).any (·.1) = false := plain_of (by unfold allNS; simp [r3])
      exact (pi_or (pi_or (pi_zipX true true bb.gl bb.mg pz hs hpl) (pi_zipX true false bb.gl bb.mg pz hs hpl)) (pi_or (pi_zipX false true bb.gl bb.mg pz hs hpl) (pi_zipX false false bb.gl bb.mg pz hs hpl))).of fun σ H R z => tit_zip z
    · cases q7
  · split at q7
    · rename_i y n ap cp
      rw [Bool.and_eq_true, Bool.and_eq_true, Bool.and_eq_true] at q7
      obtain ⟨⟨⟨r1, r2⟩, r3⟩, r4⟩ := q7
      have en := of_decide_eq_true r1
      subst en
      exact (pi_keysD (ha.1 X c _ h r4).pe (base_ok r2) r3).of fun σ H R z => tit_keys z
    · exact (pi_dictD (ha.1 X c _ h q7).pe).of fun σ H R z => tit_keys z
  · split at q7
    · rename_i y n ap cp
      rw [Bool.and_eq_true, Bool.and_eq_true, Bool.and_eq_true] at q7
      obtain ⟨⟨⟨r1, r2⟩, r3⟩, r4⟩ := q7
      have en := of_decide_eq_true r1
      subst en
      exact (pi_valuesD (ha.1 X c _ h r4).pe (base_ok r2) r3).of fun σ H R z => tit_values z
    · cases q7
/-- what a comprehension's rule asks -/
structure Parts (G : Gi) (k : Nat) (X : Cx) (c : Cfg) (elt : E) (t : Tgt) (kk : ItK) (a b d : E) (x tg it : Expr) (ifs : List Expr) (scope : Scope) : Prop where
  hi : PI X tg it (TIt X.K kk (evG G k a) (evG G k b))
  ok : BlkOk X.N X.env.scope scope (ownOf c t)
  hg : ∀ (s : Shared) (H : Hp) (C : Addr) (cl : List (Str × Addr)) (fp : List Addr), PG (X.blk s H scope (compEnvC scope cl C X.env) fp) tg (TGt X.K t)
  ht : ∀ (s : Shared) (H : Hp) (C : Addr) (cl : List (Str × Addr)) (fp : List Addr), PTs (X.blk s H scope (compEnvC scope cl C X.env) fp) ifs (TTv X.K (evIf (sigG G) (callN G.P k) d))
  he : ∀ (s : Shared) (H : Hp) (C : Addr) (cl : List (Str × Addr)) (fp : List Addr), PE (X.blk s H scope (compEnvC scope cl C X.env) fp) x (TEv X.K (evG G k elt))
  hs : ∀ y, foldedSetIterable it X.env y = pure y
theorem parts_of {E : E} {x : Expr} {gs : List Comprehension} {scope : Scope} {pos : Pos} (h : Ctx G k X c) (hg1 : gs.length = 1) (q : ckE G E c (.ListComp x gs scope pos) = true) :
    ∃ elt t kk a b d tg it ifs, E = .comp elt t kk a b d ∧ gs = [⟨tg, it, ifs, 0⟩] ∧ Parts G k X c elt t kk a b d x tg it ifs scope := by
  cases E with
  | comp elt t kk a b d =>
    unfold ckE at q
    split at q
    · rename_i x' tg it ifs ia scope' pos' heq
      cases heq
      rw [Bool.and_eq_true, Bool.and_eq_true, Bool.and_eq_true, Bool.and_eq_true, Bool.and_eq_true, Bool.and_eq_true] at q
      obtain ⟨⟨⟨⟨⟨⟨q1, q2⟩, q3⟩, q4⟩, q5⟩, q6⟩, q7⟩ := q
      have e1 := of_decide_eq_true q1
      subst e1
      refine ⟨elt, t, kk, a, b, d, tg, it, ifs, rfl, rfl, ?_, ?_, fun s H C cl fp => ckT_ok (h.blk (s := s) (H := H) (cl := cl) (C := C) (fp := fp)) t q4, fun s H C cl fp => ?_, fun s H C cl fp => ((good_all G k elt).1 _ _ _ (h.blk (s := s) (H := H) (cl := cl) (C := C) (fp := fp)) q6).pe, fun y => by cases it <;> first | rfl | cases q2⟩
      · refine iter_ok h ?_
        unfold ckIS
        split at q7
        · exact q7
        · exact q7
        · exact q7
        · exact q7
        · exact q7
        · exact q7
        · exact q7
        · exact q7
        · cases q7
      · rw [h.N, h.sc]
        exact blkOk_by q3
      · split at q5
        · exact pts_nil.of fun σ H Q z => tif_nil q5 z
        · rw [Bool.and_eq_true, Bool.not_eq_true'] at q5
          rw [tif_one q5.1]
          exact pts_one ((good_all G k d).1 _ _ _ (h.blk (s := s) (H := H) (cl := cl) (C := C) (fp := fp)) q5.2).pt
        · cases q5
    · cases q
  | op1 f a => simp [ckE] at q
  | op2 f a b =>
    unfold ckE at q
    split at q
    all_goals first | (rename_i heq; cases heq; done) | (rename_i heq; cases heq; simp at hg1; done) | (cases q; done)
  | _ => simp [ckE] at q
theorem pip_ok {f : Op2} {op : Operator} (e : iopOf f = some op) : PIp X op (RAug X.K f) := by
  cases f <;> first | (cases e; done) | skip
  · cases e; exact pip_add
  · cases e; exact pip_sub
  · cases e; exact pip_mul
theorem lcl_is (h : Ctx G k X c) {x : Str} (q : lcl c x = true) : X.env.scope.names.lookup x = some .local := by
  rw [h.sc]
  exact of_decide_eq_true q
/-- x = [.. for ..] -/
theorem set_ok (h : Ctx G k X c) {i : Nat} {E : E} {x : Str} {p pos : Pos} {v : Expr} (q1 : nmAt c i x = true) (q2 : wrt c x = true) (q3 : ckE G E c v = true) (q4 : (!isLC v || lcOk c x p v) = true) : PS X (.Assign [.Name x p] v pos) (TEx X.K (exG G k (.set i E))) := by
  obtain ⟨w1, w2⟩ := h.wr q2
  have nd : X.N.Nodup := by rw [h.N]; exact h.nd
  have plain : swapsWith v (some (.Name x p)) pos.line X.env = pure false → PS X (.Assign [.Name x p] v pos) (TEx X.K (exG G k (.set i E))) := fun hs =>
    (ps_set nd (nmAt_is h q1) w1 ((good_all G k E).1 X c v h q3).pe hs w2).of fun D σ H z => tex_set _ _ z
  cases hl : isLC v with
  | false => exact plain (noLC hl)
  | true =>
    rw [hl] at q4
    replace q4 : lcOk c x p v = true := q4
    unfold lcOk at q4
    split at q4
    · rename_i el gs scope vp
      rw [Bool.and_eq_true] at q4
      obtain ⟨hg1, q4⟩ := q4
      have hg1 := of_decide_eq_true hg1
      rw [Bool.and_eq_true, Bool.or_eq_true, Bool.and_eq_true, Bool.and_eq_true] at q4
      obtain ⟨hk, q4⟩ := q4
      have hk := of_decide_eq_true hk
      rcases q4 with ⟨⟨q5, q6⟩, q7⟩ | q5
      · have hloc := lcl_is h q5
        rw [Bool.not_eq_true'] at q7
        obtain ⟨elt, t, kk, a, b, d, tg, it, ifs, rfl, rfl, P⟩ := parts_of h hg1 q3
        have core := ps_setLc (pos := vp) (spos := pos) (py := p) h.calm nd (nmAt_is h q1) hloc (sw_true (by rw [h.sc]; exact hk) hloc q6 q7) P.hi P.ok P.hg P.ht P.he P.hs
        rw [own_slots] at core
        exact core.of fun D σ H z => tev_comp _ _ (tex_set _ _ z)
      · rw [Bool.not_eq_true'] at q5
        refine plain ?_
        have hne : ¬ c.sc.names.lookup x = some .local := of_decide_eq_false q5
        have hx : (X.env.kindOf x == some .local) = false := by
          have e : X.env.kindOf x = c.sc.names.lookup x := by show X.env.scope.names.lookup x = _; rw [h.sc]
          rw [e]
          exact beq_eq_false_iff_ne.mpr hne
        show (pure (X.env.blockKind == .function && X.env.kindOf x == some .local && _ && _) : Sem Bool) = pure false
        rw [hx, Bool.and_false, Bool.false_and, Bool.false_and]
    · cases q4
theorem setTup_ok (h : Ctx G k X c) {is : List Nat} {es : E} {ts vs : List Expr} {k1 k2 : Nat} {p1 p2 pos : Pos} (hk : c.sc.kind = .function) (q1 : ckNs c is ts = true) (q2 : lenE es ≤ 1000) (q3 : ckEs G es c vs = true) (q4 : vs.length = is.length) (q5 : tupOk c is ts vs = true) : PS X (.Assign [.Tuple ts k1 p1] (.Tuple vs k2 p2) pos) (TEx X.K (exG G k (.setTup is es))) := by
  have nd : X.N.Nodup := by rw [h.N]; exact h.nd
  obtain ⟨hg, hl1, hl2, hl3⟩ := ckNs_ok h is q1
  obtain ⟨_, ha, hns⟩ := (good_all G k es).2 X c vs h q3
  have hk' : X.env.scope.kind = .function := by rw [h.sc]; exact hk
  unfold tupOk at q5
  split at q5
  · rename_i hsw
    have hw := swP_ok (k1 := k1) (k2 := k2) (p1 := p1) (p2 := p2) hk' (by rw [h.sc]; exact hsw)
    refine (ps_asg (pe_tup ha) (pg_tup (n := is.length) h.calm hg hl2 hl3) rfl hw rfl).of fun D σ H z => ?_
    refine (tex_setTup _ _ z).mono fun us H1 ⟨g1, _, g2⟩ => ⟨?_, fun p hp => ⟨p, us, rfl, SqT.of upd_same, g1, gNs_all is g1 (g2 p _ hp)⟩⟩
    rw [g1, ← q4]
    have : vs.length ≤ 1000 := by
      have hh : ∀ (es : E) (vs : List Expr), ckEs G es c vs = true → vs.length = lenE es := by
        intro es
        induction es with
        | nil => intro vs q; cases vs with
          | nil => rfl
          | cons _ _ => simp [ckEs] at q
        | cons a b _ ih => intro vs q; cases vs with
          | nil => simp [ckEs] at q
          | cons v vs =>
            rw [ckEs, Bool.and_eq_true] at q
            rw [List.length_cons, ih vs q.2]
            rfl
        | _ => intro vs q; simp [ckEs] at q
      rw [hh es vs q3]
      exact q2
    exact Nat.le_trans this (by rw [sizeLine_eq]; decide)
  · split at q5
    · rename_i i j x px y py
      rw [Bool.and_eq_true, Bool.and_eq_true, Bool.and_eq_true] at q5
      obtain ⟨⟨⟨r1, r2⟩, r3⟩, r4⟩ := q5
      have hw := swP_ok (k1 := k1) (k2 := k2) (p1 := p1) (p2 := p2) hk' (by rw [h.sc]; exact of_decide_eq_true r4)
      simp only [ckNs, Bool.and_eq_true] at q1
      cases vs with
      | nil => simp at q4
      | cons v1 vs =>
        cases vs with
        | nil => simp at q4
        | cons v2 vs =>
          cases vs with
          | nil =>
            refine (ps_par h.calm nd (nmAt_is h q1.1.1) (nmAt_is h q1.2.1.1) (of_decide_eq_true r1) (lcl_is h r2) (lcl_is h r3) ha hw).of fun D σ H z => ?_
            refine (tex_setTup _ _ z).mono fun us H1 ⟨g1, g2, _⟩ => ?_
            match us, g1, g2 with
            | [u1, u2], _, g2 => exact ⟨u1, u2, rfl, g2⟩
          | cons _ _ => simp at q4
    · rename_i i j l x px y py z pz
      rw [Bool.and_eq_true, Bool.and_eq_true, Bool.and_eq_true, Bool.and_eq_true, Bool.and_eq_true, Bool.and_eq_true] at q5
      obtain ⟨⟨⟨⟨⟨⟨r1, r2⟩, r3⟩, r4⟩, r5⟩, r6⟩, r7⟩ := q5
      have hw := swP_ok (k1 := k1) (k2 := k2) (p1 := p1) (p2 := p2) hk' (by rw [h.sc]; exact of_decide_eq_true r7)
      simp only [ckNs, Bool.and_eq_true] at q1
      cases vs with
      | nil => simp at q4
      | cons v1 vs =>
        cases vs with
        | nil => simp at q4
        | cons v2 vs =>
          cases vs with
          | nil => simp at q4
          | cons v3 vs =>
            cases vs with
            | nil =>
              refine (ps_par3 h.calm nd (nmAt_is h q1.1.1) (nmAt_is h q1.2.1.1) (nmAt_is h q1.2.2.1.1) (of_decide_eq_true r1) (of_decide_eq_true r2) (of_decide_eq_true r3) (lcl_is h r4) (lcl_is h r5) (lcl_is h r6) ha hw).of fun D σ H z => ?_
              refine (tex_setTup _ _ z).mono fun us H1 ⟨g1, g2, _⟩ => ?_
              match us, g1, g2 with
              | [u1, u2, u3], _, g2 => exact ⟨u1, u2, u3, rfl, g2⟩
            | cons _ _ => simp at q4
    · cases q5
  · cases q5
theorem ckMix_ok (h : Ctx G k X c) : ∀ (ts : List (Nat × E)) {es : List Expr}, ckMix G c ts es = true → PGs X es (GMix X.K (sigG G) (callN G.P k) ts) ∧ (assignEach es X.env).length = ts.length ∧ (assignEach es X.env).findIdx? (·.1) = none
  | [], [], _ => ⟨PGs.of pgs_nil fun vs σ H Q z => gmix_nil _ _ z, rfl, rfl⟩
  | [], _ :: _, q => by simp [ckMix] at q
  | (i, ek) :: ts, [], q => by simp [ckMix] at q
  | (i, ek) :: ts, e :: es, q => by
    have nd : X.N.Nodup := by rw [h.N]; exact h.nd
    rw [ckMix, Bool.and_eq_true] at q
    obtain ⟨ih, l1, l2⟩ := ckMix_ok h ts q.2
    have q1 := q.1
    have fin : ∀ {g : TG}, PG X e g → assignEach (e :: es) X.env = (false, assign e X.env) :: assignEach es X.env → (∀ vs σ H Q, GMix X.K (sigG G) (callN G.P k) ((i, ek) :: ts) vs σ H Q → gCons g (GMix X.K (sigG G) (callN G.P k) ts) vs σ H Q) →
        PGs X (e :: es) (GMix X.K (sigG G) (callN G.P k) ((i, ek) :: ts)) ∧ (assignEach (e :: es) X.env).length = ((i, ek) :: ts).length ∧ (assignEach (e :: es) X.env).findIdx? (·.1) = none := fun hg hs hm => by
      refine ⟨PGs.of (pgs_cons hg ih (by rw [hs]; rfl)) hm, by rw [hs, List.length_cons, l1]; rfl, ?_⟩
      rw [hs, List.findIdx?_cons]
      simp [l2]
    unfold ckM1 at q1
    split at q1
    · rw [Bool.and_eq_true, Bool.and_eq_true] at q1
      obtain ⟨⟨a1, a2⟩, a3⟩ := q1
      have en : ek = .nil := by cases ek <;> first | rfl | cases a1
      subst en
      obtain ⟨w1, w2⟩ := h.wr a3
      exact fin (pg_name nd (nmAt_is h a2) w1 w2) rfl fun vs σ H Q z => gmix_name _ _ z
    · rename_i x px y pos
      rw [Bool.and_eq_true, Bool.and_eq_true, Bool.and_eq_true, Bool.and_eq_true, Bool.and_eq_true, Bool.not_eq_true'] at q1
      obtain ⟨⟨⟨⟨⟨a1, a2⟩, a3⟩, a4⟩, a5⟩, a6⟩ := q1
      have o := okN_d a4
      exact fin (pg_sub (pe_var (nmAt_is h a2) (h.vis a3) o.1 o.2.1) ((good_all G k ek).1 X c y h a6).pe (set_any (room65 h)) (fun u => by cases y <;> first | rfl | cases a5)) rfl fun vs σ H Q z => gmix_ix _ _ a1 z
    · cases q1
theorem setMix_ok (h : Ctx G k X c) {ts : List (Nat × E)} {es : E} {tg vs : List Expr} {k1 k2 : Nat} {p1 p2 pos : Pos} (hk : c.sc.kind = .function) (q1 : ckMix G c ts tg = true) (q2 : lenE es ≤ 1000) (q3 : ckEs G es c vs = true) (q5 : swP c.sc tg vs = some none) : PS X (.Assign [.Tuple tg k1 p1] (.Tuple vs k2 p2) pos) (TEx X.K (exG G k (.setMix ts es))) := by
  obtain ⟨hg, hl2, hl3⟩ := ckMix_ok h ts q1
  obtain ⟨ha, _, hns⟩ := (good_all G k es).2 X c vs h q3
  have hw := swP_ok (k1 := k1) (k2 := k2) (p1 := p1) (p2 := p2) (by rw [h.sc]; exact hk) (by rw [h.sc]; exact q5)
  exact (ps_asg (pe_tupF ha) (pg_tup (n := ts.length) h.calm hg hl2 hl3) rfl hw rfl).of fun D σ H z => tex_setMix _ _ q2 z
end
end PV
namespace PV
open PySem PySem.Spec PyProof.Rows L2
section
variable {G : Gi} {k : Nat} {X : Cx} {c : Cfg}
theorem unpack_ok (h : Ctx G k X c) {t : Tgt} {E : E} {ts : List Expr} {kk : Nat} {p pos : Pos} {v : Expr} (q1 : ckT t c (.Tuple ts kk p) = true) (q2 : isLC v = false) (q3 : isTup v = false) (q4 : ckE G E c v = true) : PS X (.Assign [.Tuple ts kk p] v pos) (TEx X.K (exG G k (.unpack t E))) :=
  (ps_asg ((good_all G k E).1 X c v h q4).pe (ckT_ok h t q1) (by unfold swapsWithSole; exact noLC q2) (by cases v <;> first | rfl | cases q3) rfl).of fun D σ H z => tex_unpack _ _ z
theorem setIx_ok (h : Ctx G k X c) {i : Nat} {ek E : E} {x : Str} {p p2 pos : Pos} {y v : Expr} (q1 : nmAt c i x = true) (q2 : isVis c.sc x = true) (q3 : okN x = true) (q4 : notSlice y = true) (q5 : isLC v = false) (q6 : ckE G ek c y = true) (q7 : ckE G E c v = true) :
    PS X (.Assign [.Subscript (.Name x p) y p2] v pos) (TEx X.K (exG G k (.setIx i ek E))) := by
  have o := okN_d q3
  refine (ps_asg ((good_all G k E).1 X c v h q7).pe (pg_sub (pe_var (nmAt_is h q1) (h.vis q2) o.1 o.2.1) ((good_all G k ek).1 X c y h q6).pe (set_any (room65 h)) (fun u => by cases y <;> first | rfl | cases q4)) (by unfold swapsWithSole; exact noLC q5) (by cases v <;> rfl) rfl).of fun D σ H z => tex_setIx _ _ z
theorem aug_ok (h : Ctx G k X c) {i : Nat} {f : Op2} {op : Operator} {E : E} {x : Str} {p pos : Pos} {v : Expr} (q1 : nmAt c i x = true) (q2 : wrt c x = true) (q3 : iopOf f = some op) (q4 : ckE G E c v = true) :
    PS X (.AugAssign (.Name x p) op v pos) (TEx X.K (exG G k (.aug i f E))) := by
  obtain ⟨w1, w2⟩ := h.wr q2
  exact (ps_aug (by rw [h.N]; exact h.nd) (nmAt_is h q1) w1 ((good_all G k E).1 X c v h q4).pe (pip_ok q3) w2).of fun D σ H z => tex_aug _ _ z
theorem augIx_ok (h : Ctx G k X c) {i : Nat} {f : Op2} {op : Operator} {ek E : E} {x : Str} {p p2 pos : Pos} {y v : Expr} (q1 : nmAt c i x = true) (q2 : isVis c.sc x = true) (q3 : okN x = true) (q4 : notSlice y = true) (q5 : iopOf f = some op) (q6 : ckE G ek c y = true) (q7 : ckE G E c v = true) :
    PS X (.AugAssign (.Subscript (.Name x p) y p2) op v pos) (TEx X.K (exG G k (.augIx i ek f E))) := by
  have o := okN_d q3
  exact (ps_augS (pe_var (nmAt_is h q1) (h.vis q2) o.1 o.2.1) ((good_all G k ek).1 X c y h q6).pe get_list ((good_all G k E).1 X c v h q7).pe (pip_ok q5) (set_any (room65 h)) (fun ov iv new => by cases y <;> first | rfl | cases q4)).of fun D σ H z => tex_augIx _ _ z
theorem app_ok (h : Ctx G k X c) {i : Nat} {E : E} {x n : Str} {p ap cp pos : Pos} {y : Expr} (q1 : nmAt c i x = true) (q2 : isVis c.sc x = true) (q3 : okN x = true) (q4 : n = ("append" : Str)) (q5 : (ap.endLine == cp.line) = true) (q6 : notStar y = true) (q7 : ckE G E c y = true) :
    PS X (.Expr (.Call (.Attribute (.Name x p) n ap) [y] [] cp) pos) (TEx X.K (exG G k (.app i E))) := by
  have o := okN_d q3
  subst q4
  have hs : starEach [y] X.env = (false, eval y X.env) :: starEach [] X.env := star_of q6
  have pv : PE X (.Name x p) (tVar i) := pe_var (nmAt_is h q1) (h.vis q2) o.1 o.2.1
  exact (ps_expr (pe_bm PySem.F.plainAttrs_list PySem.F.slot_list_append PySem.F.type_list_append mt_append pv (pa_cons ((good_all G k E).1 X c y h q7).pe pa_nil hs) rfl (by rw [hs]; rfl) q5 hs rfl) rfl).of fun D σ H z => tex_app _ _ z
theorem single {x : Stmt} {t : TS} (h : PS X x t) : PSs X [x] t ∧ ∀ y, [x] = [y] → PS X y t := ⟨pss_one h, fun y e => by cases e; exact h⟩
theorem stm_ok (hp : PassesOwn (model X.prog X.w) X.A X.env X.xe) (h : Ctx G k X c) : ∀ (s : S) {sts : List Stmt}, ckB G s c sts = true → PSs X sts (TEx X.K (exG G k s)) ∧ ∀ x, sts = [x] → PS X x (TEx X.K (exG G k s)) := by
  intro s
  induction s with
  | skip =>
    intro sts q
    unfold ckB at q
    split at q
    · exact ⟨pss_nil.of fun D σ H z => tex_skip _ _ z, fun x e => nomatch e⟩
    · exact single ((ps_pass).of fun D σ H z => tex_skip _ _ z)
    · cases q
  | seq a b ia ib =>
    intro sts q
    unfold ckB at q
    split at q
    · rename_i x y r
      rw [Bool.and_eq_true] at q
      have h1 := ia q.1
      have h2 := ib q.2
      exact ⟨(pss_cons (h1.2 x rfl) h2.1).of fun D σ H z => tex_seq _ _ z, fun z e => by cases e⟩
    · cases q
  | ifs t a b ia ib =>
    intro sts q
    unfold ckB at q
    split at q
    · rw [Bool.and_eq_true, Bool.and_eq_true, Bool.and_eq_true, Bool.not_eq_true'] at q
      obtain ⟨⟨⟨q0, q1⟩, q2⟩, q3⟩ := q
      exact single (((ps_if ((good_all G k t).1 X c _ h q1).pt (ia q2).1 (ib q3).1)).of fun D σ H z => tex_if _ _ q0 z)
    · cases q
  | whl t a ia =>
    intro sts q
    unfold ckB at q
    split at q
    · rw [Bool.and_eq_true, Bool.and_eq_true, Bool.not_eq_true'] at q
      obtain ⟨⟨q0, q1⟩, q2⟩ := q
      exact single (((ps_while hp ((good_all G k t).1 X c _ h q1).pt (ia q2).1)).of fun D σ H z => tex_whl _ _ q0 z)
    · cases q
  | for_ t kk a b body ib =>
    intro sts q
    unfold ckB at q
    split at q
    · rename_i tg it y pos
      rw [Bool.and_eq_true, Bool.and_eq_true, Bool.and_eq_true] at q
      obtain ⟨⟨⟨q0, q1⟩, q2⟩, q3⟩ := q
      exact single (((ps_for hp h.calm (iter_ok h q1) (ckT_ok h t q0) (ib q3).1 (fun y => by cases it <;> first | rfl | cases q2))).of fun D σ H z => tex_for _ _ z)
    · cases q
  | set i e =>
    intro sts q
    unfold ckB at q
    split at q
    · rw [Bool.and_eq_true, Bool.and_eq_true, Bool.and_eq_true] at q
      obtain ⟨⟨⟨q0, q1⟩, q2⟩, q3⟩ := q
      exact single (set_ok h q0 q1 q2 q3)
    · cases q
  | setTup is es =>
    intro sts q
    unfold ckB at q
    split at q
    · rw [Bool.and_eq_true, Bool.and_eq_true, Bool.and_eq_true, Bool.and_eq_true, Bool.and_eq_true] at q
      obtain ⟨⟨⟨⟨⟨q0, q1⟩, q2⟩, q3⟩, q4⟩, q5⟩ := q
      exact single (setTup_ok h (of_decide_eq_true q0) q1 (of_decide_eq_true q2) q3 (of_decide_eq_true q4) q5)
    · cases q
  | unpack t e =>
    intro sts q
    unfold ckB at q
    split at q
    · rw [Bool.and_eq_true, Bool.and_eq_true, Bool.and_eq_true, Bool.not_eq_true', Bool.not_eq_true'] at q
      obtain ⟨⟨⟨q0, q1⟩, q2⟩, q3⟩ := q
      exact single (unpack_ok h q0 q1 q2 q3)
    · cases q
  | setIx i ek e =>
    intro sts q
    unfold ckB at q
    split at q
    · rw [Bool.and_eq_true, Bool.and_eq_true, Bool.and_eq_true, Bool.and_eq_true, Bool.and_eq_true, Bool.and_eq_true, Bool.not_eq_true'] at q
      obtain ⟨⟨⟨⟨⟨⟨q0, q1⟩, q2⟩, q3⟩, q4⟩, q5⟩, q6⟩ := q
      exact single (setIx_ok h q0 q1 q2 q3 q4 q5 q6)
    · cases q
  | aug i f e =>
    intro sts q
    unfold ckB at q
    split at q
    · rw [Bool.and_eq_true, Bool.and_eq_true, Bool.and_eq_true] at q
      obtain ⟨⟨⟨q0, q1⟩, q2⟩, q3⟩ := q
      exact single (aug_ok h q0 q1 (of_decide_eq_true q2) q3)
    · cases q
  | augIx i ek f e =>
    intro sts q
    unfold ckB at q
    split at q
    · rw [Bool.and_eq_true, Bool.and_eq_true, Bool.and_eq_true, Bool.and_eq_true, Bool.and_eq_true, Bool.and_eq_true] at q
      obtain ⟨⟨⟨⟨⟨⟨q0, q1⟩, q2⟩, q3⟩, q4⟩, q5⟩, q6⟩ := q
      exact single (augIx_ok h q0 q1 q2 q3 (of_decide_eq_true q4) q5 q6)
    · cases q
  | app i e =>
    intro sts q
    unfold ckB at q
    split at q
    · rw [Bool.and_eq_true, Bool.and_eq_true, Bool.and_eq_true, Bool.and_eq_true, Bool.and_eq_true, Bool.and_eq_true] at q
      obtain ⟨⟨⟨⟨⟨⟨q0, q1⟩, q2⟩, q3⟩, q4⟩, q5⟩, q6⟩ := q
      exact single (app_ok h q0 q1 q2 (of_decide_eq_true q3) q4 q5 q6)
    · cases q
  | drop e =>
    intro sts q
    unfold ckB at q
    split at q
    · rw [Bool.and_eq_true, Bool.not_eq_true'] at q
      exact single (((ps_expr ((good_all G k e).1 X c _ h q.2).pe (noLC q.1))).of fun D σ H z => tex_drop _ _ z)
    · cases q
  | ret e =>
    intro sts q
    unfold ckB at q
    split at q
    · exact single (((ps_ret ((good_all G k e).1 X c _ h q).pe)).of fun D σ H z => tex_ret _ _ z)
    · split at q
      · exact single ((ps_retN).of fun D σ H z => tex_retN _ _ z)
      · cases q
    · cases q
  | brk =>
    intro sts q
    unfold ckB at q
    split at q
    · exact single ((ps_break).of fun D σ H z => tex_brk _ _ z)
    · cases q
  | raise =>
    intro sts q
    exact ⟨⟨fun pins s σ H D I hw => (tex_raise _ _ hw).elim⟩, fun x _ => ⟨fun pins s σ H D I hw => (tex_raise _ _ hw).elim⟩⟩
  | setIx2 _ _ _ _ _ _ =>
    intro sts q
    simp [ckB] at q
  | setMix ts es =>
    intro sts q
    unfold ckB at q
    split at q
    · rw [Bool.and_eq_true, Bool.and_eq_true, Bool.and_eq_true, Bool.and_eq_true, Bool.and_eq_true] at q
      obtain ⟨⟨⟨⟨⟨q0, q1⟩, q2⟩, q3⟩, q4⟩, q5⟩ := q
      exact single (setMix_ok h (of_decide_eq_true q0) q1 (of_decide_eq_true q2) q3 (of_decide_eq_true q5))
    · cases q
end
end PV
namespace PV
open PySem PySem.Spec PyProof.Rows L2
section
variable {K : Frag} {Im H : Hp}
structure InSlots (K : Frag) (Im H : Hp) (refs : List PM) (vs : List V) (ps : List Addr) (s0 : Sg) : Prop where
  len : s0.length = vs.length
  d : ∀ (i : Nat) (x : D), s0[i]? = some (some (.d x)) → ∃ v, vs[i]? = some v ∧ Rp K Im v x
  m : ∀ (i : Nat) (k : Mode) (c : Cell), s0[i]? = some (some (.m k c)) → ∃ p, vs[i]? = some (.ref p) ∧ CellM K Im H p c ∧ Im p = none ∧ p ∈ ps ∧ ((k = .ref ∧ p ∈ refsA refs vs) ∨ k = .lock)
  ne : ∀ (i j : Nat) (k k' : Mode) (c c' : Cell) (p : Addr), s0[i]? = some (some (.m k c)) → s0[j]? = some (some (.m k' c')) → vs[i]? = some (.ref p) → vs[j]? = some (.ref p) → i = j
theorem refsA_tail {r : PM} {rs : List PM} {v : V} {vs : List V} {p : Addr} (h : p ∈ refsA rs vs) : p ∈ refsA (r :: rs) (v :: vs) := by
  cases r with
  | val => exact h
  | peek => exact h
  | ref => cases v <;> first | exact h | exact List.mem_cons_of_mem _ h
theorem InSlots.consD {r : PM} {rs vs ps s0} {x : D} {v : V} (h : InSlots K Im H rs vs ps s0) (rx : Rp K Im v x) : InSlots K Im H (r :: rs) (v :: vs) ps (some (.d x) :: s0) where
  len := by rw [List.length_cons, List.length_cons, h.len]
  d := fun i y e => by
    cases i with
    | zero => cases e; exact ⟨v, rfl, rx⟩
    | succ i => exact h.d i y e
  m := fun i k c e => by
    cases i with
    | zero => cases e
    | succ i =>
      obtain ⟨p, h1, h2, h3, h4, h5⟩ := h.m i k c e
      exact ⟨p, h1, h2, h3, h4, h5.imp_left fun z => ⟨z.1, refsA_tail z.2⟩⟩
  ne := fun i j k k' c c' p e1 e2 h1 h2 => by
    cases i with
    | zero => cases e1
    | succ i => cases j with
      | zero => cases e2
      | succ j => rw [h.ne i j k k' c c' p e1 e2 h1 h2]
theorem InSlots.consM {r : PM} {rs vs ps s0} {k : Mode} {c : Cell} {p : Addr} (h : InSlots K Im H rs vs ps s0) (hc : CellM K Im H p c) (hi : Im p = none) (hp : p ∉ ps) (hk : (k = .ref ∧ r = .ref) ∨ k = .lock) : InSlots K Im H (r :: rs) (.ref p :: vs) (p :: ps) (some (.m k c) :: s0) where
  len := by rw [List.length_cons, List.length_cons, h.len]
  d := fun i y e => by
    cases i with
    | zero => cases e
    | succ i => exact h.d i y e
  m := fun i k' c' e => by
    cases i with
    | zero =>
      cases e
      refine ⟨p, rfl, hc, hi, List.mem_cons_self .., ?_⟩
      rcases hk with ⟨h1, h2⟩ | h1
      · subst h2
        exact .inl ⟨h1, List.mem_cons_self ..⟩
      · exact .inr h1
    | succ i =>
      obtain ⟨q, h1, h2, h3, h4, h5⟩ := h.m i k' c' e
      exact ⟨q, h1, h2, h3, List.mem_cons_of_mem _ h4, h5.imp_left fun z => ⟨z.1, refsA_tail z.2⟩⟩
  ne := fun i j k1 k2 c1 c2 q e1 e2 h1 h2 => by
    cases i with
    | zero => cases j with
      | zero => rfl
      | succ j =>
        cases h1
        obtain ⟨q', g1, _, _, g4, _⟩ := h.m j k2 c2 e2
        have h2 : vs[j]? = some (.ref p) := h2
        rw [h2] at g1
        cases g1
        exact absurd g4 hp
    | succ i => cases j with
      | zero =>
        cases h2
        obtain ⟨q', g1, _, _, g4, _⟩ := h.m i k1 c1 e1
        have h1 : vs[i]? = some (.ref p) := h1
        rw [h1] at g1
        cases g1
        exact absurd g4 hp
      | succ j => rw [h.ne i j k1 k2 c1 c2 q e1 e2 h1 h2]
theorem in_slots : ∀ {rs as vs ps s0}, ArgsR K Im H rs as vs ps → slotsOf rs as = some s0 → InSlots K Im H rs vs ps s0
  | _, _, _, _, s0, .nil, e => by
    cases e
    exact ⟨rfl, fun i x e => by simp at e, fun i k c e => by simp at e, fun i j k k' c c' p e1 => by simp at e1⟩
  | _, _, _, _, s0, .d (r := r) hr rx t, e => by
    cases r with
    | val =>
      rw [slotsOf] at e
      simp only [Option.bind_eq_bind, Option.bind_eq_some_iff, Option.pure_def, Option.some.injEq] at e
      obtain ⟨s1, e1, rfl⟩ := e
      exact (in_slots t e1).consD rx
    | peek =>
      rw [slotsOf] at e
      simp only [Option.bind_eq_bind, Option.bind_eq_some_iff, Option.pure_def, Option.some.injEq] at e
      obtain ⟨s1, e1, rfl⟩ := e
      exact (in_slots t e1).consD rx
    | ref => exact absurd rfl hr
  | _, _, _, _, s0, .m (r := r) hr hc hi hp t, e => by
    cases r with
    | val => exact absurd rfl hr
    | peek =>
      rw [slotsOf] at e
      simp only [Option.bind_eq_bind, Option.bind_eq_some_iff, Option.pure_def, Option.some.injEq] at e
      obtain ⟨s1, e1, rfl⟩ := e
      exact (in_slots t e1).consM hc hi hp (.inr rfl)
    | ref =>
      rw [slotsOf] at e
      simp only [Option.bind_eq_bind, Option.bind_eq_some_iff, Option.pure_def, Option.some.injEq] at e
      obtain ⟨s1, e1, rfl⟩ := e
      exact (in_slots t e1).consM hc hi hp (.inl ⟨rfl, rfl⟩)
theorem start_get {N : List Str} {vs : List V} {i : Nat} {v : V} (h : vs[i]? = some v) : (L2.start N vs)[i]? = some (some v) := by
  unfold L2.start
  rw [List.getElem?_append_left (by rw [List.length_map]; exact lt_of_get h), List.getElem?_map, h]
  rfl
theorem pad_get {s0 : Sg} {n i : Nat} {z : Slot} (h : (s0 ++ List.replicate n none)[i]? = some (some z)) : s0[i]? = some (some z) := by
  by_cases hi : i < s0.length
  · rw [List.getElem?_append_left hi] at h
    exact h
  · rw [List.getElem?_append_right (by omega), List.getElem?_replicate] at h
    split at h <;> cases h
theorem in_rel {N : List Str} {refs vs ps s0 n} (hS : Sub Im H) (h : InSlots K Im H refs vs ps s0) (hn : (s0 ++ List.replicate n none).length = N.length) (hv : vs.length ≤ N.length) : Rel K (L2.start N vs) Im H (s0 ++ List.replicate n none) where
  len := by
    rw [hn]
    unfold L2.start
    rw [List.length_append, List.length_map, List.length_replicate]
    omega
  sub := hS
  d := fun i x e => by
    obtain ⟨v, h1, h2⟩ := h.d i x (pad_get e)
    exact ⟨v, start_get h1, h2⟩
  m := fun i k c e => by
    obtain ⟨p, h1, h2, h3, _⟩ := h.m i k c (pad_get e)
    exact ⟨p, start_get h1, h2, h3⟩
  ne := fun i j k k' c c' p e1 e2 h1 h2 => by
    obtain ⟨p1, g1, _⟩ := h.m i k c (pad_get e1)
    obtain ⟨p2, g2, _⟩ := h.m j k' c' (pad_get e2)
    rw [start_get g1] at h1
    rw [start_get g2] at h2
    cases h1
    cases h2
    exact h.ne i j k k' c c' p (pad_get e1) (pad_get e2) g1 g2
/-- the changed parameters, behind the body -/
theorem outs_r {Im' H' : Hp} {s' : Sg} {vs0 : List V} (hm : ∀ (i : Nat) (c : Cell), s'[i]? = some (some (.m .ref c)) → ∃ p, vs0[i]? = some (.ref p) ∧ CellM K Im' H' p c ∧ Im' p = none) :
    ∀ (rs : List PM) (vs : List V) (i : Nat) {cs : List Cell}, rs.length = vs.length → (∀ j, vs[j]? = vs0[i + j]?) → outs s' rs i = some cs → RefsR K Im' H' (refsA rs vs) cs
  | [], [], _, cs, _, _, e => by cases e; exact .nil
  | [], _ :: _, _, _, h, _, _ => by simp at h
  | _ :: _, [], _, _, h, _, _ => by simp at h
  | r :: rs, v :: vs, i, cs, hl, hv, e => by
    have hv' : ∀ j, vs[j]? = vs0[i + 1 + j]? := fun j => by
      have := hv (j + 1)
      rw [List.getElem?_cons_succ] at this
      rw [this]
      congr 1
      omega
    cases r with
    | val => exact outs_r hm rs vs (i + 1) (by simpa using hl) hv' e
    | peek => exact outs_r hm rs vs (i + 1) (by simpa using hl) hv' e
    | ref =>
      rw [outs] at e
      split at e
      · rename_i c es
        simp only [Option.bind_eq_bind, Option.bind_eq_some_iff, Option.pure_def, Option.some.injEq] at e
        obtain ⟨cs1, e1, rfl⟩ := e
        obtain ⟨p, h1, h2, h3⟩ := hm i c es
        have h0 := hv 0
        rw [Nat.add_zero, h1] at h0
        have h0 : v = .ref p := by simpa using h0
        subst h0
        exact .cons ⟨h2, h3⟩ (outs_r hm rs vs (i + 1) (by simpa using hl) hv' e1)
      · cases e
end
/-- what is looked at in a def of the program -/
def ckD (G : Gi) (N ps : List Str) (st : Stmt) (d : Def) : Bool :=
  decide (N.length = d.n) && decide (ps.length = d.refs.length) && C8.scC N ps (defScope st) && ckB G d.body ⟨N, defScope st, fun _ => true⟩ (defBody st)
section
variable {G : Gi} {P : Program} {w : World} {K : Frag} {mg : Str → Option Value} {base : Heap}
/-- a def stands in the module -/
structure StandsAt (G : Gi) (K : Frag) (mg : Str → Option Value) (f : String) (d : Def) (fa : Addr) (fd : FuncData) (ps : List Str) : Prop where
  ex : ∃ st N nm, Fun K nm nm st fa fd ∧ mg (Str.ofString f) = some (.ref fa) ∧ Binds K fd ps [] ∧ ckD G N ps st d = true
def Stands (G : Gi) (K : Frag) (mg : Str → Option Value) : Prop := ∀ f d, G.P f = some d → ∃ fa fd ps, StandsAt G K mg f d fa fd ps
theorem spOf_zero {refs : List PM} {f : String} {vs : List V} {H : Hp} {Q : VK} {E : XK} (h : spOf K refs (callN G.P 0 f) vs H Q E) : False := by
  obtain ⟨Im, as, ps, _, _, w, cs, e, _⟩ := h
  simp [callN] at e
theorem fns_ok (hs : Stands G K mg) (hb : ∀ x, G.blt.contains x = true → mg x = none) (hc : ∀ x d, G.cst.lookup x = some d → ∃ v u, mg x = some u ∧ RelV v u ∧ ∀ Im, Rp K Im v d) :
    ∀ k, ∀ f d fa fd ps, G.P f = some d → StandsAt G K mg f d fa fd ps → FnOk P w K mg base CX0 k fa fd ps (spOf K d.refs (callN G.P k f)) := by
  intro k
  induction k with
  | zero =>
    intro f d fa fd ps hf sa
    exact ⟨fun vs H Q E h => (spOf_zero h).elim, fun A outer s H args us vs Q E _ _ _ _ h => (spOf_zero h).elim⟩
  | succ k ih =>
    intro f d fa fd ps hf sa
    have ih : ∀ f d, G.P f = some d → ∃ fa fd ps, FnOk P w K mg base CX0 k fa fd ps (spOf K d.refs (callN G.P k f)) ∧ mg (Str.ofString f) = some (.ref fa) ∧ PySem.W.keepIn K (.ref fa) = true ∧ Binds K fd ps [] := fun f d hf => by
      obtain ⟨fa, fd, ps, sa⟩ := hs f d hf
      obtain ⟨st, N, nm, D, M, B, _⟩ := sa.ex
      exact ⟨fa, fd, ps, ih f d fa fd ps hf sa, M, D.kp, B⟩
    obtain ⟨st, N, nm, D, M, B, q⟩ := sa.ex
    unfold ckD at q
    rw [Bool.and_eq_true, Bool.and_eq_true, Bool.and_eq_true] at q
    obtain ⟨⟨⟨q1, q2⟩, q3⟩, q4⟩ := q
    have q1 := of_decide_eq_true q1
    have q2 := of_decide_eq_true q2
    have S := C8.fnScope_by q3
    have hpl : ps.length ≤ N.length := by have := congrArg List.length S.pre; rw [List.length_take] at this; omega
    refine D.ok S (fun vs H Q E ⟨Im, as, pa, _, ha, _⟩ => by rw [ha.len, q2]) fun cdv A outer s H vs Q E hr ⟨Im, as, pa, hS, ha, w1, cs, e, kk⟩ => ?_
    have hX : Ctx G k (cxOf CX0 P w K mg base N nm (defScope st) fa cdv A outer s H E).nox ⟨N, defScope st, fun _ => true⟩ :=
      ⟨rfl, rfl, S.nd, rfl, hr, hb, hc, ih, fun _ _ => rfl⟩
    refine ⟨_, (stm_ok PassesOwn.never hX d.body q4).1, ?_⟩
    rw [callN] at e
    simp only [Option.bind_eq_bind, Option.bind_eq_some_iff, Option.pure_def, Option.some.injEq, Prod.mk.injEq] at e
    obtain ⟨d', hd', s0, e0, ⟨o, s'⟩, e1, w2, e2, w3, e3, cs', e4, rfl, rfl⟩ := e
    rw [hf] at hd'
    cases hd'
    have IS := in_slots ha e0
    have hlv : vs.length = ps.length := by rw [ha.len, q2]
    have R0 : Rel K (L2.start N vs) Im H (s0 ++ List.replicate (d.n - as.length) none) := by
      refine in_rel hS IS ?_ (by omega)
      rw [List.length_append, List.length_replicate, IS.len, q1]
      have : as.length = vs.length := by
        have hh : ∀ {rs as vs ps}, ArgsR K Im H rs as vs ps → as.length = vs.length := by
          intro rs as vs ps h
          induction h with
          | nil => rfl
          | d _ _ _ ih => rw [List.length_cons, List.length_cons, ih]
          | m _ _ _ _ _ ih => rw [List.length_cons, List.length_cons, ih]
        exact hh ha
      omega
    refine ⟨_, Im, R0, o, s', e1, fun Im' σ' H' R' st => ?_⟩
    -- behind the body
    have noOwn0 : ∀ (j : Nat) (c : Cell), (s0 ++ List.replicate (d.n - as.length) none)[j]? ≠ some (some (.m .own c)) := fun j c h => by
      obtain ⟨p, _, _, _, _, h5⟩ := IS.m j .own c (pad_get h)
      rcases h5 with ⟨h5, _⟩ | h5 <;> cases h5
    have hT : ∀ p, Tch (L2.start N vs) (s0 ++ List.replicate (d.n - as.length) none) p → p ∈ refsA d.refs vs := fun p ⟨j, k', c', hk, f1, f2⟩ => by
      obtain ⟨q, g1, _, _, _, g5⟩ := IS.m j k' c' (pad_get f1)
      rw [start_get g1] at f2
      cases f2
      rcases g5 with ⟨_, g5⟩ | g5
      · exact g5
      · exact absurd g5 hk
    have hc' : RefsR K Im' H' (refsA d.refs vs) cs' := by
      refine outs_r (vs0 := vs) (fun i c es => ?_) d.refs vs 0 (by rw [ha.len]) (fun j => by rw [Nat.zero_add]) e4
      obtain ⟨p, h1, h2, h3⟩ := R'.m i .ref c es
      obtain ⟨c0, g1, g2, _⟩ := st.old i .ref c (by decide) es
      obtain ⟨q, g3, _⟩ := IS.m i .ref c0 (pad_get g1)
      rw [g2, start_get g3] at h1
      cases h1
      exact ⟨p, g3, h2, h3⟩
    have fin : ∀ v, WR K σ' H Im' H' s' w2 v → Q v H' := fun v hw => by
      refine kk Im' v H' R'.sub (st.monoT hT).toStp hc' ?_
      unfold finW at e3
      split at e3
      · cases e3
        cases hw with
        | d r => exact .d r
      · cases e3
        cases hw with
        | new h0 hc hi hn => exact .new h0 hi hc
      · rename_i i
        split at e3
        · rename_i c es
          cases e3
          cases hw with
          | own ev =>
            obtain ⟨p, h1, h2, h3⟩ := R'.m i .own c es
            rw [ev] at h1
            cases h1
            refine .new ?_ h3 h2
            rcases st.own i c p es ev with z | ⟨j, c0, g1, _⟩
            · exact z
            · exact absurd g1 (noOwn0 j c0)
        · cases e3
    cases o with
    | nx =>
      cases e2
      exact fin .non (.d .non)
    | ret w4 =>
      cases e2
      exact fun v hw => fin v hw
    | brk => cases e2
end
end PV
namespace PV
open PySem PySem.Spec PyProof.Rows L2
/-- a def: the name it stands under, its own name, its term, its text, its parameters, its names by slot -/
structure Row where
  f : String
  g : String
  d : Def
  st : Stmt
  ps : List Str
  N : List Str
def rowP (rows : List Row) (f : String) : Option Def := (rows.find? fun r => r.f == f).map (·.d)
def giOf (rows : List Row) (cst : List (Str × D)) (blt : List Str) : Gi := ⟨rowP rows, cst, blt⟩
theorem rowP_mem {rows : List Row} {f : String} {d : Def} (h : rowP rows f = some d) : ∃ r ∈ rows, r.f = f ∧ r.d = d := by
  unfold rowP at h
  cases e : rows.find? (fun r => r.f == f) with
  | none => rw [e] at h; cases h
  | some r =>
    rw [e] at h
    cases h
    have h1 := List.find?_some e
    exact ⟨r, List.mem_of_find?_eq_some e, eq_of_beq h1, rfl⟩
/-- a def as the head has left it -/
structure Fact (K : Frag) (r : Row) : Prop where
  ex : ∃ (fa : Addr) (oc : Value) (od an : Option Addr) (sl : Array (Option Value)) (kV dc pm cd ct : Value), PySem.W.nsIn K mainGlobals (Str.ofString r.f) = some (some (.ref fa)) ∧
    K.lookup fa = some ⟨oc, od, .func (PySem.W.fnOf (Str.ofString r.g) (Str.ofString r.g) (defArgs r.st) (defBody r.st) (defScope r.st) .none kV dc pm an cd ct), sl⟩ ∧ PySem.W.codeIn K cd (Str.ofString r.g) = true ∧ PySem.W.keepIn K (.ref fa) = true
def BindR (r : Row) : Prop := ∀ (kV doc pm : Value) (an : Option Addr) (cdv ct : Value) (us : List Value), us.length = r.ps.length →
  bindArgs (PySem.W.fnOf (Str.ofString r.g) (Str.ofString r.g) (defArgs r.st) (defBody r.st) (defScope r.st) .none kV doc pm an cdv ct) ⟨us, []⟩ = pure (r.ps.zip us)
theorem fact_mk {K : Frag} {r : Row} {fa : Addr} {oc : Value} {od an : Option Addr} {sl : Array (Option Value)} {kV dc pm cd ct : Value} (a : PySem.W.nsIn K mainGlobals (Str.ofString r.f) = some (some (.ref fa)))
    (l : K.lookup fa = some ⟨oc, od, .func (PySem.W.fnOf (Str.ofString r.g) (Str.ofString r.g) (defArgs r.st) (defBody r.st) (defScope r.st) .none kV dc pm an cd ct), sl⟩) (c : PySem.W.codeIn K cd (Str.ofString r.g) = true) (k : PySem.W.keepIn K (.ref fa) = true) : Fact K r :=
  ⟨fa, oc, od, an, sl, kV, dc, pm, cd, ct, a, l, c, k⟩
/-- a constant of the module -/
inductive CstAt (K : Frag) (x : Str) : D → Prop
  | int (i : Int) (t : Tok) : PySem.W.nsIn K mainGlobals x = some (some (.int i t)) → CstAt K x (.int i)
theorem rp_cst {K : Frag} {h : Heap} {mg : Str → Option Value} (KX : K.In h) (Gn : h.Ns mainGlobals mg) {x : Str} {d : D} (q : CstAt K x d) : ∃ v u, mg x = some u ∧ RelV v u ∧ ∀ Im, Rp K Im v d := by
  cases q with
  | int i t h => exact ⟨.int i, _, PySem.W.mg_of KX Gn h, ⟨t, rfl⟩, fun Im => .int i⟩
def spL (K : Frag) : Sp := fun vs H Q _ => ∃ (a : Addr) (ns : List Int), vs = [.ref a] ∧ SqL K H a (ns.map V.int) ∧ ns.length ≤ 63 ∧ ∀ H', Q (.bl true) H'
theorem law_gen {rows : List Row} {cst : List (Str × D)} {blt : List Str} {k : Nat} {P : Program} {w : World} {K : Frag} {h : Heap} {mg : Str → Option Value} {fa : Addr} (KX : K.In h) (Gn : h.Ns mainGlobals mg) (hfa : mg (Str.ofString "law") = some (.ref fa))
    (facts : ∀ r ∈ rows, Fact K r) (binds : ∀ r ∈ rows, BindR r) (hblt : ∀ x, blt.contains x = true → PySem.W.nsIn K mainGlobals x = some none) (hcst : ∀ x d, cst.lookup x = some d → CstAt K x d)
    (hck : ∀ r ∈ rows, ckD (giOf rows cst blt) r.N r.ps r.st r.d = true) {dl : Def} (hl : rowP rows "law" = some dl) (hr : dl.refs = [.val]) (pL : Str) (hp : ∀ r ∈ rows, r.f = "law" → r.ps = [pL])
    (law : ∀ ns : List Int, ns.length ≤ 63 → callN (rowP rows) k "law" [.d (script ns)] = some (.d (.bool true), [])) :
    ∃ fd : FuncData, (∀ (s : Shared) (v : Value), BindsTo s fd ⟨[v], []⟩ [(pL, v)]) ∧ ∀ base : Heap, K.In base → base.Ns mainGlobals mg → FnOk P w K mg base CX0 k fa fd [pL] (spL K) := by
  have st : Stands (giOf rows cst blt) K mg := fun f d hf => by
    obtain ⟨r, hr, rfl, rfl⟩ := rowP_mem hf
    obtain ⟨fa, oc, od, an, sl, kV, dc, pm, cd, ct, a, l, c, kp⟩ := (facts r hr).ex
    have F := fun_mk l c kp
    exact ⟨fa, _, r.ps, ⟨r.st, r.N, _, F, PySem.W.mg_of KX Gn a, F.binds (binds r hr), hck r hr⟩⟩
  have hb : ∀ x, (giOf rows cst blt).blt.contains x = true → mg x = none := fun x hx => PySem.W.mg_none_of KX Gn (hblt x hx)
  have hc : ∀ x d, (giOf rows cst blt).cst.lookup x = some d → ∃ v u, mg x = some u ∧ RelV v u ∧ ∀ Im, Rp K Im v d := fun x d hx => rp_cst KX Gn (hcst x d hx)
  -- the law's own def
  obtain ⟨r, hrm, hrf, hrd⟩ := rowP_mem hl
  obtain ⟨fa1, oc, od, an, sl, kV, dc, pm, cd, ct, a, l, c, kp⟩ := (facts r hrm).ex
  have hps := hp r hrm hrf
  have e1 : mg (Str.ofString r.f) = some (.ref fa1) := PySem.W.mg_of KX Gn a
  have e2 : fa1 = fa := by
    rw [hrf] at e1
    rw [hfa] at e1
    injection e1 with e1
    injection e1 with e1
    exact e1.symm
  subst e2
  refine ⟨PySem.W.fnOf (Str.ofString r.g) (Str.ofString r.g) (defArgs r.st) (defBody r.st) (defScope r.st) .none kV dc pm an cd ct, fun s v => ?_, fun base hKb hGb => ?_⟩
  · have := binds r hrm kV dc pm an cd ct [v] (by rw [hps]; rfl)
    rw [hps] at this
    exact .of_eq this
  · have F := fun_mk l c kp
    have sa : StandsAt (giOf rows cst blt) K mg "law" dl fa1 (PySem.W.fnOf (Str.ofString r.g) (Str.ofString r.g) (defArgs r.st) (defBody r.st) (defScope r.st) .none kV dc pm an cd ct) [pL] := by
      refine ⟨r.st, r.N, _, F, ?_, ?_, ?_⟩
      · exact hfa
      · rw [← hps]; exact F.binds (binds r hrm)
      · rw [← hps, ← hrd]; exact hck r hrm
    refine (fns_ok (P := P) (w := w) (base := base) st hb hc k "law" dl _ _ _ hl sa).imp fun vs H Q E ⟨a', ns, hv, hS, hlen, q⟩ => ?_
    subst hv
    refine ⟨H, [.d (script ns)], [], Sub.refl H, ?_, _, _, law ns hlen, fun Im' v H' _ _ _ res => ?_⟩
    · rw [hr]
      exact .d (by decide) (.scr hS) .nil
    · cases res with
      | d r =>
        cases r
        exact q H'
end PV
namespace PV
open PySem PySem.Spec PyProof.Rows L2
theorem facts_nil {K : Frag} : ∀ r ∈ ([] : List Row), Fact K r := fun _ h => nomatch h
theorem facts_cons {K : Frag} {r : Row} {rs : List Row} (h : Fact K r) (t : ∀ r ∈ rs, Fact K r) : ∀ x ∈ r :: rs, Fact K x := fun x hx => (List.mem_cons.mp hx).elim (fun e => by rw [e]; exact h) (t x)
theorem binds_nil : ∀ r ∈ ([] : List Row), BindR r := fun _ h => nomatch h
theorem binds_cons {r : Row} {rs : List Row} (h : BindR r) (t : ∀ r ∈ rs, BindR r) : ∀ x ∈ r :: rs, BindR x := fun x hx => (List.mem_cons.mp hx).elim (fun e => by rw [e]; exact h) (t x)
theorem blt_nil {K : Frag} : ∀ x, ([] : List Str).contains x = true → PySem.W.nsIn K mainGlobals x = some none := fun x h => by simp at h
theorem blt_cons {K : Frag} {y : Str} {bs : List Str} (h : PySem.W.nsIn K mainGlobals y = some none) (t : ∀ x, bs.contains x = true → PySem.W.nsIn K mainGlobals x = some none) : ∀ x, (y :: bs).contains x = true → PySem.W.nsIn K mainGlobals x = some none := fun x hx => by
  rw [List.contains_cons, Bool.or_eq_true] at hx
  rcases hx with hx | hx
  · have : x = y := eq_of_beq hx
    rw [this]
    exact h
  · exact t x hx
theorem cst_nil {K : Frag} : ∀ x d, ([] : List (Str × D)).lookup x = some d → CstAt K x d := fun x d h => nomatch h
theorem cst_cons {K : Frag} {y : Str} {e : D} {bs : List (Str × D)} (h : CstAt K y e) (t : ∀ x d, bs.lookup x = some d → CstAt K x d) : ∀ x d, ((y, e) :: bs).lookup x = some d → CstAt K x d := fun x d hx => by
  rw [List.lookup_cons] at hx
  split at hx
  · rename_i hb
    have : x = y := eq_of_beq hb
    cases hx
    rw [this]
    exact h
  · exact t x d hx
theorem all_of {α : Type} {p : α → Bool} {l : List α} (h : l.all p = true) : ∀ x ∈ l, p x = true := fun x hx => List.all_eq_true.mp h x hx
end PV
namespace PV
open PySem PySem.Spec PyProof.Rows L2
theorem cst_int {K : Frag} {y : Str} {i : Int} {t : Tok} {bs : List (Str × D)} (h : PySem.W.nsIn K mainGlobals y = some (some (.int i t))) (r : ∀ x d, bs.lookup x = some d → CstAt K x d) : ∀ x d, ((y, .int i) :: bs).lookup x = some d → CstAt K x d := cst_cons (.int i t h) r
end PV
namespace Lk33
open PV PySem
abbrev topS (i : Nat) : Stmt := PySem.Challenge.pw_countdoors_k33_known_times_and_sums.main.body.getD i (.Pass ⟨0, 0, 0, 0⟩)
def d_is_in : Def := { n := 3, refs := [.val, .val, .val], body := (.ret (.and_ (.isin1 (.var 0) .int) (.and_ (.op1 .not (.isin1 (.var 0) .bool)) (.chain .le .le (.var 1) (.var 0) (.var 2))))) }
abbrev r_is_in : Row := ⟨"is_in", "is_in", d_is_in, topS 8, ["value", "least", "most"], ["value", "least", "most"]⟩
def d_gcd : Def := { n := 2, refs := [.val, .val], body := (.seq (.setTup [0, 1] (.cons (.op1 .abs (.var 0)) (.cons (.op1 .abs (.var 1)) .nil))) (.seq (.whl (.op2 .ne (.var 1) (.con (.int 0))) (.setTup [0, 1] (.cons (.var 1) (.cons (.op2 .mod (.var 0) (.var 1)) .nil)))) (.ret (.var 0)))) }
abbrev r_gcd : Row := ⟨"gcd", "gcd", d_gcd, topS 9, ["one", "other"], ["one", "other"]⟩
def d_reduced : Def := { n := 3, refs := [.val, .val], body := (.seq (.set 2 (.call "gcd" (.cons (.var 0) (.cons (.var 1) .nil)))) (.seq (.ifs (.op2 .lt (.var 1) (.con (.int 0))) (.set 2 (.op1 .neg (.var 2))) .skip) (.ret (.tup (.cons (.op2 .fdiv (.var 0) (.var 2)) (.cons (.op2 .fdiv (.var 1) (.var 2)) .nil)))))) }
abbrev r_reduced : Row := ⟨"reduced", "reduced", d_reduced, topS 10, ["numerator", "denominator"], ["numerator", "denominator", "common"]⟩
def d_plus : Def := { n := 2, refs := [.val, .val], body := (.ret (.call "reduced" (.cons (.op2 .add (.op2 .mul (.op2 .ix (.var 0) (.con (.int 0))) (.op2 .ix (.var 1) (.con (.int 1)))) (.op2 .mul (.op2 .ix (.var 1) (.con (.int 0))) (.op2 .ix (.var 0) (.con (.int 1))))) (.cons (.op2 .mul (.op2 .ix (.var 0) (.con (.int 1))) (.op2 .ix (.var 1) (.con (.int 1)))) .nil)))) }
abbrev r_plus : Row := ⟨"plus", "plus", d_plus, topS 11, ["one", "other"], ["one", "other"]⟩
def d_minus : Def := { n := 2, refs := [.val, .val], body := (.ret (.call "reduced" (.cons (.op2 .sub (.op2 .mul (.op2 .ix (.var 0) (.con (.int 0))) (.op2 .ix (.var 1) (.con (.int 1)))) (.op2 .mul (.op2 .ix (.var 1) (.con (.int 0))) (.op2 .ix (.var 0) (.con (.int 1))))) (.cons (.op2 .mul (.op2 .ix (.var 0) (.con (.int 1))) (.op2 .ix (.var 1) (.con (.int 1)))) .nil)))) }
abbrev r_minus : Row := ⟨"minus", "minus", d_minus, topS 12, ["one", "other"], ["one", "other"]⟩
def d_times : Def := { n := 2, refs := [.val, .val], body := (.ret (.call "reduced" (.cons (.op2 .mul (.op2 .ix (.var 0) (.con (.int 0))) (.op2 .ix (.var 1) (.con (.int 0)))) (.cons (.op2 .mul (.op2 .ix (.var 0) (.con (.int 1))) (.op2 .ix (.var 1) (.con (.int 1)))) .nil)))) }
abbrev r_times : Row := ⟨"times", "times", d_times, topS 13, ["one", "other"], ["one", "other"]⟩
def d_need_nest : Def := { n := 3, refs := [.val], body := (.seq (.ifs (.or_ (.op1 .not (.isin1 (.var 0) .tuple)) (.op1 .not (.chain .le .le (.con (.int 1)) (.op1 .len (.var 0)) (.glob "MOST_DOORS" (.int 9))))) .raise .skip) (.for_ (.tcons (.name 1) (.tcons (.name 2) .tnil)) .enum (.var 0) .nil (.ifs (.and_ (.op2 .isnot (.var 2) (.con .none)) (.op1 .not (.call "is_in" (.cons (.var 2) (.cons (.op2 .add (.var 1) (.con (.int 1))) (.cons (.op2 .sub (.op1 .len (.var 0)) (.con (.int 1))) .nil)))))) .raise .skip))) }
abbrev r_need_nest : Row := ⟨"need_nest", "need_nest", d_need_nest, topS 17, ["nest"], ["nest", "index", "one"]⟩
def d_is_set : Def := { n := 2, refs := [.val], body := (.seq (.ifs (.or_ (.op1 .not (.isin1 (.var 0) .tuple)) (.op2 .ne (.comp (.var 1) (.name 1) .val (.var 0) .nil (.op1 .not (.call "is_in" (.cons (.var 1) (.cons (.con (.int 0)) (.cons (.glob "MOST_NUMBER" (.int 8)) .nil)))))) (.lst .nil))) (.ret (.con (.bool false))) .skip) (.ret (.op2 .eq (.op1 .list (.var 0)) (.op1 .sortedset (.var 0))))) }
abbrev r_is_set : Row := ⟨"is_set", "is_set", d_is_set, topS 18, ["value"], ["value", "x"]⟩
def d_need_numbers : Def := { n := 4, refs := [.val, .val], body := (.seq (.drop (.call "need_nest" (.cons (.var 0) .nil))) (.seq (.ifs (.or_ (.op1 .not (.isin1 (.var 1) .tuple)) (.op2 .ne (.op1 .len (.var 1)) (.op1 .len (.var 0)))) .raise .skip) (.for_ (.tcons (.name 2) (.tcons (.name 3) .tnil)) .enum (.var 1) .nil (.ifs (.op1 .not (.call "is_set" (.cons (.var 3) .nil))) .raise .skip)))) }
abbrev r_need_numbers : Row := ⟨"need_numbers", "need_numbers", d_need_numbers, topS 19, ["nest", "numbers"], ["nest", "numbers", "index", "one"]⟩
def d_around_in : Def := { n := 4, refs := [.val, .val], body := (.seq (.setTup [2, 3] (.cons (.lst .nil) (.cons (.op2 .ix (.var 0) (.var 1)) .nil))) (.seq (.whl (.op2 .isnot (.var 3) (.con .none)) (.seq (.app 2 (.var 3)) (.set 3 (.op2 .ix (.var 0) (.var 3))))) (.ret (.var 2)))) }
abbrev r_around_in : Row := ⟨"around_in", "around_in", d_around_in, topS 20, ["nest", "door"], ["nest", "door", "found", "here"]⟩
def d_inside_in : Def := { n := 3, refs := [.val, .val], body := (.ret (.comp (.var 2) (.name 2) .range1 (.var 1) .nil (.op2 .isin (.var 1) (.call "around_in" (.cons (.var 0) (.cons (.var 2) .nil)))))) }
abbrev r_inside_in : Row := ⟨"inside_in", "inside_in", d_inside_in, topS 21, ["nest", "door"], ["nest", "door", "k"]⟩
def d_sizes_in : Def := { n := 4, refs := [.val], body := (.seq (.set 1 (.op2 .mul (.lst (.cons (.con (.int 1)) .nil)) (.op1 .len (.var 0)))) (.seq (.for_ (.tcons (.name 2) (.tcons (.name 3) .tnil)) .enum (.var 0) .nil (.ifs (.op2 .isnot (.var 3) (.con .none)) (.augIx 1 (.var 3) .add (.op2 .ix (.var 1) (.var 2))) .skip)) (.ret (.var 1)))) }
abbrev r_sizes_in : Row := ⟨"sizes_in", "sizes_in", d_sizes_in, topS 22, ["nest"], ["nest", "found", "k", "one"]⟩
def d_product : Def := { n := 3, refs := [.val], body := (.seq (.set 1 (.con (.int 1))) (.seq (.for_ (.name 2) .val (.var 0) .nil (.aug 1 .mul (.var 2))) (.ret (.var 1)))) }
abbrev r_product : Row := ⟨"product", "product", d_product, topS 23, ["values"], ["values", "found", "one"]⟩
def d_mixings_in : Def := { n := 1, refs := [.val], body := (.ret (.op2 .fdiv (.call "product" (.cons (.rng .list_ .range2 (.con (.int 1)) (.op2 .add (.op1 .len (.var 0)) (.con (.int 1)))) .nil)) (.call "product" (.cons (.call "sizes_in" (.cons (.var 0) .nil)) .nil)))) }
abbrev r_mixings_in : Row := ⟨"mixings_in", "mixings_in", d_mixings_in, topS 24, ["nest"], ["nest"]⟩
def d_kept_in : Def := { n := 5, refs := [.val, .val], body := (.ret (.comp (.comp (.var 2) (.name 2) .val (.var 3) .nil (.op2 .lt (.var 2) (.var 4))) (.tcons (.name 3) (.tcons (.name 4) .tnil)) .zip (.var 1) (.call "sizes_in" (.cons (.var 0) .nil)) .nil)) }
abbrev r_kept_in : Row := ⟨"kept_in", "kept_in", d_kept_in, topS 25, ["nest", "numbers"], ["nest", "numbers", "x", "some", "size"]⟩
def d_need_state : Def := { n := 3, refs := [.val, .val], body := (.seq (.ifs (.or_ (.op1 .not (.isin1 (.var 1) .tuple)) (.op2 .ne (.comp (.var 2) (.name 2) .val (.var 1) .nil (.op1 .not (.call "is_in" (.cons (.var 2) (.cons (.con (.int 0)) (.cons (.op2 .sub (.op1 .len (.var 0)) (.con (.int 1))) .nil)))))) (.lst .nil))) .raise .skip) (.ifs (.op2 .ne (.op1 .list (.var 1)) (.op1 .sortedset (.var 1))) .raise .skip)) }
abbrev r_need_state : Row := ⟨"need_state", "need_state", d_need_state, topS 27, ["nest", "state"], ["nest", "state", "x"]⟩
def d_need_both : Def := { n := 3, refs := [.val, .val, .val], body := (.seq (.drop (.call "need_numbers" (.cons (.var 0) (.cons (.var 1) .nil)))) (.drop (.call "need_state" (.cons (.var 0) (.cons (.var 2) .nil))))) }
abbrev r_need_both : Row := ⟨"need_both", "need_both", d_need_both, topS 28, ["nest", "numbers", "state"], ["nest", "numbers", "state"]⟩
def d_count_in : Def := { n := 4, refs := [.val, .val, .val], body := (.ret (.op1 .len (.comp (.var 3) (.name 3) .val (.call "inside_in" (.cons (.var 0) (.cons (.var 2) .nil))) .nil (.op2 .isin (.var 3) (.var 1))))) }
abbrev r_count_in : Row := ⟨"count_in", "count_in", d_count_in, topS 29, ["nest", "state", "door"], ["nest", "state", "door", "x"]⟩
def d_ready_in : Def := { n := 4, refs := [.val, .val, .val], body := (.ret (.comp (.var 3) (.name 3) .range1 (.op1 .len (.var 0)) .nil (.and_ (.op2 .notin (.var 3) (.var 2)) (.op2 .isin (.call "count_in" (.cons (.var 0) (.cons (.var 2) (.cons (.var 3) .nil)))) (.op2 .ix (.var 1) (.var 3)))))) }
abbrev r_ready_in : Row := ⟨"ready_in", "ready_in", d_ready_in, topS 30, ["nest", "numbers", "state"], ["nest", "numbers", "state", "k"]⟩
def d_ways_in : Def := { n := 11, refs := [.val, .val, .val, .val], body := (.seq (.set 4 (.comp (.var 5) (.name 5) .val (.var 3) .nil (.op2 .notin (.var 5) (.var 2)))) (.seq (.setTup [6, 7] (.cons (.call "product" (.cons (.rng .list_ .range2 (.con (.int 1)) (.op2 .add (.op1 .len (.var 4)) (.con (.int 1)))) .nil)) (.cons (.con (.int 1)) .nil))) (.seq (.for_ (.name 5) .val (.var 4) .nil (.seq (.set 8 (.call "count_in" (.cons (.var 0) (.cons (.var 2) (.cons (.var 5) .nil))))) (.seq (.set 9 (.op2 .add (.con (.int 1)) (.op1 .len (.comp (.var 10) (.name 10) .val (.call "inside_in" (.cons (.var 0) (.cons (.var 5) .nil))) .nil (.op2 .isin (.var 10) (.var 4)))))) (.seq (.aug 6 .mul (.op1 .len (.comp (.var 10) (.name 10) .val (.op2 .ix (.var 1) (.var 5)) .nil (.chain .le .lt (.var 8) (.var 10) (.op2 .add (.var 8) (.var 9)))))) (.aug 7 .mul (.var 9)))))) (.ret (.op2 .fdiv (.var 6) (.var 7)))))) }
abbrev r_ways_in : Row := ⟨"ways_in", "ways_in", d_ways_in, topS 31, ["nest", "numbers", "one", "other"], ["nest", "numbers", "one", "other", "fresh", "k", "top", "bottom", "begin", "size", "x"]⟩
def d_everyone : Def := { n := 1, refs := [.val], body := (.ret (.rng .tuple_ .range1 (.op1 .len (.var 0)) .nil)) }
abbrev r_everyone : Row := ⟨"everyone", "everyone", d_everyone, topS 32, ["nest"], ["nest"]⟩
def d_counts_in : Def := { n := 9, refs := [.val, .val], body := (.seq (.set 2 (.lst (.cons (.call "mixings_in" (.cons (.var 0) .nil)) .nil))) (.seq (.for_ (.tcons (.name 3) (.tcons (.name 4) .tnil)) .zip (.call "kept_in" (.cons (.var 0) (.cons (.var 1) .nil))) (.call "sizes_in" (.cons (.var 0) .nil)) (.seq (.set 5 (.op2 .mul (.lst (.cons (.con (.int 0)) .nil)) (.op2 .sub (.op2 .add (.op1 .len (.var 2)) (.var 4)) (.con (.int 1))))) (.seq (.for_ (.name 6) .val (.var 3) .nil (.for_ (.tcons (.name 7) (.tcons (.name 8) .tnil)) .enum (.var 2) .nil (.augIx 5 (.op2 .add (.var 7) (.var 6)) .add (.var 8)))) (.set 2 (.var 5))))) (.ret (.var 2)))) }
abbrev r_counts_in : Row := ⟨"counts_in", "counts_in", d_counts_in, topS 36, ["nest", "numbers"], ["nest", "numbers", "found", "some", "size", "more", "x", "at", "one"]⟩
def d_sum_counts : Def := { n := 2, refs := [.val, .val], body := (.seq (.drop (.call "need_numbers" (.cons (.var 0) (.cons (.var 1) .nil)))) (.ret (.op1 .tuple (.call "counts_in" (.cons (.var 0) (.cons (.var 1) .nil)))))) }
abbrev r_sum_counts : Row := ⟨"sum_counts", "sum_counts", d_sum_counts, topS 37, ["nest", "numbers"], ["nest", "numbers"]⟩
def d_rest_counts : Def := { n := 6, refs := [.val, .val, .val], body := (.seq (.drop (.call "need_numbers" (.cons (.var 0) (.cons (.var 1) .nil)))) (.seq (.ifs (.op1 .not (.call "is_in" (.cons (.var 2) (.cons (.con (.int 1)) (.cons (.glob "MOST_RESTS" (.int 9)) .nil))))) .raise .skip) (.seq (.set 3 (.op2 .mul (.lst (.cons (.con (.int 0)) .nil)) (.var 2))) (.seq (.for_ (.tcons (.name 4) (.tcons (.name 5) .tnil)) .enum (.call "counts_in" (.cons (.var 0) (.cons (.var 1) .nil))) .nil (.augIx 3 (.op2 .mod (.var 4) (.var 2)) .add (.var 5))) (.ret (.op1 .tuple (.var 3))))))) }
abbrev r_rest_counts : Row := ⟨"rest_counts", "rest_counts", d_rest_counts, topS 38, ["nest", "numbers", "many"], ["nest", "numbers", "many", "found", "total", "one"]⟩
def d_mean_sum : Def := { n := 8, refs := [.val, .val], body := (.seq (.drop (.call "need_numbers" (.cons (.var 0) (.cons (.var 1) .nil)))) (.seq (.set 2 (.call "counts_in" (.cons (.var 0) (.cons (.var 1) .nil)))) (.seq (.set 3 (.op1 .sum (.var 2))) (.seq (.ifs (.op2 .eq (.var 3) (.con (.int 0))) (.ret (.con .none)) .skip) (.seq (.set 4 (.call "reduced" (.cons (.op1 .sum (.comp (.op2 .mul (.var 5) (.var 6)) (.tcons (.name 5) (.tcons (.name 6) .tnil)) .enum (.var 2) .nil .nil)) (.cons (.var 3) .nil)))) (.seq (.set 7 (.call "reduced" (.cons (.op1 .sum (.comp (.op2 .mul (.op2 .mul (.var 5) (.var 5)) (.var 6)) (.tcons (.name 5) (.tcons (.name 6) .tnil)) .enum (.var 2) .nil .nil)) (.cons (.var 3) .nil)))) (.ret (.tup (.cons (.var 4) (.cons (.call "minus" (.cons (.var 7) (.cons (.call "times" (.cons (.var 4) (.cons (.var 4) .nil))) .nil))) .nil)))))))))) }
abbrev r_mean_sum : Row := ⟨"mean_sum", "mean_sum", d_mean_sum, topS 39, ["nest", "numbers"], ["nest", "numbers", "counts", "whole", "mean", "total", "one", "square"]⟩
def d_sums_on : Def := { n := 12, refs := [.val, .val, .val, .val], body := (.seq (.set 4 (.op1 .tuple (.op1 .sorted (.var 2)))) (.seq (.ifs (.op2 .eq (.call "ways_in" (.cons (.var 0) (.cons (.var 1) (.cons (.var 4) (.cons (.call "everyone" (.cons (.var 0) .nil)) .nil))))) (.con (.int 0))) (.ret (.lst .nil)) .skip) (.seq (.set 5 (.lst (.cons (.var 3) .nil))) (.seq (.for_ (.name 6) .range1 (.op1 .len (.var 0)) .nil (.ifs (.op2 .notin (.var 6) (.var 4)) (.seq (.set 7 (.comp (.var 8) (.name 8) .val (.var 4) .nil (.op2 .isin (.var 6) (.call "rooms_around" (.cons (.var 0) (.cons (.var 8) .nil)))))) (.seq (.set 9 (.op2 .ix (.call "sizes_in" (.cons (.var 0) .nil)) (.var 6))) (.seq (.set 10 (.comp (.var 8) (.name 8) .val (.op2 .ix (.var 1) (.var 6)) .nil (.chain .le .lt (.op1 .len (.var 7)) (.var 8) (.var 9)))) (.set 5 (.op1 .sortedset (.op2 .sums (.var 5) (.var 10))))))) .skip)) (.ret (.var 5)))))) }
abbrev r_sums_on : Row := ⟨"sums_on", "sums_on", d_sums_on, topS 40, ["nest", "numbers", "begun", "done"], ["nest", "numbers", "begun", "done", "state", "found", "k", "inside", "x", "size", "fits", "one"]⟩
def d_rooms_around : Def := { n := 4, refs := [.val, .val], body := (.seq (.setTup [2, 3] (.cons (.lst .nil) (.cons (.op2 .ix (.var 0) (.var 1)) .nil))) (.seq (.whl (.op2 .isnot (.var 3) (.con .none)) (.seq (.app 2 (.var 3)) (.set 3 (.op2 .ix (.var 0) (.var 3))))) (.ret (.var 2)))) }
abbrev r_rooms_around : Row := ⟨"rooms_around", "rooms_around", d_rooms_around, topS 41, ["nest", "door"], ["nest", "door", "found", "here"]⟩
def d_with_sum : Def := { n := 8, refs := [.val, .val, .val], body := (.seq (.drop (.call "need_numbers" (.cons (.var 0) (.cons (.var 1) .nil)))) (.seq (.ifs (.op1 .not (.call "is_in" (.cons (.var 2) (.cons (.con (.int 0)) (.cons (.glob "MOST_SUM" (.int 36)) .nil))))) .raise .skip) (.seq (.setTup [3, 4] (.cons (.lst .nil) (.cons (.con (.int 0)) .nil))) (.seq (.ifs (.op2 .notin (.var 2) (.call "sums_on" (.cons (.var 0) (.cons (.var 1) (.cons (.var 3) (.cons (.var 4) .nil)))))) (.ret (.con .none)) .skip) (.seq (.whl (.op2 .lt (.op1 .len (.var 3)) (.op1 .len (.var 0))) (.for_ (.name 5) .val (.call "ready_in" (.cons (.var 0) (.cons (.var 1) (.cons (.op1 .tuple (.op1 .sorted (.var 3))) .nil)))) .nil (.seq (.set 6 (.op1 .len (.comp (.var 7) (.name 7) .val (.var 3) .nil (.op2 .isin (.var 5) (.call "rooms_around" (.cons (.var 0) (.cons (.var 7) .nil))))))) (.ifs (.op2 .isin (.var 2) (.call "sums_on" (.cons (.var 0) (.cons (.var 1) (.cons (.op2 .add (.var 3) (.lst (.cons (.var 5) .nil))) (.cons (.op2 .add (.var 4) (.var 6)) .nil)))))) (.seq (.setTup [3, 4] (.cons (.op2 .add (.var 3) (.lst (.cons (.var 5) .nil))) (.cons (.op2 .add (.var 4) (.var 6)) .nil))) .brk) .skip)))) (.ret (.op1 .tuple (.var 3)))))))) }
abbrev r_with_sum : Row := ⟨"with_sum", "with_sum", d_with_sum, topS 42, ["nest", "numbers", "total"], ["nest", "numbers", "total", "begun", "done", "k", "rank", "x"]⟩
def d_states_behind : Def := { n := 5, refs := [.val, .val], body := (.seq (.set 2 (.lst (.cons (.tup .nil) .nil))) (.seq (.for_ (.name 3) .range1 (.op1 .len (.var 0)) .nil (.ifs (.op2 .isin (.var 3) (.var 1)) (.set 2 (.comp (.op2 .add (.var 4) (.tup (.cons (.var 3) .nil))) (.name 4) .val (.var 2) .nil .nil)) (.set 2 (.op2 .add (.var 2) (.comp (.op2 .add (.var 4) (.tup (.cons (.var 3) .nil))) (.name 4) .val (.var 2) .nil .nil))))) (.ret (.comp (.op1 .tuple (.op1 .sorted (.var 4))) (.name 4) .val (.var 2) .nil .nil)))) }
abbrev r_states_behind : Row := ⟨"states_behind", "states_behind", d_states_behind, topS 44, ["nest", "state"], ["nest", "state", "found", "k", "one"]⟩
def d_openings : Def := { n := 9, refs := [.val, .val, .val], body := (.seq (.setTup [3, 4] (.cons (.lst .nil) (.cons (.call "everyone" (.cons (.var 0) .nil)) .nil))) (.seq (.for_ (.name 5) .val (.call "states_behind" (.cons (.var 0) (.cons (.var 2) .nil))) .nil (.seq (.set 6 (.call "ways_in" (.cons (.var 0) (.cons (.var 1) (.cons (.var 2) (.cons (.var 5) .nil)))))) (.ifs (.op2 .gt (.var 6) (.con (.int 0))) (.for_ (.name 7) .val (.call "ready_in" (.cons (.var 0) (.cons (.var 1) (.cons (.var 5) .nil)))) .nil (.seq (.set 8 (.op2 .mul (.var 6) (.call "ways_in" (.cons (.var 0) (.cons (.var 1) (.cons (.op1 .tuple (.op1 .sorted (.op2 .add (.var 5) (.tup (.cons (.var 7) .nil))))) (.cons (.var 4) .nil))))))) (.ifs (.op2 .gt (.var 8) (.con (.int 0))) (.app 3 (.tup (.cons (.var 5) (.cons (.var 7) (.cons (.var 8) .nil))))) .skip))) .skip))) (.ret (.var 3)))) }
abbrev r_openings : Row := ⟨"openings", "openings", d_openings, topS 45, ["nest", "numbers", "state"], ["nest", "numbers", "state", "found", "last", "one", "there", "k", "ways"]⟩
def d_need_closed : Def := { n := 3, refs := [.val, .val, .val], body := (.ifs (.or_ (.op1 .not (.call "is_in" (.cons (.var 2) (.cons (.con (.int 0)) (.cons (.op2 .sub (.op1 .len (.var 0)) (.con (.int 1))) .nil))))) (.op2 .isin (.var 2) (.var 1))) .raise .skip) }
abbrev r_need_closed : Row := ⟨"need_closed", "need_closed", d_need_closed, topS 46, ["nest", "state", "door"], ["nest", "state", "door"]⟩
def d_time_chances : Def := { n := 9, refs := [.val, .val, .val, .val], body := (.seq (.drop (.call "need_both" (.cons (.var 0) (.cons (.var 1) (.cons (.var 2) .nil))))) (.seq (.drop (.call "need_closed" (.cons (.var 0) (.cons (.var 2) (.cons (.var 3) .nil))))) (.seq (.set 4 (.call "ways_in" (.cons (.var 0) (.cons (.var 1) (.cons (.var 2) (.cons (.call "everyone" (.cons (.var 0) .nil)) .nil)))))) (.seq (.ifs (.op2 .eq (.var 4) (.con (.int 0))) (.ret (.con .none)) .skip) (.seq (.set 5 (.op2 .mul (.lst (.cons (.con (.int 0)) .nil)) (.op1 .len (.var 0)))) (.seq (.for_ (.tcons (.name 6) (.tcons (.name 7) (.tcons (.name 8) .tnil))) .val (.call "openings" (.cons (.var 0) (.cons (.var 1) (.cons (.var 2) .nil)))) .nil (.ifs (.op2 .eq (.var 7) (.var 3)) (.augIx 5 (.op1 .len (.var 6)) .add (.var 8)) .skip)) (.ret (.op1 .tuple (.comp (.call "reduced" (.cons (.var 6) (.cons (.var 4) .nil))) (.name 6) .val (.var 5) .nil .nil))))))))) }
abbrev r_time_chances : Row := ⟨"time_chances", "time_chances", d_time_chances, topS 47, ["nest", "numbers", "state", "door"], ["nest", "numbers", "state", "door", "whole", "counts", "one", "k", "ways"]⟩
def d_mean_times : Def := { n := 8, refs := [.val, .val, .val], body := (.seq (.drop (.call "need_both" (.cons (.var 0) (.cons (.var 1) (.cons (.var 2) .nil))))) (.seq (.set 3 (.call "ways_in" (.cons (.var 0) (.cons (.var 1) (.cons (.var 2) (.cons (.call "everyone" (.cons (.var 0) .nil)) .nil)))))) (.seq (.ifs (.op2 .eq (.var 3) (.con (.int 0))) (.ret (.con .none)) .skip) (.seq (.set 4 (.comp (.ite (.op2 .isin (.var 5) (.var 2)) (.con .none) (.tup (.cons (.con (.int 0)) (.cons (.con (.int 1)) .nil)))) (.name 5) .range1 (.op1 .len (.var 0)) .nil .nil)) (.seq (.for_ (.tcons (.name 6) (.tcons (.name 5) (.tcons (.name 7) .tnil))) .val (.call "openings" (.cons (.var 0) (.cons (.var 1) (.cons (.var 2) .nil)))) .nil (.setIx 4 (.var 5) (.call "plus" (.cons (.op2 .ix (.var 4) (.var 5)) (.cons (.call "reduced" (.cons (.op2 .mul (.op1 .len (.var 6)) (.var 7)) (.cons (.var 3) .nil))) .nil))))) (.ret (.op1 .tuple (.var 4)))))))) }
abbrev r_mean_times : Row := ⟨"mean_times", "mean_times", d_mean_times, topS 48, ["nest", "numbers", "state"], ["nest", "numbers", "state", "whole", "found", "k", "one", "ways"]⟩
def d_ahead_chance : Def := { n := 10, refs := [.val, .val, .val, .val, .val], body := (.seq (.drop (.call "need_both" (.cons (.var 0) (.cons (.var 1) (.cons (.var 2) .nil))))) (.seq (.drop (.call "need_closed" (.cons (.var 0) (.cons (.var 2) (.cons (.var 3) .nil))))) (.seq (.drop (.call "need_closed" (.cons (.var 0) (.cons (.var 2) (.cons (.var 4) .nil))))) (.seq (.ifs (.op2 .eq (.var 3) (.var 4)) .raise .skip) (.seq (.set 5 (.call "ways_in" (.cons (.var 0) (.cons (.var 1) (.cons (.var 2) (.cons (.call "everyone" (.cons (.var 0) .nil)) .nil)))))) (.seq (.ifs (.op2 .eq (.var 5) (.con (.int 0))) (.ret (.con .none)) .skip) (.seq (.set 6 (.comp (.var 9) (.tcons (.name 7) (.tcons (.name 8) (.tcons (.name 9) .tnil))) .val (.call "openings" (.cons (.var 0) (.cons (.var 1) (.cons (.var 2) .nil)))) .nil (.and_ (.op2 .eq (.var 8) (.var 3)) (.op2 .notin (.var 4) (.var 7))))) (.ret (.call "reduced" (.cons (.op1 .sum (.var 6)) (.cons (.var 5) .nil))))))))))) }
abbrev r_ahead_chance : Row := ⟨"ahead_chance", "ahead_chance", d_ahead_chance, topS 49, ["nest", "numbers", "state", "one", "other"], ["nest", "numbers", "state", "one", "other", "whole", "some", "before", "k", "ways"]⟩
def d__law_alike : Def := { n := 3, refs := [.val, .val], body := (.seq (.ifs (.isin2 (.var 1) .tuple .list) (.seq (.ifs (.or_ (.op1 .not (.isin2 (.var 0) .tuple .list)) (.op2 .ne (.isin1 (.var 0) .list) (.isin1 (.var 1) .list))) (.ret (.con (.bool false))) .skip) (.seq (.ifs (.op2 .ne (.op1 .len (.var 0)) (.op1 .len (.var 1))) (.ret (.con (.bool false))) .skip) (.ret (.op2 .eq (.comp (.var 2) (.name 2) .range1 (.op1 .len (.var 1)) .nil (.op1 .not (.call "_law_alike" (.cons (.op2 .ix (.var 0) (.var 2)) (.cons (.op2 .ix (.var 1) (.var 2)) .nil))))) (.lst .nil))))) .skip) (.seq (.ifs (.or_ (.op2 .is_ (.var 1) (.con .none)) (.isin1 (.var 1) .str)) (.ret (.and_ (.op2 .eq (.var 0) (.var 1)) (.op2 .eq (.isin1 (.var 0) .str) (.isin1 (.var 1) .str)))) .skip) (.ret (.and_ (.isin1 (.var 0) .int) (.and_ (.op2 .eq (.isin1 (.var 0) .bool) (.isin1 (.var 1) .bool)) (.op2 .eq (.var 0) (.var 1))))))) }
abbrev r__law_alike : Row := ⟨"_law_alike", "_law_alike", d__law_alike, topS 51, ["_law_found", "_law_due"], ["_law_found", "_law_due", "_law_k"]⟩
def d_law : Def := { n := 8, refs := [.val], body := (.seq (.set 1 (.lst (.cons (.var 0) (.cons (.con (.int 0)) (.cons (.con (.int 7733)) (.cons (.con (.int 0)) .nil)))))) (.seq (.setTup [2, 3] (.cons (.tup (.cons (.con (.int 2)) (.cons (.con (.int 2)) (.cons (.con .none) .nil)))) (.cons (.tup (.cons (.tup (.cons (.con (.int 0)) .nil)) (.cons (.tup (.cons (.con (.int 0)) .nil)) (.cons (.tup (.cons (.con (.int 0)) (.cons (.con (.int 2)) .nil))) .nil)))) .nil))) (.seq (.set 4 (.lst (.cons (.call "time_chances" (.cons (.var 2) (.cons (.var 3) (.cons (.tup .nil) (.cons (.con (.int 2)) .nil))))) (.cons (.call "time_chances" (.cons (.var 2) (.cons (.var 3) (.cons (.tup .nil) (.cons (.con (.int 0)) .nil))))) .nil)))) (.seq (.set 4 (.op2 .add (.var 4) (.lst (.cons (.call "mean_times" (.cons (.var 2) (.cons (.var 3) (.cons (.tup .nil) .nil)))) (.cons (.call "ahead_chance" (.cons (.var 2) (.cons (.var 3) (.cons (.tup .nil) (.cons (.con (.int 0)) (.cons (.con (.int 2)) .nil)))))) .nil))))) (.seq (.set 5 (.lst (.cons (.tup (.cons (.tup (.cons (.con (.int 1)) (.cons (.con (.int 2)) .nil))) (.cons (.tup (.cons (.con (.int 0)) (.cons (.con (.int 1)) .nil))) (.cons (.tup (.cons (.con (.int 1)) (.cons (.con (.int 2)) .nil))) .nil)))) (.cons (.tup (.cons (.tup (.cons (.con (.int 1)) (.cons (.con (.int 4)) .nil))) (.cons (.tup (.cons (.con (.int 1)) (.cons (.con (.int 2)) .nil))) (.cons (.tup (.cons (.con (.int 1)) (.cons (.con (.int 4)) .nil))) .nil)))) (.cons (.tup (.cons (.tup (.cons (.con (.int 1)) (.cons (.con (.int 1)) .nil))) (.cons (.tup (.cons (.con (.int 1)) (.cons (.con (.int 1)) .nil))) (.cons (.tup (.cons (.con (.int 1)) (.cons (.con (.int 1)) .nil))) .nil)))) (.cons (.tup (.cons (.con (.int 1)) (.cons (.con (.int 2)) .nil))) .nil)))))) (.seq (.ifs (.op1 .not (.call "_law_alike" (.cons (.var 4) (.cons (.var 5) .nil)))) (.ret (.con (.bool false))) .skip) (.seq (.set 4 (.lst (.cons (.call "time_chances" (.cons (.var 2) (.cons (.var 3) (.cons (.tup (.cons (.con (.int 0)) .nil)) (.cons (.con (.int 2)) .nil))))) (.cons (.call "mean_times" (.cons (.var 2) (.cons (.var 3) (.cons (.tup (.cons (.con (.int 0)) .nil)) .nil)))) .nil)))) (.seq (.set 4 (.op2 .add (.var 4) (.lst (.cons (.call "ahead_chance" (.cons (.var 2) (.cons (.var 3) (.cons (.tup (.cons (.con (.int 0)) .nil)) (.cons (.con (.int 1)) (.cons (.con (.int 2)) .nil)))))) .nil)))) (.seq (.ifs (.op1 .not (.call "_law_alike" (.cons (.var 4) (.cons (.lst (.cons (.tup (.cons (.tup (.cons (.con (.int 0)) (.cons (.con (.int 1)) .nil))) (.cons (.tup (.cons (.con (.int 0)) (.cons (.con (.int 1)) .nil))) (.cons (.tup (.cons (.con (.int 1)) (.cons (.con (.int 1)) .nil))) .nil)))) (.cons (.tup (.cons (.con .none) (.cons (.tup (.cons (.con (.int 1)) (.cons (.con (.int 1)) .nil))) (.cons (.tup (.cons (.con (.int 2)) (.cons (.con (.int 1)) .nil))) .nil)))) (.cons (.tup (.cons (.con (.int 1)) (.cons (.con (.int 1)) .nil))) .nil)))) .nil)))) (.ret (.con (.bool false))) .skip) (.seq (.set 4 (.lst (.cons (.call "sum_counts" (.cons (.var 2) (.cons (.var 3) .nil))) (.cons (.call "rest_counts" (.cons (.var 2) (.cons (.var 3) (.cons (.con (.int 2)) .nil)))) (.cons (.call "mean_sum" (.cons (.var 2) (.cons (.var 3) .nil))) .nil))))) (.seq (.set 4 (.op2 .add (.var 4) (.lst (.cons (.call "with_sum" (.cons (.var 2) (.cons (.var 3) (.cons (.con (.int 2)) .nil)))) (.cons (.call "with_sum" (.cons (.var 2) (.cons (.var 3) (.cons (.con (.int 1)) .nil)))) .nil))))) (.seq (.ifs (.op1 .not (.call "_law_alike" (.cons (.var 4) (.cons (.lst (.cons (.tup (.cons (.con (.int 2)) (.cons (.con (.int 0)) (.cons (.con (.int 2)) .nil)))) (.cons (.tup (.cons (.con (.int 4)) (.cons (.con (.int 0)) .nil))) (.cons (.tup (.cons (.tup (.cons (.con (.int 1)) (.cons (.con (.int 1)) .nil))) (.cons (.tup (.cons (.con (.int 1)) (.cons (.con (.int 1)) .nil))) .nil))) (.cons (.tup (.cons (.con (.int 0)) (.cons (.con (.int 1)) (.cons (.con (.int 2)) .nil)))) (.cons (.con .none) .nil)))))) .nil)))) (.ret (.con (.bool false))) .skip) (.seq (.setTup [6, 7] (.cons (.tup (.cons (.con (.int 1)) (.cons (.con (.int 2)) (.cons (.con .none) .nil)))) (.cons (.tup (.cons (.tup (.cons (.con (.int 0)) .nil)) (.cons (.tup (.cons (.con (.int 0)) (.cons (.con (.int 1)) .nil))) (.cons (.tup (.cons (.con (.int 0)) (.cons (.con (.int 1)) (.cons (.con (.int 2)) .nil)))) .nil)))) .nil))) (.seq (.set 4 (.lst (.cons (.call "sum_counts" (.cons (.var 6) (.cons (.var 7) .nil))) (.cons (.call "rest_counts" (.cons (.var 6) (.cons (.var 7) (.cons (.con (.int 3)) .nil)))) (.cons (.call "mean_sum" (.cons (.var 6) (.cons (.var 7) .nil))) .nil))))) (.seq (.set 4 (.op2 .add (.var 4) (.lst (.cons (.call "time_chances" (.cons (.var 6) (.cons (.var 7) (.cons (.tup .nil) (.cons (.con (.int 0)) .nil))))) .nil)))) (.ret (.call "_law_alike" (.cons (.var 4) (.cons (.lst (.cons (.tup (.cons (.con (.int 1)) (.cons (.con (.int 2)) (.cons (.con (.int 2)) (.cons (.con (.int 1)) .nil))))) (.cons (.tup (.cons (.con (.int 2)) (.cons (.con (.int 2)) (.cons (.con (.int 2)) .nil)))) (.cons (.tup (.cons (.tup (.cons (.con (.int 3)) (.cons (.con (.int 2)) .nil))) (.cons (.tup (.cons (.con (.int 11)) (.cons (.con (.int 12)) .nil))) .nil))) (.cons (.op2 .mul (.tup (.cons (.tup (.cons (.con (.int 1)) (.cons (.con (.int 3)) .nil))) .nil)) (.con (.int 3))) .nil))))) .nil))))))))))))))))))) }
abbrev r_law : Row := ⟨"law", "law", d_law, topS 52, ["_law_script"], ["_law_script", "_law_row", "_law_nest", "_law_numbers", "_law_found", "_law_due", "_law_chain", "_law_free"]⟩
def rows : List Row := [r_is_in, r_gcd, r_reduced, r_plus, r_minus, r_times, r_need_nest, r_is_set, r_need_numbers, r_around_in, r_inside_in, r_sizes_in, r_product, r_mixings_in, r_kept_in, r_need_state, r_need_both, r_count_in, r_ready_in, r_ways_in, r_everyone, r_counts_in, r_sum_counts, r_rest_counts, r_mean_sum, r_sums_on, r_rooms_around, r_with_sum, r_states_behind, r_openings, r_need_closed, r_time_chances, r_mean_times, r_ahead_chance, r__law_alike, r_law]
def cst : List (Str × D) := [("MOST_DOORS", (.int 9)), ("MOST_NUMBER", (.int 8)), ("MOST_RESTS", (.int 9)), ("MOST_SUM", (.int 36))]
def blt : List Str := ["len", "tuple", "list", "sorted", "sum", "abs", "int", "str", "isinstance", "bool", "range", "enumerate", "zip", "set"]
end Lk33
namespace Lk33
open PV PySem PySem.Spec PyProof.Rows L2
theorem ck : ∀ r ∈ rows, ckD (giOf rows cst blt) r.N r.ps r.st r.d = true := all_of (p := fun (r : PV.Row) => ckD (giOf rows cst blt) r.N r.ps r.st r.d) (by decide +kernel)
theorem b_is_in : BindR r_is_in := fun _ _ _ _ _ _ us hl => match us, hl with | [_, _, _], _ => rfl
theorem b_gcd : BindR r_gcd := fun _ _ _ _ _ _ us hl => match us, hl with | [_, _], _ => rfl
theorem b_reduced : BindR r_reduced := fun _ _ _ _ _ _ us hl => match us, hl with | [_, _], _ => rfl
theorem b_plus : BindR r_plus := fun _ _ _ _ _ _ us hl => match us, hl with | [_, _], _ => rfl
theorem b_minus : BindR r_minus := fun _ _ _ _ _ _ us hl => match us, hl with | [_, _], _ => rfl
theorem b_times : BindR r_times := fun _ _ _ _ _ _ us hl => match us, hl with | [_, _], _ => rfl
theorem b_need_nest : BindR r_need_nest := fun _ _ _ _ _ _ us hl => match us, hl with | [_], _ => rfl
theorem b_is_set : BindR r_is_set := fun _ _ _ _ _ _ us hl => match us, hl with | [_], _ => rfl
theorem b_need_numbers : BindR r_need_numbers := fun _ _ _ _ _ _ us hl => match us, hl with | [_, _], _ => rfl
theorem b_around_in : BindR r_around_in := fun _ _ _ _ _ _ us hl => match us, hl with | [_, _], _ => rfl
theorem b_inside_in : BindR r_inside_in := fun _ _ _ _ _ _ us hl => match us, hl with | [_, _], _ => rfl
theorem b_sizes_in : BindR r_sizes_in := fun _ _ _ _ _ _ us hl => match us, hl with | [_], _ => rfl
theorem b_product : BindR r_product := fun _ _ _ _ _ _ us hl => match us, hl with | [_], _ => rfl
theorem b_mixings_in : BindR r_mixings_in := fun _ _ _ _ _ _ us hl => match us, hl with | [_], _ => rfl
theorem b_kept_in : BindR r_kept_in := fun _ _ _ _ _ _ us hl => match us, hl with | [_, _], _ => rfl
theorem b_need_state : BindR r_need_state := fun _ _ _ _ _ _ us hl => match us, hl with | [_, _], _ => rfl
theorem b_need_both : BindR r_need_both := fun _ _ _ _ _ _ us hl => match us, hl with | [_, _, _], _ => rfl
theorem b_count_in : BindR r_count_in := fun _ _ _ _ _ _ us hl => match us, hl with | [_, _, _], _ => rfl
theorem b_ready_in : BindR r_ready_in := fun _ _ _ _ _ _ us hl => match us, hl with | [_, _, _], _ => rfl
theorem b_ways_in : BindR r_ways_in := fun _ _ _ _ _ _ us hl => match us, hl with | [_, _, _, _], _ => rfl
theorem b_everyone : BindR r_everyone := fun _ _ _ _ _ _ us hl => match us, hl with | [_], _ => rfl
theorem b_counts_in : BindR r_counts_in := fun _ _ _ _ _ _ us hl => match us, hl with | [_, _], _ => rfl
theorem b_sum_counts : BindR r_sum_counts := fun _ _ _ _ _ _ us hl => match us, hl with | [_, _], _ => rfl
theorem b_rest_counts : BindR r_rest_counts := fun _ _ _ _ _ _ us hl => match us, hl with | [_, _, _], _ => rfl
theorem b_mean_sum : BindR r_mean_sum := fun _ _ _ _ _ _ us hl => match us, hl with | [_, _], _ => rfl
theorem b_sums_on : BindR r_sums_on := fun _ _ _ _ _ _ us hl => match us, hl with | [_, _, _, _], _ => rfl
theorem b_rooms_around : BindR r_rooms_around := fun _ _ _ _ _ _ us hl => match us, hl with | [_, _], _ => rfl
theorem b_with_sum : BindR r_with_sum := fun _ _ _ _ _ _ us hl => match us, hl with | [_, _, _], _ => rfl
theorem b_states_behind : BindR r_states_behind := fun _ _ _ _ _ _ us hl => match us, hl with | [_, _], _ => rfl
theorem b_openings : BindR r_openings := fun _ _ _ _ _ _ us hl => match us, hl with | [_, _, _], _ => rfl
theorem b_need_closed : BindR r_need_closed := fun _ _ _ _ _ _ us hl => match us, hl with | [_, _, _], _ => rfl
theorem b_time_chances : BindR r_time_chances := fun _ _ _ _ _ _ us hl => match us, hl with | [_, _, _, _], _ => rfl
theorem b_mean_times : BindR r_mean_times := fun _ _ _ _ _ _ us hl => match us, hl with | [_, _, _], _ => rfl
theorem b_ahead_chance : BindR r_ahead_chance := fun _ _ _ _ _ _ us hl => match us, hl with | [_, _, _, _, _], _ => rfl
theorem b__law_alike : BindR r__law_alike := fun _ _ _ _ _ _ us hl => match us, hl with | [_, _], _ => rfl
theorem b_law : BindR r_law := fun _ _ _ _ _ _ us hl => match us, hl with | [_], _ => rfl
theorem bd : ∀ r ∈ rows, BindR r := binds_cons b_is_in (binds_cons b_gcd (binds_cons b_reduced (binds_cons b_plus (binds_cons b_minus (binds_cons b_times (binds_cons b_need_nest (binds_cons b_is_set (binds_cons b_need_numbers (binds_cons b_around_in (binds_cons b_inside_in (binds_cons b_sizes_in (binds_cons b_product (binds_cons b_mixings_in (binds_cons b_kept_in (binds_cons b_need_state (binds_cons b_need_both (binds_cons b_count_in (binds_cons b_ready_in (binds_cons b_ways_in (binds_cons b_everyone (binds_cons b_counts_in (binds_cons b_sum_counts (binds_cons b_rest_counts (binds_cons b_mean_sum (binds_cons b_sums_on (binds_cons b_rooms_around (binds_cons b_with_sum (binds_cons b_states_behind (binds_cons b_openings (binds_cons b_need_closed (binds_cons b_time_chances (binds_cons b_mean_times (binds_cons b_ahead_chance (binds_cons b__law_alike (binds_cons b_law (binds_nil))))))))))))))))))))))))))))))))))))
end Lk33
namespace Lk33
open PV PySem
theorem onelaw : ∀ r ∈ rows, r.f = "law" → r.ps = ([("_law_script" : Str)] : List Str) := fun r h e => by
  have q := all_of (l := rows) (p := fun (r : PV.Row) => !(r.f == "law") || decide (r.ps = (["_law_script"] : List Str))) (by decide +kernel) r h
  have e2 : (r.f == "law") = true := beq_iff_eq.mpr e
  rw [e2] at q
  exact of_decide_eq_true q
end Lk33
namespace Lk33
open PV PySem
theorem law : ∀ ns : List Int, ns.length ≤ 63 → callN (rowP rows) 60 "law" [.d (script ns)] = some (.d (.bool true), []) := fun ns _ => by kernel_rfl
end Lk33
open PySem PySem.W PyProof.Rows
set_option maxHeartbeats 0 in
theorem PySem.Challenge.cw_countdoors_k33_known_times_and_sums_holds : PySem.Challenge.rw_countdoors_k33_known_times_and_sums.Holds := by
  w_on; o_law; k_head; (case hw => w_witness2)
  k_fill
  refine L2.walk_of (l := PySem.Challenge.rw_countdoors_k33_known_times_and_sums) (n := 63) (k := 60) (x := "_law_script") (CX := fun _ => L2.CX0) (sp := fun w => PV.spL _) rfl (by decide) rfl ⟨rfl, by decide, by decide⟩ (fun w h Y => PySem.W.kIn_of Y) ?F (fun _ _ a ns hl _ hS => ⟨a, ns, rfl, hS, hl, fun _ => rfl⟩) (fun _ _ _ _ _ h => h)
  case F =>
    intro w mg fa h KX G hmg
    refine' PV.law_gen (rows := Lk33.rows) (cst := Lk33.cst) (blt := Lk33.blt) KX G hmg (PV.facts_cons (PV.fact_mk (r := Lk33.r_is_in) ?a0 ?l0 ?c0 ?k0) (PV.facts_cons (PV.fact_mk (r := Lk33.r_gcd) ?a1 ?l1 ?c1 ?k1) (PV.facts_cons (PV.fact_mk (r := Lk33.r_reduced) ?a2 ?l2 ?c2 ?k2) (PV.facts_cons (PV.fact_mk (r := Lk33.r_plus) ?a3 ?l3 ?c3 ?k3) (PV.facts_cons (PV.fact_mk (r := Lk33.r_minus) ?a4 ?l4 ?c4 ?k4) (PV.facts_cons (PV.fact_mk (r := Lk33.r_times) ?a5 ?l5 ?c5 ?k5) (PV.facts_cons (PV.fact_mk (r := Lk33.r_need_nest) ?a6 ?l6 ?c6 ?k6) (PV.facts_cons (PV.fact_mk (r := Lk33.r_is_set) ?a7 ?l7 ?c7 ?k7) (PV.facts_cons (PV.fact_mk (r := Lk33.r_need_numbers) ?a8 ?l8 ?c8 ?k8) (PV.facts_cons (PV.fact_mk (r := Lk33.r_around_in) ?a9 ?l9 ?c9 ?k9) (PV.facts_cons (PV.fact_mk (r := Lk33.r_inside_in) ?a10 ?l10 ?c10 ?k10) (PV.facts_cons (PV.fact_mk (r := Lk33.r_sizes_in) ?a11 ?l11 ?c11 ?k11) (PV.facts_cons (PV.fact_mk (r := Lk33.r_product) ?a12 ?l12 ?c12 ?k12) (PV.facts_cons (PV.fact_mk (r := Lk33.r_mixings_in) ?a13 ?l13 ?c13 ?k13) (PV.facts_cons (PV.fact_mk (r := Lk33.r_kept_in) ?a14 ?l14 ?c14 ?k14) (PV.facts_cons (PV.fact_mk (r := Lk33.r_need_state) ?a15 ?l15 ?c15 ?k15) (PV.facts_cons (PV.fact_mk (r := Lk33.r_need_both) ?a16 ?l16 ?c16 ?k16) (PV.facts_cons (PV.fact_mk (r := Lk33.r_count_in) ?a17 ?l17 ?c17 ?k17) (PV.facts_cons (PV.fact_mk (r := Lk33.r_ready_in) ?a18 ?l18 ?c18 ?k18) (PV.facts_cons (PV.fact_mk (r := Lk33.r_ways_in) ?a19 ?l19 ?c19 ?k19) (PV.facts_cons (PV.fact_mk (r := Lk33.r_everyone) ?a20 ?l20 ?c20 ?k20) (PV.facts_cons (PV.fact_mk (r := Lk33.r_counts_in) ?a21 ?l21 ?c21 ?k21) (PV.facts_cons (PV.fact_mk (r := Lk33.r_sum_counts) ?a22 ?l22 ?c22 ?k22) (PV.facts_cons (PV.fact_mk (r := Lk33.r_rest_counts) ?a23 ?l23 ?c23 ?k23) (PV.facts_cons (PV.fact_mk (r := Lk33.r_mean_sum) ?a24 ?l24 ?c24 ?k24) (PV.facts_cons (PV.fact_mk (r := Lk33.r_sums_on) ?a25 ?l25 ?c25 ?k25) (PV.facts_cons (PV.fact_mk (r := Lk33.r_rooms_around) ?a26 ?l26 ?c26 ?k26) (PV.facts_cons (PV.fact_mk (r := Lk33.r_with_sum) ?a27 ?l27 ?c27 ?k27) (PV.facts_cons (PV.fact_mk (r := Lk33.r_states_behind) ?a28 ?l28 ?c28 ?k28) (PV.facts_cons (PV.fact_mk (r := Lk33.r_openings) ?a29 ?l29 ?c29 ?k29) (PV.facts_cons (PV.fact_mk (r := Lk33.r_need_closed) ?a30 ?l30 ?c30 ?k30) (PV.facts_cons (PV.fact_mk (r := Lk33.r_time_chances) ?a31 ?l31 ?c31 ?k31) (PV.facts_cons (PV.fact_mk (r := Lk33.r_mean_times) ?a32 ?l32 ?c32 ?k32) (PV.facts_cons (PV.fact_mk (r := Lk33.r_ahead_chance) ?a33 ?l33 ?c33 ?k33) (PV.facts_cons (PV.fact_mk (r := Lk33.r__law_alike) ?a34 ?l34 ?c34 ?k34) (PV.facts_cons (PV.fact_mk (r := Lk33.r_law) ?a35 ?l35 ?c35 ?k35) (PV.facts_nil))))))))))))))))))))))))))))))))))))) Lk33.bd (PV.blt_cons ?z0 (PV.blt_cons ?z1 (PV.blt_cons ?z2 (PV.blt_cons ?z3 (PV.blt_cons ?z4 (PV.blt_cons ?z5 (PV.blt_cons ?z6 (PV.blt_cons ?z7 (PV.blt_cons ?z8 (PV.blt_cons ?z9 (PV.blt_cons ?z10 (PV.blt_cons ?z11 (PV.blt_cons ?z12 (PV.blt_cons ?z13 (PV.blt_nil))))))))))))))) (PV.cst_int ?y0 (PV.cst_int ?y1 (PV.cst_int ?y2 (PV.cst_int ?y3 (PV.cst_nil))))) Lk33.ck (dl := Lk33.d_law) rfl rfl "_law_script" Lk33.onelaw Lk33.law
    (case a0 => k_is)
    (case l0 => k_is)
    (case c0 => k_is)
    (case k0 => k_is)
    (case a1 => k_is)
    (case l1 => k_is)
    (case c1 => k_is)
    (case k1 => k_is)
    (case a2 => k_is)
    (case l2 => k_is)
    (case c2 => k_is)
    (case k2 => k_is)
    (case a3 => k_is)
    (case l3 => k_is)
    (case c3 => k_is)
    (case k3 => k_is)
    (case a4 => k_is)
    (case l4 => k_is)
    (case c4 => k_is)
    (case k4 => k_is)
    (case a5 => k_is)
    (case l5 => k_is)
    (case c5 => k_is)
    (case k5 => k_is)
    (case a6 => k_is)
    (case l6 => k_is)
    (case c6 => k_is)
    (case k6 => k_is)
    (case a7 => k_is)
    (case l7 => k_is)
    (case c7 => k_is)
    (case k7 => k_is)
    (case a8 => k_is)
    (case l8 => k_is)
    (case c8 => k_is)
    (case k8 => k_is)
    (case a9 => k_is)
    (case l9 => k_is)
    (case c9 => k_is)
    (case k9 => k_is)
    (case a10 => k_is)
    (case l10 => k_is)
    (case c10 => k_is)
    (case k10 => k_is)
    (case a11 => k_is)
    (case l11 => k_is)
    (case c11 => k_is)
    (case k11 => k_is)
    (case a12 => k_is)
    (case l12 => k_is)
    (case c12 => k_is)
    (case k12 => k_is)
    (case a13 => k_is)
    (case l13 => k_is)
    (case c13 => k_is)
    (case k13 => k_is)
    (case a14 => k_is)
    (case l14 => k_is)
    (case c14 => k_is)
    (case k14 => k_is)
    (case a15 => k_is)
    (case l15 => k_is)
    (case c15 => k_is)
    (case k15 => k_is)
    (case a16 => k_is)
    (case l16 => k_is)
    (case c16 => k_is)
    (case k16 => k_is)
    (case a17 => k_is)
    (case l17 => k_is)
    (case c17 => k_is)
    (case k17 => k_is)
    (case a18 => k_is)
    (case l18 => k_is)
    (case c18 => k_is)
    (case k18 => k_is)
    (case a19 => k_is)
    (case l19 => k_is)
    (case c19 => k_is)
    (case k19 => k_is)
    (case a20 => k_is)
    (case l20 => k_is)
    (case c20 => k_is)
    (case k20 => k_is)
    (case a21 => k_is)
    (case l21 => k_is)
    (case c21 => k_is)
    (case k21 => k_is)
    (case a22 => k_is)
    (case l22 => k_is)
    (case c22 => k_is)
    (case k22 => k_is)
    (case a23 => k_is)
    (case l23 => k_is)
    (case c23 => k_is)
    (case k23 => k_is)
    (case a24 => k_is)
    (case l24 => k_is)
    (case c24 => k_is)
    (case k24 => k_is)
    (case a25 => k_is)
    (case l25 => k_is)
    (case c25 => k_is)
    (case k25 => k_is)
    (case a26 => k_is)
    (case l26 => k_is)
    (case c26 => k_is)
    (case k26 => k_is)
    (case a27 => k_is)
    (case l27 => k_is)
    (case c27 => k_is)
    (case k27 => k_is)
    (case a28 => k_is)
    (case l28 => k_is)
    (case c28 => k_is)
    (case k28 => k_is)
    (case a29 => k_is)
    (case l29 => k_is)
    (case c29 => k_is)
    (case k29 => k_is)
    (case a30 => k_is)
    (case l30 => k_is)
    (case c30 => k_is)
    (case k30 => k_is)
    (case a31 => k_is)
    (case l31 => k_is)
    (case c31 => k_is)
    (case k31 => k_is)
    (case a32 => k_is)
    (case l32 => k_is)
    (case c32 => k_is)
    (case k32 => k_is)
    (case a33 => k_is)
    (case l33 => k_is)
    (case c33 => k_is)
    (case k33 => k_is)
    (case a34 => k_is)
    (case l34 => k_is)
    (case c34 => k_is)
    (case k34 => k_is)
    (case a35 => k_is)
    (case l35 => k_is)
    (case c35 => k_is)
    (case k35 => k_is)
    (case z0 => k_is)
    (case z1 => k_is)
    (case z2 => k_is)
    (case z3 => k_is)
    (case z4 => k_is)
    (case z5 => k_is)
    (case z6 => k_is)
    (case z7 => k_is)
    (case z8 => k_is)
    (case z9 => k_is)
    (case z10 => k_is)
    (case z11 => k_is)
    (case z12 => k_is)
    (case z13 => k_is)
    (case y0 => k_is)
    (case y1 => k_is)
    (case y2 => k_is)
    (case y3 => k_is)
