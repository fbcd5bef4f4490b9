import PyProof.Rows.All
import Wide.All
import OpenK.AllK
import Wide.FinOn
import PyProof.ReprReads
import HandS.Base
import HandS.Call
import HandS.List
import HandS.Comp
import HandS.Ends
import HandS.Exc
import HandS.Dict
import HandS.Iter
import HandS.Text
import HandS.Words
import HandS.WordsList
import HandS.WordsExc
import HandS.Sort
import HandS.SortInts
import HandS.SortKw
import HandS.SetFor
import HandS.TupAny
import HandS.TupMul
import HandS.Wide
import HandS.Defaults
import HandS.Lambda
import HandS.More
import HandS.Deep
import HandS.Style
import HandS.WideBits
import KE.SortData
import KE.DataMinMax
import PyProof.ReprLen
import PyProof.StrLawsRepr
import HandS.Flow
import KE.KExcSuper
import HandS.ExcInit
import HandS.HeadWalk
import HandS.ExcField
import HandS.ExcIs
import KE.KExcIs
import PyProof.Rows.CountFlat
import HandS.HeadHook1
import HandS.IsInst
import KE.KRevSl
import HandS.Conv
import PyProof.FactsAll.list_3
import KE.GoesMore
import PyProof.EnumMake
import PyProof.Draws
import PyProof.TupleIter
import HandS.Zip
import HandS.Strs
import KE.GoesEnum
import PyProof.Rows.TupDisplay
import HandS.Set
import HandS.DictComp
import KE.KDictList
import KE.DataMinKey
import HandS.Nested
import KE.SortKeyHeap
import HandS.ExcValue
import HandS.EndBits
import HandS.HeadHook2
import HandS.HeadEnd
import HandS.HeadHook4
import HandS.NestedK
import HandS.Head0
import HandS.Head1
import HandS.Head2
import PySem.Challenge.RW_shadestrings_k82_whole_floors
set_option Elab.async false
set_option linter.all false
set_option maxRecDepth 100000
set_option maxHeartbeats 40000000
/-! Mini: a small language of plain data for a law's defs; what its terms give. -/
namespace Mn
open PySem (Str)

/-! ### data -/
inductive D where
  | non | bl (b : Bool) | int (i : Int) | str (s : Str)
  | tup (xs : List D) | lst (xs : List D) | frl (xs : List D) | dI (ks : List Int) (vs : List D) | dT (ks : List (List Int)) (vs : List D) | rng (lo hi : Int)
  | rep (d : D) | cell (n : Nat) | fn (n : Nat) (cs : List D)
  deriving Inhabited

mutual
/-- the very same data -/
def D.same : D → D → Bool
  | .non, .non => true
  | .bl a, .bl b => a == b
  | .int i, .int j => i == j
  | .str x, .str y => decide (x = y)
  | .tup xs, .tup ys => D.sameL xs ys
  | .lst xs, .lst ys => D.sameL xs ys
  | .rep a, .rep b => D.same a b
  | _, _ => false
def D.sameL : List D → List D → Bool
  | [], [] => true
  | x :: xs, y :: ys => D.same x y && D.sameL xs ys
  | _, _ => false
end
mutual
/-- Python's == of plain data -/
def D.eqv : D → D → Bool
  | .non, .non => true
  | .bl a, .bl b => a == b
  | .bl a, .int j => (if a then 1 else 0) == j
  | .int i, .bl b => i == (if b then 1 else 0)
  | .int i, .int j => i == j
  | .str x, .str y => x == y
  | .tup xs, .tup ys => D.eqvL xs ys
  | .lst xs, .lst ys => D.eqvL xs ys
  | _, _ => false
def D.eqvL : List D → List D → Bool
  | [], [] => true
  | x :: xs, y :: ys => D.eqv x y && D.eqvL xs ys
  | _, _ => false
end
mutual
/-- plain data, nested so deep at most -/
def D.plain : Nat → D → Bool
  | _, .non => true
  | _, .bl _ => true
  | _, .int _ => true
  | _, .str x => x.cps.all fun c => decide (c < 1114112)
  | n, .tup xs => D.plainL n xs
  | n, .lst xs => D.plainL n xs
  | _, _ => false
def D.plainL : Nat → List D → Bool
  | 0, [] => true
  | 0, _ :: _ => false
  | _ + 1, [] => true
  | n + 1, x :: xs => D.plain n x && D.plainL (n + 1) xs
end
end Mn

namespace Mn
open PySem (Str)

/-! ### terms -/
inductive Bop where | add | sub | mul | fdiv | mod | pow | shr
  deriving DecidableEq
inductive Cop where | lt | le | gt | ge | eq | ne | isin | notin | is | isnot
  deriving DecidableEq
inductive BI where
  | abs | len | int | sum | max | min | max2 | min2 | divmod | tuple | list | sorted | sortedr | repr | sortset | lenset | all | any | dict | listv
  deriving DecidableEq
inductive Mth where | count | get | index | tindex
  deriving DecidableEq
/-- a target: a name, a tuple of names -/
inductive Tg where | nm (i : Nat) | tp (is : List Nat)
  deriving DecidableEq
mutual
inductive E where
  | no | non | bl (b : Bool) | int (i : Int) | str (s : Str)
  | var (i : Nat) | own (i : Nat) | gint (i : Int) | gfn (n : Nat)
  | bin (op : Bop) (a b : E) | neg (a : E) | not (a : E)
  | cmp (op : Cop) (a b : E) | chain (o p : Cop) (a b c : E)
  | and (a b : E) | or (a b : E) | ife (c a b : E)
  | call (n : Nat) (es : Es) | callk (n : Nat) (es ks : Es) (perm : List Nat) | calll (i : Nat) (es : Es)
  | bi (f : BI) (es : Es) | isi (t : String) (a : E) | mt (m : Mth) (a : E) (es : Es)
  | tup (es : Es) | lst (es : Es) | cell (es : Es) | dnew (t : Bool) | ddisp (t : Bool) (k v : E)
  | lc (e : E) (tg : Tg) (it : It) | lcif (e : E) (tg : Tg) (it : It) (c : E) | dc (k v : E) (tg : Tg) (it : It)
  | ix (a i : E) | slab (a lo hi : E) | sla (a lo : E) | slb (a hi : E) | rev (a : E)
  | lrg (t : Bool) (a b : E) | lrg1 (t : Bool) (a : E)
  | sortk (i : Nat) (cap : List Nat) (k : E) (a : E) | mink (i : Nat) (cap : List Nat) (k : E) (a : E) | rgv1 (a : E) | rgv2 (a b : E) | lamv (n : Nat) (cap : List Nat) | sset (a : E) | heard (tb : List (Nat × Str × Bool)) (e : E) | vals (a : E)
inductive Es where
  | nil | cons (e : E) (es : Es)
inductive It where
  | val (e : E) | rng1 (a : E) | rng2 (a b : E) | rngd (a b : E) | enum (a : E) | zip (a b : E) | zipm (a b : E) | items (a : E)
end
mutual
inductive S where
  | no | set (i : Nat) (e : E) | own (i : Nat) (e : E) | tset (is : List Nat) (e : E) | par (i : Nat) (o : Bool) (a : E) (j : Nat) (p : Bool) (b : E) | multi (ts : List (Nat × Bool)) (es : Es) | nest (ts : List Tg) (es : Es)
  | ixset (i : Nat) (k v : E) | ixtup (i : Nat) (k : E) (j : Nat) (e : E) | app (i : Nat) (e : E) | ext (i : Nat) (e : E) | ex (e : E)
  | ite (c : E) (a b : Ss) | for (tg : Tg) (it : It) (b : Ss) | while (c : E) (b : Ss)
  | ret (e : E) | retn | pass | raise (c : Nat) (e : E) | raise0 (c : Nat) | frz (i : Nat) | drop (i : Nat)
inductive Ss where
  | nil | cons (s : S) (r : Ss)
end
structure Fn where
  np : Nat
  ns : Nat
  body : Ss

/-! ### what they give -/
/-- a changing object -/
inductive Ob where
  | lst (xs : List D)
abbrev Hq := List Ob
inductive R (α : Type) where
  | ok (a : α) (h : Hq) | exc (c : Nat) (d : D) (h : Hq) | bad
def R.bind {α β : Type} : R α → (α → Hq → R β) → R β
  | .ok a h, f => f a h
  | .exc c d h, _ => .exc c d h
  | .bad, _ => .bad
def R.nox {α : Type} : R α → R α
  | .ok a h => .ok a h
  | _ => .bad
def liftO {α : Type} (o : Option α) (h : Hq) : R α := match o with
  | some a => .ok a h
  | none => .bad
/-- a slot: empty, a value that stays as it is, a list or dict of one's own -/
inductive Sl where
  | no | fz (d : D) | ow (d : D)
abbrev Env := List Sl

def truthy : D → Option Bool
  | .non => some false
  | .bl b => some b
  | .int i => some (i != 0)
  | .tup xs => some (!xs.isEmpty)
  | .lst xs => some (!xs.isEmpty)
  | _ => none
def small (i : Int) : Bool := decide (-(2 ^ 64) < i) && decide (i < 2 ^ 64)
def bin : Bop → D → D → Option D
  | .add, .int i, .int j => some (.int (i + j))
  | .add, .tup xs, .tup ys => if xs.length + ys.length ≤ 16777216 then some (.tup (xs ++ ys)) else none
  | .add, .lst xs, .lst ys => if xs.length + ys.length ≤ 16777216 then some (.lst (xs ++ ys)) else none
  | .sub, .int i, .int j => some (.int (i - j))
  | .mul, .int i, .int j => if small i || small j then some (.int (i * j)) else none
  | .mul, .tup xs, .int k => if xs.length ≤ 1000 ∧ -1000 ≤ k ∧ k ≤ 1000 then some (.tup (List.replicate k.toNat xs).flatten) else none
  | .mul, .lst xs, .int k => if xs.length ≤ 1000 ∧ -1000 ≤ k ∧ k ≤ 1000 then some (.lst (List.replicate k.toNat xs).flatten) else none
  | .fdiv, .int i, .int j => if 0 < j ∧ j.natAbs.log2 < 9000 then some (.int (i / j)) else none
  | .mod, .int i, .int j => if 0 < j then some (.int (i % j)) else none
  | .pow, .int i, .int j => if 0 ≤ j ∧ j ≤ 1000000 ∧ i.natAbs < 2 ^ 64 then some (.int (i ^ j.toNat)) else none
  | .shr, .int i, .int j => if 0 ≤ j then some (.int (i / 2 ^ j.toNat)) else none
  | _, _, _ => none
def flat : D → Bool
  | .non => true | .bl _ => true | .int _ => true | .str _ => true
  | _ => false
def intOf : D → Option Int
  | .int i => some i
  | _ => none
def intsOf : List D → Option (List Int)
  | [] => some []
  | .int i :: r => (intsOf r).map (i :: ·)
  | _ :: _ => none
def keyT : D → Option (List Int)
  | .tup xs => intsOf xs
  | _ => none
/-- a dict's value of a key -/
def lkp {κ : Type} [DecidableEq κ] (k : κ) : List κ → List D → Option D
  | a :: ks, v :: vs => if a = k then some v else lkp k ks vs
  | _, _ => none
/-- the value of a key, if any -/
def lookD : D → D → Option (Option D)
  | .dI ks vs, .int k => some (lkp k ks vs)
  | .dT ks vs, k => (keyT k).map fun k => lkp k ks vs
  | _, _ => none
def isin (x : D) : D → Option Bool
  | .tup xs => if flat x && xs.all flat then some (xs.any fun y => D.eqv y x) else none
  | .lst xs => if D.plain 60 x && D.plainL 60 xs then some (xs.any fun y => D.eqv y x) else none
  | .dI ks vs => (lookD (.dI ks vs) x).map (·.isSome)
  | .dT ks vs => (lookD (.dT ks vs) x).map (·.isSome)
  | _ => none
def range1 (n : Int) : List D := (List.range n.toNat).map fun k => .int (k : Nat)
def range2 (a b : Int) : List D := (List.range (b - a).toNat).map fun k => .int (a + (k : Nat))
/-- what a walk over it gives -/
def itOf : D → Option (List D)
  | .tup xs => some xs
  | .lst xs => some xs
  | .dI ks _ => some (ks.map .int)
  | .dT ks _ => some (ks.map fun k => .tup (k.map .int))
  | .rng a b => some (range2 a b)
  | _ => none
def eqD : D → D → Option Bool
  | .int i, .int j => some (decide (i = j))
  | .rep a, .rep b => if D.same a b then some true else none
  | a, b => if D.plain 60 a && D.plain 60 b then some (D.eqv a b) else none
def isNon : D → Bool
  | .non => true
  | _ => false
def cmp : Cop → D → D → Option D
  | .lt, .int i, .int j => some (.bl (decide (i < j)))
  | .le, .int i, .int j => some (.bl (decide (i ≤ j)))
  | .gt, .int i, .int j => some (.bl (decide (j < i)))
  | .ge, .int i, .int j => some (.bl (decide (j ≤ i)))
  | .eq, a, b => (eqD a b).map .bl
  | .ne, a, b => (eqD a b).map fun c => .bl (!c)
  | .isin, a, b => (isin a b).map .bl
  | .notin, a, b => (isin a b).map fun c => .bl (!c)
  | .is, a, .non => some (.bl (isNon a))
  | .isnot, a, .non => some (.bl (!isNon a))
  | _, _, _ => none
def blsOf : List D → Option (List Bool)
  | [] => some []
  | .bl i :: r => (blsOf r).map (i :: ·)
  | _ :: _ => none
def lstOf : D → Option (List D)
  | .lst xs => some xs
  | _ => none
/-- the items of a list, a tuple -/
def seqOf : D → Option (List D)
  | .tup xs => some xs
  | .lst xs => some xs
  | _ => none
def insI (x : Int) : List Int → List Int
  | [] => [x]
  | y :: l => if x ≤ y then x :: y :: l else y :: insI x l
def sortI : List Int → List Int
  | [] => []
  | x :: l => insI x (sortI l)
mutual
/-- may be compared, place by place: ints, tuples of such -/
def D.alk : D → D → Bool
  | .int _, .int _ => true
  | .tup xs, .tup ys => D.alkL xs ys
  | _, _ => false
def D.alkL : List D → List D → Bool
  | x :: xs, y :: ys => D.alk x y && D.alkL xs ys
  | _, _ => true
end
mutual
/-- x < y -/
def D.lt : D → D → Bool
  | .int i, .int j => decide (i < j)
  | .tup xs, .tup ys => D.ltL xs ys
  | _, _ => false
def D.ltL : List D → List D → Bool
  | [], [] => false
  | [], _ :: _ => true
  | _ :: _, [] => false
  | x :: xs, y :: ys => if D.eqv x y then D.ltL xs ys else D.lt x y
end
def D.row : D → Bool
  | .tup (_ :: _) => true
  | _ => false
def isL : D → Bool
  | .lst _ => true
  | _ => false
/-- tuples that may be sorted -/
def srtOk (xs : List D) : Bool := D.plainL 60 xs && xs.all D.row && xs.all fun x => xs.all fun y => D.alk x y
def insD (x : D) : List D → List D
  | [] => [x]
  | y :: l => if D.lt y x then y :: insD x l else x :: y :: l
def sortD : List D → List D
  | [] => []
  | x :: l => insD x (sortD l)
def minD : List D → Option D
  | [] => none
  | x :: l => some (l.foldl (fun a y => if D.lt y a then y else a) x)
def maxD : List D → Option D
  | [] => none
  | x :: l => some (l.foldl (fun a y => if D.lt a y then y else a) x)
/-- things with their keys, by the keys -/
def insK (x : D × D) : List (D × D) → List (D × D)
  | [] => [x]
  | y :: l => if D.lt y.1 x.1 then y :: insK x l else x :: y :: l
def sortK : List (D × D) → List (D × D)
  | [] => []
  | x :: l => insK x (sortK l)
def minK : List (D × D) → Option D
  | [] => none
  | x :: l => some (l.foldl (fun a y => if D.lt y.1 a.1 then y else a) x).2
def nodupD : List D → Bool
  | [] => true
  | x :: l => (l.all fun y => !D.eqv x y) && nodupD l
/-- without those that are there behind -/
def dedupI : List Int → List Int
  | [] => []
  | x :: l => if x ∈ l then dedupI l else x :: dedupI l
mutual
/-- a bound of the length of the text of data -/
def D.wt : D → Nat
  | .non => 4
  | .bl _ => 5
  | .int i => i.natAbs.log2 + 3
  | .str x => 12 * x.cps.size + 2
  | .tup xs => D.wtL xs + 3
  | .lst xs => D.wtL xs + 3
  | _ => 16777217
def D.wtL : List D → Nat
  | [] => 0
  | x :: xs => D.wt x + 2 + D.wtL xs
end
mutual
def D.shows : D → Bool
  | .int i => decide (i.natAbs.log2 < 1920)
  | .tup xs => D.showsL xs
  | .lst xs => D.showsL xs
  | _ => true
def D.showsL : List D → Bool
  | [] => true
  | x :: xs => D.shows x && D.showsL xs
end
def bi : BI → List D → Option D
  | .abs, [.int i] => some (.int (if i < 0 then -i else i))
  | .len, [.tup xs] => some (.int xs.length)
  | .len, [.lst xs] => some (.int xs.length)
  | .len, [.frl xs] => some (.int xs.length)
  | .int, [.int i] => some (.int i)
  | .int, [.bl b] => some (.int (if b then 1 else 0))
  | .sum, [x] => (seqOf x).bind fun xs => (intsOf xs).map fun l => .int l.sum
  | .max, [x] => (seqOf x).bind fun xs => ((intsOf xs).bind fun l => l.max?.map .int).or (if isL x && srtOk xs then maxD xs else none)
  | .min, [x] => (seqOf x).bind fun xs => ((intsOf xs).bind fun l => l.min?.map .int).or (if isL x && srtOk xs then minD xs else none)
  | .max2, [.int i, .int j] => some (.int (max i j))
  | .min2, [.int i, .int j] => some (.int (min i j))
  | .divmod, [.int i, .int j] => if 0 < j ∧ j < 1073741824 then some (.tup [.int (i / j), .int (i % j)]) else none
  | .tuple, [.tup xs] => some (.tup xs)
  | .tuple, [.lst xs] => some (.tup xs)
  | .list, [.tup xs] => some (.lst xs)
  | .list, [.lst xs] => some (.lst xs)
  | .sorted, [.dI ks _] => if ks.length < 64 then some (.lst ((sortI ks).map .int)) else none
  | .sorted, [x] => (seqOf x).bind fun xs => ((intsOf xs).map fun l => D.lst ((sortI l).map .int)).or (if isL x && srtOk xs then some (.lst (sortD xs)) else none)
  | .sortedr, [x] => (seqOf x).bind fun xs => (intsOf xs).map fun l => .lst ((sortI l).reverse.map .int)
  | .repr, [x] => if (seqOf x).isSome && D.plain 60 x && D.shows x && decide (D.wt x ≤ 16777216) then some (.rep x) else none
  | .all, [.lst xs] => (blsOf xs).map fun l => .bl (l.all id)
  | .any, [.lst xs] => (blsOf xs).map fun l => .bl (l.any id)
  | _, _ => none
def isi (t : String) : D → Option Bool
  | .non => some false
  | .bl _ => some (t == "bool" || t == "int")
  | .int _ => some (t == "int")
  | .str _ => some (t == "str")
  | .tup _ => some (t == "tuple")
  | .lst _ => some (t == "list")
  | _ => none
/-- the first place with an item that is like one -/
def firstAt (x : D) : List D → Option Nat
  | [] => none
  | y :: r => if D.eqv y x then some 0 else (firstAt x r).map (· + 1)
def ptk {κ : Type} [DecidableEq κ] (k : κ) (ks : List κ) : List κ := if k ∈ ks then ks else ks ++ [k]
def pts {κ : Type} [DecidableEq κ] (k : κ) (v : D) (ks : List κ) (vs : List D) : List D := if k ∈ ks then (ks.zip vs).map (fun p => if p.1 = k then v else p.2) else vs ++ [v]
def mt : Mth → D → List D → Option D
  | .count, .lst xs, [.int k] => (intsOf xs).map fun l => .int (l.count k)
  | .index, .lst xs, [x] => if flat x && xs.all flat then (firstAt x xs).map fun n : Nat => .int ((n : Nat) : Int) else none
  | .tindex, .tup xs, [x] => if flat x && xs.all flat then (firstAt x xs).map fun n : Nat => .int ((n : Nat) : Int) else none
  | .get, .dI ks vs, [k, z] => (lookD (.dI ks vs) k).map fun o => o.getD z
  | .get, .dT ks vs, [k, z] => (lookD (.dT ks vs) k).map fun o => o.getD z
  | _, _, _ => none
/-- may that be called on it -/
def recv : Mth → D → Option Unit
  | .count, .lst _ => some ()
  | .index, .lst _ => some ()
  | .tindex, .tup _ => some ()
  | .get, .dI _ _ => some ()
  | .get, .dT _ _ => some ()
  | _, _ => none
/-- the place meant by an index of any sign, among n -/
def ixN (n : Nat) (i : Int) : Option Nat :=
  if 0 ≤ i then
    (if i < n then some i.toNat else none)
  else if -(n : Int) ≤ i then some (i + n).toNat else none
def at_ {α : Type} (xs : List α) (i : Int) : Option α := (ixN xs.length i).bind fun j => xs[j]?
def lim (n d : Nat) : Option Int → Nat
  | none => d
  | some v => if v < 0 then (v + (n : Int)).toNat else min v.toNat n
def cut (xs : List D) (lo hi : Option Int) : List D := (xs.drop (lim xs.length 0 lo)).take (lim xs.length xs.length hi - lim xs.length 0 lo)
def cutD (lo hi : Option Int) : D → Option D
  | .tup xs => some (.tup (cut xs lo hi))
  | .lst xs => some (.lst (cut xs lo hi))
  | .frl xs => some (.lst (cut xs lo hi))
  | _ => none
/-- o[i] -/
def ixD (x i : D) (h : Hq) : Option D := match x, i with
  | .tup xs, .int i => at_ xs i
  | .lst xs, .int i => at_ xs i
  | .frl xs, .int i => at_ xs i
  | .dI ks vs, k => (lookD (.dI ks vs) k).bind id
  | .dT ks vs, k => (lookD (.dT ks vs) k).bind id
  | .cell n, .int i => match h[n]? with
    | some (.lst xs) => at_ xs i
    | none => none
  | _, _ => none
def bindTg (tg : Tg) (d : D) (ρ : Env) : Option Env := match tg, d with
  | .nm i, d => some (ρ.set i (.fz d))
  | .tp is, .tup ds => if is.length = ds.length then some ((is.zip ds).foldl (fun r p => r.set p.1 (.fz p.2)) ρ) else none
  | _, _ => none
def Tg.slots : Tg → List Nat
  | .nm i => [i]
  | .tp is => is
/-- the slots of a comprehension's own names forgotten -/
def wipeE (ρ : Env) : List Nat → Env
  | [] => ρ
  | v :: vs => (wipeE ρ vs).set v .no
def zipOf : D → D → Option (List D)
  | .lst xs, .lst ys => some ((xs.zip ys).map fun p => .tup [p.1, p.2])
  | .tup xs, .tup ys => some ((xs.zip ys).map fun p => .tup [p.1, p.2])
  | _, _ => none
/-- a tuple beside a list -/
def zipmOf : D → D → Option (List D)
  | .tup xs, .lst ys => some ((xs.zip ys).map fun p => .tup [p.1, p.2])
  | _, _ => none
def enumOf : D → Option (List D)
  | .lst xs => some (xs.zipIdx.map fun p => .tup [.int (p.2 : Nat), p.1])
  | .tup xs => some (xs.zipIdx.map fun p => .tup [.int (p.2 : Nat), p.1])
  | _ => none
/-- a, a - 1, .., b + 1 -/
def rangeD (a b : Int) : List D := (List.range (a - b).toNat).map fun k => .int (a + (k : Nat) * (-1))
def seqD (t : Bool) (ds : List D) : D := if t then .tup ds else .lst ds
def okR (i : Int) : Bool := decide (-1000000 ≤ i) && decide (i ≤ 1000000)

/-- a dict with int keys, one more thing put -/
def setI' (o k v : D) : Option D := match o, k with
  | .dI ks vs, .int k => if ks.length < 16777216 then some (.dI (ptk k ks) (pts k v ks vs)) else none
  | _, _ => none
def valsOf : D → Option D
  | .dI _ vs => some (.lst vs)
  | _ => none
/-- a walk over what an expression gives: over a dict of one's own there is none -/
@[simp] def E.walk : E → D → Option (List D)
  | .own _, x => seqOf x
  | _, x => itOf x
section
variable (cf : Nat → List D → Hq → R D)
/-- [f for tg in ds if c] -/
def lcF (f : Env → Hq → R D) (c : Env → Hq → R D) (tg : Tg) (ρ : Env) : List D → Hq → R (List D)
  | [], h => .ok [] h
  | d :: ds, h => (liftO (bindTg tg d ρ) h).bind fun ρ' h => (c ρ' h).nox.bind fun b h => (liftO (truthy b) h).bind fun b h =>
    if b = true then (f ρ' h).nox.bind fun x h => (lcF f c tg ρ ds h).bind fun r h => .ok (x :: r) h else lcF f c tg ρ ds h
/-- the slots that a lambda captures, at their places -/
def keepE (n : Nat) (cap : List Nat) : Env → Env
  | [] => []
  | s :: r => (if n ∈ cap then (match s with | .fz d => if D.plain 60 d then .fz d else .no | _ => .no) else .no) :: keepE (n + 1) cap r
def capE (ρ : Env) : List Nat → Option (List D)
  | [] => some []
  | i :: r => match ρ[i]? with
    | some (.fz d) => (capE ρ r).map (d :: ·)
    | _ => none
/-- the keys of things -/
def keysF (f : Env → Hq → R D) (i : Nat) (ρ : Env) : List D → Option (List D)
  | [] => some []
  | d :: ds => match f (ρ.set i (.fz d)) [] with
    | .ok k [] => (keysF f i ρ ds).map (k :: ·)
    | _ => none
/-- {f: g for tg in ds}, put into a dict one by one -/
def dcF (f : Env → Hq → R D) (g : Env → Hq → R D) (tg : Tg) (ρ : Env) : List D → D → Hq → R D
  | [], acc, h => .ok acc h
  | d :: ds, acc, h => (liftO (bindTg tg d ρ) h).bind fun ρ' h => (f ρ' h).nox.bind fun x h => (g ρ' h).nox.bind fun y h => (liftO (setI' acc x y) h).bind fun acc h => dcF f g tg ρ ds acc h
/-- what a hearing of a call tells: that it was let, or the word of its error's class, and what that keeps -/
def hearR (tb : List (Nat × Str × Bool)) : R D → R D
  | .ok _ h => .ok (.lst [.str "let"]) h
  | .exc n d h => match tb.lookup n with
    | some (w, b) => .ok (.lst (if b then [.str w, d] else [.str w])) h
    | none => .bad
  | .bad => .bad
mutual
def evE : E → Env → Hq → R D
  | .no, _, _ => .bad
  | .non, _, h => .ok .non h
  | .bl b, _, h => .ok (.bl b) h
  | .int i, _, h => .ok (.int i) h
  | .gint i, _, h => .ok (.int i) h
  | .str s, _, h => .ok (.str s) h
  | .var i, ρ, h => match ρ[i]? with
    | some (.fz d) => .ok d h
    | _ => .bad
  | .own i, ρ, h => match ρ[i]? with
    | some (.ow d) => .ok d h
    | _ => .bad
  | .gfn n, _, h => .ok (.fn n []) h
  | .bin op a b, ρ, h => (evE a ρ h).bind fun x h => (evE b ρ h).bind fun y h => liftO (bin op x y) h
  | .neg a, ρ, h => (evE a ρ h).bind fun x h => liftO ((intOf x).map fun i => .int (-i)) h
  | .not a, ρ, h => (evE a ρ h).bind fun x h => liftO ((truthy x).map fun c => .bl (!c)) h
  | .cmp op a b, ρ, h => (evE a ρ h).bind fun x h => (evE b ρ h).bind fun y h => liftO (cmp op x y) h
  | .chain o p a b c, ρ, h => (evE a ρ h).bind fun x h => (evE b ρ h).bind fun y h => (liftO ((cmp o x y).bind truthy) h).bind fun k h =>
    if k = true then (evE c ρ h).bind fun z h => liftO (cmp p y z) h else .ok (.bl false) h
  | .and a b, ρ, h => (evE a ρ h).bind fun x h => (liftO (truthy x) h).bind fun k h => if k = true then evE b ρ h else .ok x h
  | .or a b, ρ, h => (evE a ρ h).bind fun x h => (liftO (truthy x) h).bind fun k h => if k = true then .ok x h else evE b ρ h
  | .ife c a b, ρ, h => (evE c ρ h).bind fun x h => (liftO (truthy x) h).bind fun k h => if k = true then evE a ρ h else evE b ρ h
  | .call n es, ρ, h => (evEs es ρ h).bind fun ds h => cf n ds h
  | .callk n es ks p, ρ, h => (evEs es ρ h).bind fun ds h => (evEs ks ρ h).bind fun zs h => (liftO (p.mapM fun j => (ds ++ zs)[j]?) h).bind fun ds h => cf n ds h
  | .calll i es, ρ, h => match ρ[i]? with
    | some (.fz (.fn n cs)) => (evEs es ρ h).bind fun ds h => cf n (ds ++ cs) h
    | _ => .bad
  | .bi f es, ρ, h => (evEs es ρ h).bind fun ds h => liftO (bi f ds) h
  | .isi t a, ρ, h => (evE a ρ h).bind fun x h => liftO ((isi t x).map .bl) h
  | .mt m a es, ρ, h => (evE a ρ h).bind fun x h => (liftO (recv m x) h).bind fun _ h => (evEs es ρ h).bind fun ds h => liftO (mt m x ds) h
  | .tup es, ρ, h => (evEs es ρ h).bind fun ds h => .ok (.tup ds) h
  | .lst es, ρ, h => (evEs es ρ h).bind fun ds h => .ok (.lst ds) h
  | .cell es, ρ, h => (evEs es ρ h).bind fun ds h => .ok (.cell h.length) (h ++ [.lst ds])
  | .dnew t, _, h => .ok (if t then .dT [] [] else .dI [] []) h
  | .ddisp t k v, ρ, h => (evE k ρ h).bind fun x h => (evE v ρ h).bind fun y h => liftO (if t then (keyT x).map fun k => .dT [k] [y] else (intOf x).map fun k => .dI [k] [y]) h
  | .lc e tg it, ρ, h => (evI it ρ h).bind fun ds h => if ds.length ≤ 16777216 then (lcF (evE e) (fun _ h => .ok (.bl true) h) tg (wipeE ρ tg.slots) ds h).nox.bind fun r h => .ok (.lst r) h else .bad
  | .lcif e tg it c, ρ, h => (evI it ρ h).bind fun ds h => if ds.length ≤ 16777216 then (lcF (evE e) (evE c) tg (wipeE ρ tg.slots) ds h).nox.bind fun r h => .ok (.lst r) h else .bad
  | .dc k v tg it, ρ, h => (evI it ρ h).bind fun ds h => if ds.length ≤ 1000000 then (dcF (evE k) (evE v) tg (wipeE ρ tg.slots) ds (.dI [] []) h).nox else .bad
  | .vals a, ρ, h => (evE a ρ h).bind fun x h => liftO (valsOf x) h
  | .ix a i, ρ, h => (evE a ρ h).bind fun x h => (evE i ρ h).bind fun y h => liftO (ixD x y h) h
  | .slab a lo hi, ρ, h => (evE a ρ h).bind fun x h => (evE lo ρ h).bind fun y h => (liftO (intOf y) h).bind fun i h => (evE hi ρ h).bind fun z h => (liftO (intOf z) h).bind fun j h => liftO (cutD (some i) (some j) x) h
  | .sla a lo, ρ, h => (evE a ρ h).bind fun x h => (evE lo ρ h).bind fun y h => (liftO (intOf y) h).bind fun i h => liftO (cutD (some i) none x) h
  | .slb a hi, ρ, h => (evE a ρ h).bind fun x h => (evE hi ρ h).bind fun y h => (liftO (intOf y) h).bind fun i h => liftO (cutD none (some i) x) h
  | .rev a, ρ, h => (evE a ρ h).bind fun x h => match x with
    | .lst xs => .ok (.lst xs.reverse) h
    | .tup xs => .ok (.tup xs.reverse) h
    | _ => .bad
  | .lrg t a b, ρ, h => (evE a ρ h).bind fun x h => (evE b ρ h).bind fun y h => liftO ((intOf x).bind fun i => (intOf y).bind fun j => if okR i && okR j then some (seqD t (range2 i j)) else none) h
  | .lrg1 t a, ρ, h => (evE a ρ h).bind fun x h => liftO ((intOf x).bind fun i => if okR i then some (seqD t (range2 0 i)) else none) h
  | .sortk i cap b a, ρ, h => (evE a ρ h).bind fun x h => (liftO (lstOf x) h).bind fun xs h => liftO ((if xs.length ≤ 1000000 && D.plainL 60 xs then keysF (evE b) i (keepE 0 cap ρ) xs else none).bind fun ks => if srtOk ks && nodupD ks then some (.lst ((sortK (ks.zip xs)).map (·.2))) else none) h
  | .mink i cap b a, ρ, h => (evE a ρ h).bind fun x h => (liftO (lstOf x) h).bind fun xs h => liftO ((if D.plainL 60 xs then keysF (evE b) i (keepE 0 cap ρ) xs else none).bind fun ks => if srtOk ks then minK (ks.zip xs) else none) h
  | .rgv1 a, ρ, h => (evE a ρ h).bind fun x h => liftO ((intOf x).bind fun i => if okR i then some (.rng 0 i) else none) h
  | .rgv2 a b, ρ, h => (evE a ρ h).bind fun x h => (evE b ρ h).bind fun y h => liftO ((intOf x).bind fun i => (intOf y).bind fun j => if okR i && okR j then some (.rng i j) else none) h
  | .sset a, ρ, h => (evE a ρ h).bind fun x h => liftO ((lstOf x).bind fun xs => (intsOf xs).bind fun l => if l.length < 60 then some (.lst ((sortI (dedupI l)).map .int)) else none) h
  | .lamv n cap, ρ, h => (liftO (capE ρ cap) h).bind fun cs h => .ok (.fn n cs) h
  | .heard tb e, ρ, h => hearR tb (evE e ρ h)
def evEs : Es → Env → Hq → R (List D)
  | .nil, _, h => .ok [] h
  | .cons e es, ρ, h => (evE e ρ h).bind fun d h => (evEs es ρ h).bind fun ds h => .ok (d :: ds) h
def evI : It → Env → Hq → R (List D)
  | .val e, ρ, h => (evE e ρ h).bind fun x h => liftO (e.walk x) h
  | .rng1 a, ρ, h => (evE a ρ h).bind fun x h => liftO ((intOf x).bind fun i => if okR i then some (range1 i) else none) h
  | .rng2 a b, ρ, h => (evE a ρ h).bind fun x h => (evE b ρ h).bind fun y h => liftO ((intOf x).bind fun i => (intOf y).bind fun j => if okR i && okR j then some (range2 i j) else none) h
  | .rngd a b, ρ, h => (evE a ρ h).bind fun x h => (evE b ρ h).bind fun y h => liftO ((intOf x).bind fun i => (intOf y).bind fun j => if okR i && okR j then some (rangeD i j) else none) h
  | .enum a, ρ, h => (evE a ρ h).bind fun x h => liftO (enumOf x) h
  | .zip a b, ρ, h => (evE a ρ h).bind fun x h => (evE b ρ h).bind fun y h => liftO (zipOf x y) h
  | .zipm a b, ρ, h => (evE a ρ h).bind fun x h => (evE b ρ h).bind fun y h => liftO (zipmOf x y) h
  | .items a, ρ, h => (evE a ρ h).bind fun x h => match x with
    | .dI ks vs => .ok ((ks.zip vs).map fun p => .tup [.int p.1, p.2]) h
    | _ => .bad
end
inductive Fl where
  | nx (ρ : Env) | rt (d : D) | bk (ρ : Env) | ct (ρ : Env)
/-- for tg in ds: f -/
def forF (f : Env → Hq → R Fl) (tg : Tg) : List D → Env → Hq → R Fl
  | [], ρ, h => .ok (.nx ρ) h
  | d :: ds, ρ, h => (liftO (bindTg tg d ρ) h).bind fun ρ' h => (f ρ' h).bind fun r h => match r with
    | .nx ρ'' => forF f tg ds ρ'' h
    | .ct ρ'' => forF f tg ds ρ'' h
    | .bk ρ'' => .ok (.nx ρ'') h
    | .rt d => .ok (.rt d) h
def whF (c : Env → Hq → R D) (f : Env → Hq → R Fl) : Nat → Env → Hq → R Fl
  | 0, _, _ => .bad
  | n + 1, ρ, h => (c ρ h).bind fun b h => (liftO (truthy b) h).bind fun b h => if b = true then (f ρ h).bind fun r h => match r with
    | .nx ρ'' => whF c f n ρ'' h
    | .ct ρ'' => whF c f n ρ'' h
    | .bk ρ'' => .ok (.nx ρ'') h
    | .rt d => .ok (.rt d) h else .ok (.nx ρ) h
/-- a store into a list's, a dict's place -/
def setD (o k v : D) : Option D := match o, k with
  | .lst xs, .int i => (ixN xs.length i).map fun j => .lst (xs.set j v)
  | .dI ks vs, .int k => if ks.length < 16777216 then some (.dI (ptk k ks) (pts k v ks vs)) else none
  | .dT ks vs, k => (keyT k).bind fun k => if ks.length < 16777216 then some (.dT (ptk k ks) (pts k v ks vs)) else none
  | _, _ => none
def setI (i : Nat) (k v : D) (ρ : Env) (h : Hq) : R Env := match ρ[i]? with
  | some (.ow o) => liftO ((setD o k v).map fun o' => ρ.set i (.ow o')) h
  | some (.fz (.cell n)) => match h[n]?, k with
    | some (.lst xs), .int z => match ixN xs.length z with
      | some j => .ok ρ (h.set n (.lst (xs.set j v)))
      | none => .bad
    | _, _ => .bad
  | _ => .bad
def slO (o : Bool) (d : D) : Sl := if o then .ow d else .fz d
def okO (o : Bool) (d : D) : Bool := !o || (match d with | .lst _ => true | .dI _ _ => true | .dT _ _ => true | _ => false)
/-- a slot that holds something -/
def isSl (i : Nat) (ρ : Env) : Option Unit := match ρ[i]? with
  | some (.ow _) => some ()
  | some (.fz _) => some ()
  | _ => none
def isOw (i : Nat) (ρ : Env) : Option Unit := match ρ[i]? with
  | some (.ow (.lst _)) => some ()
  | _ => none
def fzS (i : Nat) (ρ : Env) : Env := match ρ[i]? with
  | some (.ow d) => ρ.set i (.fz d)
  | _ => ρ
/-- several things reckoned, each put into a slot of the second row -/
def evM : List (Nat × Bool) → Es → Env → Hq → Env → R Env
  | [], .nil, _, h, ρ1 => .ok ρ1 h
  | t :: ts, .cons e es, ρ, h, ρ1 => (evE cf e ρ h).bind fun d h => if okO t.2 d then evM ts es ρ h (ρ1.set t.1 (slO t.2 d)) else .bad
  | _, _, _, _, _ => .bad
/-- several targets bound, one behind the other -/
def bindTs : List Tg → List D → Env → Option Env
  | [], [], ρ => some ρ
  | t :: ts, d :: ds, ρ => (bindTg t d ρ).bind fun ρ => bindTs ts ds ρ
  | _, _, _ => none
mutual
def exS (wf : Nat) : S → Env → Hq → R Fl
  | .no, _, _ => .bad
  | .set i e, ρ, h => (evE cf e ρ h).bind fun d h => .ok (.nx (ρ.set i (.fz d))) h
  | .own i e, ρ, h => (evE cf e ρ h).bind fun d h => match d with
    | .lst _ => .ok (.nx (ρ.set i (.ow d))) h
    | .dI _ _ => .ok (.nx (ρ.set i (.ow d))) h
    | .dT _ _ => .ok (.nx (ρ.set i (.ow d))) h
    | _ => .bad
  | .tset is e, ρ, h => (evE cf e ρ h).bind fun d h => (liftO (bindTg (.tp is) d ρ) h).bind fun ρ h => .ok (.nx ρ) h
  | .par i o a j p b, ρ, h => (evE cf a ρ h).bind fun x h => (evE cf b ρ h).bind fun y h => if okO o x && okO p y then .ok (.nx ((ρ.set i (slO o x)).set j (slO p y))) h else .bad
  | .multi ts es, ρ, h => (evM cf ts es ρ h ρ).bind fun ρ h => .ok (.nx ρ) h
  | .nest ts es, ρ, h => (evEs cf es ρ h).bind fun ds h => (liftO (bindTs ts ds ρ) h).bind fun ρ h => .ok (.nx ρ) h
  | .ixset i k v, ρ, h => (evE cf v ρ h).bind fun d h => (liftO (isSl i ρ) h).bind fun _ h => (evE cf k ρ h).bind fun z h => (setI i z d ρ h).bind fun ρ h => .ok (.nx ρ) h
  | .ixtup i k j e, ρ, h => (evE cf e ρ h).bind fun d h => match d with
    | .tup [a, b] => (liftO (isSl i ρ) h).bind fun _ h => (evE cf k ρ h).bind fun z h => (setI i z a ρ h).bind fun ρ h => .ok (.nx (ρ.set j (.fz b))) h
    | _ => .bad
  | .app i e, ρ, h => (liftO (isOw i ρ) h).bind fun _ h => (evE cf e ρ h).bind fun d h => match ρ[i]? with
    | some (.ow (.lst xs)) => if xs.length < 16777216 then .ok (.nx (ρ.set i (.ow (.lst (xs ++ [d]))))) h else .bad
    | _ => .bad
  | .ext i e, ρ, h => (liftO (isOw i ρ) h).bind fun _ h => (evE cf e ρ h).bind fun d h => (liftO (seqOf d) h).bind fun ys h => match ρ[i]? with
    | some (.ow (.lst xs)) => if xs.length + ys.length ≤ 16777216 then .ok (.nx (ρ.set i (.ow (.lst (xs ++ ys))))) h else .bad
    | _ => .bad
  | .ex e, ρ, h => (evE cf e ρ h).bind fun _ h => .ok (.nx ρ) h
  | .ite c a b, ρ, h => (evE cf c ρ h).bind fun x h => (liftO (truthy x) h).bind fun k h => if k = true then exSs wf a ρ h else exSs wf b ρ h
  | .for tg it b, ρ, h => (evI cf it ρ h).bind fun ds h => forF (exSs wf b) tg ds ρ h
  | .while c b, ρ, h => whF (evE cf c) (exSs wf b) wf ρ h
  | .ret e, ρ, h => (evE cf e ρ h).bind fun d h => .ok (.rt d) h
  | .retn, _, h => .ok (.rt .non) h
  | .pass, ρ, h => .ok (.nx ρ) h
  | .raise c e, ρ, h => (evE cf e ρ h).bind fun d h => .exc c d h
  | .raise0 c, _, h => .exc c .non h
  | .frz i, ρ, h => .ok (.nx (fzS i ρ)) h
  | .drop i, ρ, h => .ok (.nx (ρ.set i .no)) h
def exSs (wf : Nat) : Ss → Env → Hq → R Fl
  | .nil, ρ, h => .ok (.nx ρ) h
  | .cons s r, ρ, h => (exS wf s ρ h).bind fun f h => match f with
    | .nx ρ' => exSs wf r ρ' h
    | f => .ok f h
end
/-- a def called -/
def runFn (wf : Nat) (f : Fn) (ds : List D) (h : Hq) : R D :=
  if ds.length = f.np then (exSs cf wf f.body (ds.map .fz ++ List.replicate (f.ns - f.np) .no) h).bind fun r h => match r with
    | .rt d => .ok d h
    | .nx _ => .ok .non h
    | _ => .bad
  else .bad
end
/-- the n-th def of a table called, so deep at most -/
def callF (G : Nat → Option Fn) (wf : Nat) : Nat → Nat → List D → Hq → R D
  | 0, _, _, _ => .bad
  | k + 1, n, ds, h => match G n with
    | some f => runFn (callF G wf k) wf f ds h
    | none => .bad
end Mn

/-! Mini: what its terms give is what the model gives. -/
namespace Mn
open PySem L2 PySem.Spec PyProof.Rows

mutual
def D.py : D → PyData
  | .non => .none
  | .bl b => .bool b
  | .int i => .int i
  | .str x => .str x
  | .tup xs => .tuple (D.pyL xs)
  | .lst xs => .list (D.pyL xs)
  | _ => .none
def D.pyL : List D → List PyData
  | [] => []
  | x :: xs => D.py x :: D.pyL xs
end
/-- what stays as it is, by address; the changing objects in order -/
structure Wd where
  F : Hp
  C : List Addr
/-- where the defs stand; the written part -/
structure FaT where
  fn : Nat → Option Addr
  K : PySem.W.Frag
  /-- the own exception classes, each with the field that it keeps -/
  cl : Nat → Option (Addr × Option Str)
  /-- the tables of code objects -/
  T : List (Addr × Str)
/-- a list that stays as it is: tracked as such, or an object of the module -/
def FrA (fa : FaT) (W : Wd) (a : Addr) (vs : List V) : Prop := (∃ o, W.F a = some (.frz o (.lst vs))) ∨ ∃ (o : Obj) (its : Array Value) (n : Nat), fa.K.lookup a = some o ∧ (o.cls = .type "list" ∧ o.dict = none) ∧ o.data = .seq its n ∧ its.size ≤ sizeLine ∧ Vals vs its.toList
section
variable (fa : FaT)
mutual
inductive Rep (W : Wd) : V → D → Prop
  | non : Rep W .non .non
  | bl (b : Bool) : Rep W (.bl b) (.bl b)
  | int (i : Int) : Rep W (.int i) (.int i)
  | str (x : Str) : Rep W (.str x) (.str x)
  | rep (d : D) : Rep W (.str d.py.shown) (.rep d)
  | tup {a : Addr} {vs : List V} {ds : List D} : W.F a = some (.tup vs) → RepL W vs ds → Rep W (.ref a) (.tup ds)
  | lst {a : Addr} {vs : List V} {ds : List D} : W.F a = some (.lst vs) → RepL W vs ds → Rep W (.ref a) (.lst ds)
  | frl {a : Addr} {vs : List V} {ds : List D} : FrA fa W a vs → RepL W vs ds → Rep W (.ref a) (.frl ds)
  | cell {a : Addr} {n : Nat} : W.C[n]? = some a → Rep W (.ref a) (.cell n)
  | fn {a : Addr} {n : Nat} : fa.fn n = some a → Rep W (.ref a) (.fn n [])
  | rng {a : Addr} {lo hi : Int} : W.F a = some (.rng lo hi) → okR lo = true → okR hi = true → Rep W (.ref a) (.rng lo hi)
  | dI {a : Addr} {o : Obj} {kvs : List (L2.Key × V)} {ks : List Int} {ds : List D} : W.F a = some (.frz o (.dK kvs)) → kvs.map (·.1) = ks.map Sum.inl → RepL W (kvs.map (·.2)) ds → Rep W (.ref a) (.dI ks ds)
  | dT {a : Addr} {o : Obj} {kvs : List (List L2.Key × V)} {ks : List (List Int)} {ds : List D} : W.F a = some (.frz o (.dT kvs)) → kvs.map (·.1) = ks.map (List.map Sum.inl) → RepL W (kvs.map (·.2)) ds → Rep W (.ref a) (.dT ks ds)
inductive RepL (W : Wd) : List V → List D → Prop
  | nil : RepL W [] []
  | cons {v : V} {vs : List V} {d : D} {ds : List D} : Rep W v d → RepL W vs ds → RepL W (v :: vs) (d :: ds)
end
variable {fa}
/-- a world grown -/
structure Ext (W : Wd) (H : Hp) (W' : Wd) (H' : Hp) : Prop where
  f : ∀ a o, W.F a = some o → W'.F a = some o
  c : ∃ new, W'.C = W.C ++ new ∧ ∀ a ∈ new, H a = none
  k : ∀ a o, H a = some o → a ∉ W.C → (∀ ps, o ≠ .tbl ps) → H' a = some o
  n : ∀ a o, H a = some o → (∀ vs, o ≠ .tup vs) → W.F a = none → W'.F a = none
  t : ∀ a, H a ≠ none → H' a ≠ none
  u : ∀ a o, H a = some o → (∀ vs, o ≠ .tup vs) → ∀ vs, H' a ≠ some (.tup vs)
theorem Ext.refl (W : Wd) (H : Hp) : Ext W H W H := ⟨fun _ _ h => h, ⟨[], by simp, by simp⟩, fun _ _ h _ _ => h, fun _ _ _ _ h => h, fun _ h => h, fun _ _ h n vs e => n vs (Option.some.inj (h.symm.trans e))⟩
mutual
theorem Rep.mono {W W' : Wd} (hf : ∀ a o, W.F a = some o → W'.F a = some o) (hc : ∀ (n : Nat) (a : Addr), W.C[n]? = some a → W'.C[n]? = some a) : ∀ {v : V} {d : D}, Rep fa W v d → Rep fa W' v d
  | _, _, .non => .non
  | _, _, .bl b => .bl b
  | _, _, .int i => .int i
  | _, _, .str x => .str x
  | _, _, .rep d => .rep d
  | _, _, .tup h r => .tup (hf _ _ h) (RepL.mono hf hc r)
  | _, _, .lst h r => .lst (hf _ _ h) (RepL.mono hf hc r)
  | _, _, .frl h r => .frl (h.imp (fun ⟨o, e⟩ => ⟨o, hf _ _ e⟩) id) (RepL.mono hf hc r)
  | _, _, .cell h => .cell (hc _ _ h)
  | _, _, .fn h => .fn h
  | _, _, .rng h h1 h2 => .rng (hf _ _ h) h1 h2
  | _, _, .dI h e r => .dI (hf _ _ h) e (RepL.mono hf hc r)
  | _, _, .dT h e r => .dT (hf _ _ h) e (RepL.mono hf hc r)
theorem RepL.mono {W W' : Wd} (hf : ∀ a o, W.F a = some o → W'.F a = some o) (hc : ∀ (n : Nat) (a : Addr), W.C[n]? = some a → W'.C[n]? = some a) : ∀ {vs : List V} {ds : List D}, RepL fa W vs ds → RepL fa W' vs ds
  | _, _, .nil => .nil
  | _, _, .cons h r => .cons (Rep.mono hf hc h) (RepL.mono hf hc r)
end
theorem Ext.cells {W W' : Wd} {H H' : Hp} (e : Ext W H W' H') : ∀ (n : Nat) (a : Addr), W.C[n]? = some a → W'.C[n]? = some a := fun n a h => by
  obtain ⟨new, q, _⟩ := e.c
  rw [q, List.getElem?_append_left (List.getElem?_eq_some_iff.mp h).1]
  exact h
theorem Ext.rep {W W' : Wd} {H H' : Hp} (e : Ext W H W' H') {v : V} {d : D} (r : Rep fa W v d) : Rep fa W' v d := r.mono e.f e.cells
theorem Ext.repL {W W' : Wd} {H H' : Hp} (e : Ext W H W' H') {vs : List V} {ds : List D} (r : RepL fa W vs ds) : RepL fa W' vs ds := r.mono e.f e.cells
theorem RepL.length {W : Wd} : ∀ {vs : List V} {ds : List D}, RepL fa W vs ds → vs.length = ds.length
  | _, _, .nil => rfl
  | _, _, .cons _ r => congrArg Nat.succ (RepL.length r)
theorem RepL.get {W : Wd} : ∀ {vs : List V} {ds : List D} {i : Nat} {d : D}, RepL fa W vs ds → ds[i]? = some d → ∃ v, vs[i]? = some v ∧ Rep fa W v d
  | _, _, _, _, .nil, e => by simp at e
  | _, _, 0, _, .cons h _, e => by simp at e; subst e; exact ⟨_, rfl, h⟩
  | _, _, i + 1, d, .cons _ r, e => by
    obtain ⟨v, h1, h2⟩ := RepL.get (i := i) (d := d) r (by simpa using e)
    exact ⟨v, by simpa using h1, h2⟩
theorem RepL.getV {W : Wd} : ∀ {vs : List V} {ds : List D} {i : Nat} {v : V}, RepL fa W vs ds → vs[i]? = some v → ∃ d, ds[i]? = some d ∧ Rep fa W v d
  | _, _, _, _, .nil, e => by simp at e
  | _, _, 0, _, .cons h _, e => by simp at e; subst e; exact ⟨_, rfl, h⟩
  | _, _, i + 1, d, .cons _ r, e => by
    obtain ⟨v, h1, h2⟩ := RepL.getV (i := i) (v := d) r (by simpa using e)
    exact ⟨v, by simpa using h1, h2⟩
theorem RepL.append {W : Wd} : ∀ {vs ws : List V} {ds es : List D}, RepL fa W vs ds → RepL fa W ws es → RepL fa W (vs ++ ws) (ds ++ es)
  | _, _, _, _, .nil, r => r
  | _, _, _, _, .cons h t, r => .cons h (RepL.append t r)
theorem RepL.take {W : Wd} : ∀ {vs : List V} {ds : List D} (n : Nat), RepL fa W vs ds → RepL fa W (vs.take n) (ds.take n)
  | _, _, 0, _ => by simp; exact .nil
  | _, _, n + 1, .nil => by simp; exact .nil
  | _, _, n + 1, .cons h t => .cons h (RepL.take n t)
theorem RepL.drop {W : Wd} : ∀ {vs : List V} {ds : List D} (n : Nat), RepL fa W vs ds → RepL fa W (vs.drop n) (ds.drop n)
  | _, _, 0, r => r
  | _, _, n + 1, .nil => .nil
  | _, _, n + 1, .cons h t => RepL.drop n t
theorem RepL.set {W : Wd} {v : V} {d : D} (q : Rep fa W v d) : ∀ {vs : List V} {ds : List D} (n : Nat), RepL fa W vs ds → RepL fa W (vs.set n v) (ds.set n d)
  | _, _, _, .nil => .nil
  | _, _, 0, .cons h t => .cons q t
  | _, _, n + 1, .cons h t => .cons h (RepL.set q n t)
theorem RepL.reverse {W : Wd} : ∀ {vs : List V} {ds : List D}, RepL fa W vs ds → RepL fa W vs.reverse ds.reverse
  | _, _, .nil => .nil
  | _, _, .cons h t => by
    rw [List.reverse_cons, List.reverse_cons]
    exact (RepL.reverse t).append (.cons h .nil)
theorem RepL.rep {W : Wd} {vs : List V} {ds : List D} (r : RepL fa W vs ds) : ∀ n : Nat, RepL fa W (List.replicate n vs).flatten (List.replicate n ds).flatten
  | 0 => .nil
  | n + 1 => by
    rw [List.replicate_succ, List.replicate_succ, List.flatten_cons, List.flatten_cons]
    exact r.append (RepL.rep r n)
/-- ints -/
theorem Rep.int_inv {W : Wd} {v : V} {i : Int} (r : Rep fa W v (.int i)) : v = .int i := by cases r; rfl
theorem RepL.ints {W : Wd} : ∀ {vs : List V} {ds : List D} {l : List Int}, RepL fa W vs ds → intsOf ds = some l → vs = l.map V.int
  | _, _, l, .nil, e => by simp only [intsOf, Option.some.injEq] at e; subst e; rfl
  | _, _, l, .cons (d := d) h t, e => by
    cases h with
    | int i =>
      simp only [intsOf, Option.map_eq_some_iff] at e
      obtain ⟨r, e1, rfl⟩ := e
      rw [RepL.ints t e1]
      rfl
    | _ => simp [intsOf] at e
theorem repL_ints {W : Wd} : ∀ l : List Int, RepL fa W (l.map V.int) (l.map D.int)
  | [] => .nil
  | i :: l => .cons (.int i) (repL_ints l)
theorem RepL.bls {W : Wd} : ∀ {vs : List V} {ds : List D} {l : List Bool}, RepL fa W vs ds → blsOf ds = some l → vs = l.map V.bl
  | _, _, l, .nil, e => by simp only [blsOf, Option.some.injEq] at e; subst e; rfl
  | _, _, l, .cons (d := d) h t, e => by
    cases h with
    | bl i =>
      simp only [blsOf, Option.map_eq_some_iff] at e
      obtain ⟨r, e1, rfl⟩ := e
      rw [RepL.bls t e1]
      rfl
    | _ => simp [blsOf] at e

/-- the heap holds the world and its changing objects -/
structure Hok (fa : FaT) (W : Wd) (H : Hp) (h : Hq) : Prop where
  sub : ∀ a o, W.F a = some o → H a = some o
  len : W.C.length = h.length
  nd : W.C.Nodup
  cell : ∀ (i : Nat) (a : Addr) (ds : List D), W.C[i]? = some a → h[i]? = some (.lst ds) → ∃ vs, H a = some (.lst vs) ∧ RepL fa W vs ds
  cf : ∀ a ∈ W.C, W.F a = none ∧ H a ≠ none
  tab : LamX.Tabs fa.T H
  nf : ∀ a ps, W.F a ≠ some (.tbl ps)
/-- no table, no code object -/
def NoT (u : HO) : Prop := (∀ ps, u ≠ .tbl ps) ∧ (∀ φ, u ≠ .ext φ) ∧ ∀ vs, u ≠ .tup vs
theorem tab_upd {T : List (Addr × Str)} {H : Hp} {p : Addr} {o : HO} (t : LamX.Tabs T H) (h : ∀ u, H p = some u → NoT u) : LamX.Tabs T (upd H p o) := fun q hq => by
  obtain ⟨ps, h1, h2, h3⟩ := t q hq
  have ne : q.1 ≠ p := fun e => (h (.tbl ps) (by rw [← e]; exact h1)).1 ps rfl
  refine ⟨ps, by rw [upd_ne ne]; exact h1, h2, fun pos cv hc => ?_⟩
  obtain ⟨c, e1, e2⟩ := h3 pos cv hc
  have ne2 : c ≠ p := fun e => (h _ (by rw [← e]; exact e2)).2.1 _ rfl
  exact ⟨c, e1, by rw [upd_ne ne2]; exact e2⟩
theorem tab_new {T : List (Addr × Str)} {H : Hp} {p : Addr} {o : HO} (t : LamX.Tabs T H) (h : H p = none) : LamX.Tabs T (upd H p o) := tab_upd t fun u e => by rw [h] at e; cases e
theorem nf_put {W : Wd} {p : Addr} {o : HO} (t : ∀ a ps, W.F a ≠ some (.tbl ps)) (h : ∀ ps, o ≠ .tbl ps) : ∀ a ps, upd W.F p o a ≠ some (.tbl ps) := fun a ps e => by
  by_cases z : a = p
  · subst z; rw [upd_same] at e; exact h ps (Option.some.inj e)
  · rw [upd_ne z] at e; exact t a ps e
theorem noT_lst {vs : List V} : NoT (.lst vs) := ⟨fun _ z => (by cases z), fun _ z => (by cases z), fun _ z => (by cases z)⟩
theorem FrA.sql {W : Wd} {H : Hp} {h : Hq} {K : PySem.W.Frag} {a : Addr} {vs : List V} (f : FrA fa W a vs) (k : Hok fa W H h) (hk : fa.K = K) : SqL K H a vs := by
  rcases f with ⟨o, e⟩ | ⟨o, its, n, e1, ⟨e2, e3⟩, e4, e5, e6⟩
  · exact .inl (.inr ⟨o, k.sub _ _ e⟩)
  · exact .inr ⟨o, its, n, by rw [← hk]; exact e1, e2, e3, e4, e5, e6⟩
theorem Hok.notC {W : Wd} {H : Hp} {h : Hq} (k : Hok fa W H h) {a : Addr} {o : HO} (e : W.F a = some o) : a ∉ W.C := fun z => by
  rw [(k.cf a z).1] at e; cases e
theorem Ext.trans {W W1 W2 : Wd} {H H1 H2 : Hp} (a : Ext W H W1 H1) (b : Ext W1 H1 W2 H2) : Ext W H W2 H2 := by
  obtain ⟨n1, q1, z1⟩ := a.c
  obtain ⟨n2, q2, z2⟩ := b.c
  have hk : ∀ c o, H c = some o → c ∉ W.C → c ∉ W1.C := fun c o e hc hb => by
    rw [q1] at hb
    rcases List.mem_append.mp hb with z | z
    · exact hc z
    · rw [z1 c z] at e; cases e
  refine ⟨fun c o h => b.f c o (a.f c o h), ⟨n1 ++ n2, by rw [q2, q1, List.append_assoc], fun c hc => ?_⟩, fun c o h hc nt => b.k c o (a.k c o h hc nt) (hk c o h hc) nt, fun c o h hn hf => ?_, fun c h => b.t c (a.t c h), fun c o h hn vs => ?_⟩
  rcases List.mem_append.mp hc with z | z
  · exact z1 c z
  · cases e : H c with
    | none => rfl
    | some o => exact absurd (z2 c z) (a.t c (by rw [e]; simp))
  · obtain ⟨o1, e1⟩ := Option.ne_none_iff_exists'.mp (a.t c (by rw [h]; simp))
    exact b.n c o1 e1 (fun vs z => a.u c o h hn vs (by rw [e1, z])) (a.n c o h hn hf)
  · obtain ⟨o1, e1⟩ := Option.ne_none_iff_exists'.mp (a.t c (by rw [h]; simp))
    exact b.u c o1 e1 (fun vs z => a.u c o h hn vs (by rw [e1, z])) vs

/-! ### slots, results -/
/-- a list of one's own at p -/
def OwnL (fa : FaT) (W : Wd) (H : Hp) (p : Addr) (d : D) : Prop := ∃ ds vs, d = .lst ds ∧ H p = some (.lst vs) ∧ RepL fa W vs ds
/-- what a dict's object tells -/
def DOb (fa : FaT) (W : Wd) : HO → D → Prop
  | .dK kvs, .dI ks ds => kvs.map (·.1) = ks.map Sum.inl ∧ RepL fa W (kvs.map (·.2)) ds
  | .dT kvs, .dT ks ds => kvs.map (·.1) = ks.map (List.map Sum.inl) ∧ RepL fa W (kvs.map (·.2)) ds
  | _, _ => False
theorem DOb.mut {W : Wd} {u : HO} {d : D} (h : DOb fa W u d) : Mut (some u) := by
  cases u <;> first | exact trivial | (cases d <;> exact False.elim h)
theorem DOb.noT {W : Wd} {u : HO} {d : D} (h : DOb fa W u d) : NoT u := by
  cases u <;> cases d <;> first | exact False.elim h | exact ⟨fun _ z => (by cases z), fun _ z => (by cases z), fun _ z => (by cases z)⟩
theorem DOb.mono {W W' : Wd} (hf : ∀ a o, W.F a = some o → W'.F a = some o) (hc : ∀ (n : Nat) (a : Addr), W.C[n]? = some a → W'.C[n]? = some a) {u : HO} {d : D} (h : DOb fa W u d) : DOb fa W' u d := by
  cases u <;> cases d <;> first | exact False.elim h | exact ⟨h.1, RepL.mono hf hc h.2⟩
/-- a dict of one's own at p -/
def OwnD (fa : FaT) (W : Wd) (H : Hp) (p : Addr) (d : D) : Prop := ∃ u, H p = some u ∧ DOb fa W u d
/-- a list, a dict of one's own at p -/
def OwnAt (fa : FaT) (W : Wd) (H : Hp) (p : Addr) (d : D) : Prop := OwnL fa W H p d ∨ OwnD fa W H p d
theorem OwnAt.there {W : Wd} {H : Hp} {p : Addr} {d : D} (o : OwnAt fa W H p d) : ∃ u, H p = some u := by
  rcases o with ⟨ds, vs, _, e, _⟩ | ⟨u, e, _⟩
  · exact ⟨_, e⟩
  · exact ⟨_, e⟩
theorem OwnL.ext {W W' : Wd} {H H' : Hp} {p : Addr} {d : D} (o : OwnL fa W H p d) (e : Ext W H W' H') (hc : p ∉ W.C) : OwnL fa W' H' p d := by
  obtain ⟨ds, vs, e1, e2, r⟩ := o
  exact ⟨ds, vs, e1, e.k _ _ e2 hc (fun _ z => by cases z), e.repL r⟩
theorem OwnAt.noT {W : Wd} {H : Hp} {p : Addr} {d : D} (o : OwnAt fa W H p d) : ∀ u, H p = some u → NoT u := fun u e => by
  rcases o with ⟨ds, vs, _, e1, _⟩ | ⟨v, e1, r⟩
  · rw [e] at e1; cases e1; exact noT_lst
  · rw [e] at e1; cases e1; exact r.noT
theorem OwnAt.ext {W W' : Wd} {H H' : Hp} {p : Addr} {d : D} (o : OwnAt fa W H p d) (e : Ext W H W' H') (hc : p ∉ W.C) : OwnAt fa W' H' p d := by
  rcases o with o | ⟨u, e2, r⟩
  · exact .inl (o.ext e hc)
  · exact .inr ⟨u, e.k _ _ e2 hc r.noT.1, r.mono e.f e.cells⟩
theorem DOb.notL {W : Wd} {u : HO} {ds : List D} (h : DOb fa W u (.lst ds)) : False := by
  cases u <;> exact h
theorem OwnAt.lst {W : Wd} {H : Hp} {p : Addr} {ds : List D} (o : OwnAt fa W H p (.lst ds)) : ∃ vs, H p = some (.lst vs) ∧ RepL fa W vs ds := by
  rcases o with ⟨ds', vs, e, h, r⟩ | ⟨u, e, r⟩
  · cases e; exact ⟨vs, h, r⟩
  · exact r.notL.elim
def isDct : D → Bool
  | .dI _ _ => true
  | .dT _ _ => true
  | _ => false
theorem DOb.is {W : Wd} {u : HO} {d : D} (h : DOb fa W u d) : isDct d = true := by
  cases u <;> cases d <;> first | exact False.elim h | rfl
theorem OwnAt.dct {W : Wd} {H : Hp} {p : Addr} {d : D} (o : OwnAt fa W H p d) (hd : isDct d = true) : ∃ u, H p = some u ∧ DOb fa W u d := by
  rcases o with ⟨ds', vs, e, h, r⟩ | o
  · subst e; exact Bool.noConfusion hd
  · exact o
def isTop : D → Bool
  | .lst _ => true
  | .dI _ _ => true
  | .dT _ _ => true
  | _ => false
theorem top_dct {d : D} (h : isDct d = true) : isTop d = true := by cases d <;> first | rfl | exact Bool.noConfusion h
structure Sr (fa : FaT) (W : Wd) (H : Hp) (σ : L2.St) (ρ : Env) : Prop where
  len : σ.length = ρ.length
  fz : ∀ (i : Nat) (d : D), ρ[i]? = some (.fz d) → ∃ v, σ[i]? = some (some v) ∧ Rep fa W v d
  ow : ∀ (i : Nat) (d : D), ρ[i]? = some (.ow d) → ∃ p, σ[i]? = some (some (.ref p)) ∧ W.F p = none ∧ p ∉ W.C ∧ OwnAt fa W H p d
  ne : ∀ (i j : Nat) (p : Addr) (d e : D), ρ[i]? = some (.ow d) → ρ[j]? = some (.ow e) → σ[i]? = some (some (.ref p)) → σ[j]? = some (some (.ref p)) → i = j
theorem Ext.notC {W W' : Wd} {H H' : Hp} (e : Ext W H W' H') {p : Addr} {u : HO} (hp : H p = some u) (hc : p ∉ W.C) : p ∉ W'.C := fun z => by
  obtain ⟨new, q, n⟩ := e.c
  rw [q] at z
  rcases List.mem_append.mp z with z | z
  · exact hc z
  · rw [n p z] at hp; cases hp
theorem Sr.ext {W W' : Wd} {H H' : Hp} {σ : L2.St} {ρ : Env} (r : Sr fa W H σ ρ) (e : Ext W H W' H') : Sr fa W' H' σ ρ := by
  refine ⟨r.len, fun i d h => ?_, fun i d h => ?_, r.ne⟩
  · obtain ⟨v, h1, h2⟩ := r.fz i d h
    exact ⟨v, h1, e.rep h2⟩
  · obtain ⟨p, h1, h2, h3, h4⟩ := r.ow i d h
    obtain ⟨u, hu⟩ := h4.there
    exact ⟨p, h1, e.n p u hu (h4.noT u hu).2.2 h2, e.notC hu h3, h4.ext e h3⟩
/-- what may be read -/
def Rdb (fa : FaT) (W : Wd) (H : Hp) (v : V) (d : D) : Prop := Rep fa W v d ∨ ∃ p, v = .ref p ∧ W.F p = none ∧ p ∉ W.C ∧ OwnAt fa W H p d
theorem Rdb.ext {W W' : Wd} {H H' : Hp} {v : V} {d : D} (r : Rdb fa W H v d) (e : Ext W H W' H') : Rdb fa W' H' v d := by
  rcases r with r | ⟨p, e1, h2, h3, h4⟩
  · exact .inl (e.rep r)
  · obtain ⟨u, hu⟩ := h4.there
    exact .inr ⟨p, e1, e.n p u hu (h4.noT u hu).2.2 h2, e.notC hu h3, h4.ext e h3⟩
theorem Rdb.lst {W : Wd} {H : Hp} {h : Hq} (k : Hok fa W H h) {v : V} {ds : List D} (r : Rdb fa W H v (.lst ds)) : ∃ a vs, v = .ref a ∧ H a = some (.lst vs) ∧ a ∉ W.C ∧ RepL fa W vs ds := by
  rcases r with r | ⟨p, e1, h2, h3, o⟩
  · cases r with
    | lst hr r => exact ⟨_, _, rfl, k.sub _ _ hr, k.notC hr, r⟩
  · obtain ⟨vs, hp, r⟩ := o.lst
    exact ⟨p, vs, e1, hp, h3, r⟩
theorem Rdb.dct {W : Wd} {H : Hp} {h : Hq} (k : Hok fa W H h) {v : V} {d : D} (r : Rdb fa W H v d) (hd : isDct d = true) : ∃ a u, v = .ref a ∧ Rd H a u ∧ DOb fa W u d := by
  rcases r with r | ⟨p, e1, h2, h3, o⟩
  · cases r with
    | dI hr e r => exact ⟨_, _, rfl, .inr ⟨_, k.sub _ _ hr⟩, e, r⟩
    | dT hr e r => exact ⟨_, _, rfl, .inr ⟨_, k.sub _ _ hr⟩, e, r⟩
    | _ => exact Bool.noConfusion hd
  · obtain ⟨u, hu, r⟩ := o.dct hd
    exact ⟨p, u, e1, .inl hu, r⟩
theorem Rdb.flat {W : Wd} {H : Hp} {v : V} {d : D} (r : Rdb fa W H v d) (hd : ∀ ds, d ≠ .lst ds) (ht : isTop d = false := by rfl) : Rep fa W v d := by
  rcases r with r | ⟨p, e1, h2, h3, ⟨ds', vs, e, _⟩ | ⟨u, _, o⟩⟩
  · exact r
  · exact absurd e (hd _)
  · rw [top_dct o.is] at ht; cases ht
theorem Rdb.tup {W : Wd} {H : Hp} {h : Hq} (k : Hok fa W H h) {v : V} {ds : List D} (r : Rdb fa W H v (.tup ds)) : ∃ a vs, v = .ref a ∧ H a = some (.tup vs) ∧ W.F a = some (.tup vs) ∧ RepL fa W vs ds := by
  cases r.flat (fun _ => by simp) with
  | tup h r => exact ⟨_, _, rfl, k.sub _ _ h, h, r⟩
theorem Rdb.int {W : Wd} {H : Hp} {v : V} {i : Int} (r : Rdb fa W H v (.int i)) : v = .int i := (r.flat (fun _ => by simp)).int_inv
theorem Rdb.bl {W : Wd} {H : Hp} {v : V} {i : Bool} (r : Rdb fa W H v (.bl i)) : v = .bl i := by
  cases r.flat (fun _ => by simp)
  rfl
/-- a value made anew (a list), or one that stays as it is -/
def ResN (fa : FaT) (W : Wd) (H : Hp) (W' : Wd) (H' : Hp) (v : V) (d : D) : Prop :=
  (Rep fa W' v d ∧ isTop d = false) ∨ ∃ p, v = .ref p ∧ H p = none ∧ W'.F p = none ∧ p ∉ W'.C ∧ OwnL fa W' H' p d
def Wd.put (W : Wd) (p : Addr) (o : HO) : Wd := ⟨upd W.F p o, W.C⟩
theorem RepL.put {W : Wd} {p : Addr} {o : HO} (hn : W.F p = none) {vs : List V} {ds : List D} (r : RepL fa W vs ds) : RepL fa (W.put p o) vs ds := by
  have hf : ∀ a u, W.F a = some u → (W.put p o).F a = some u := fun a u h => by
    show upd W.F p o a = some u
    rw [upd_ne (ne_of_none h hn)]; exact h
  exact RepL.mono (W := W) (W' := W.put p o) hf (fun _ _ h => h) r
/-- an object that is known from now on as it stands -/
theorem put_ext {W W' : Wd} {H H' : Hp} {h : Hq} {p : Addr} {o : HO} (e : Ext W H W' H') (k : Hok fa W' H' h) (hp : H p = none) (hn : W'.F p = none) (hc : p ∉ W'.C) (ho : H' p = some o) (nt : ∀ ps, o ≠ .tbl ps := by intro _ z; cases z) :
    Ext W H (W'.put p o) H' ∧ Hok fa (W'.put p o) H' h := by
  have sub : ∀ a u, W'.F a = some u → (W'.put p o).F a = some u := fun a u h => by show upd W'.F p o a = some u; rw [upd_ne (ne_of_none h hn)]; exact h
  refine ⟨⟨fun a u h => sub a u (e.f a u h), e.c, e.k, fun a x h1 h0 h2 => ?_, e.t, e.u⟩, ⟨fun a u h => ?_, k.len, k.nd, fun i a ds h1 h2 => ?_, fun a ha => ⟨?_, (k.cf a ha).2⟩, k.tab, nf_put k.nf nt⟩⟩
  · have hne : a ≠ p := fun z => by rw [z, hp] at h1; cases h1
    show upd W'.F p o a = none
    rw [upd_ne hne]
    exact e.n a x h1 h0 h2
  · by_cases hap : a = p
    · subst hap
      have h' : upd W'.F a o a = some u := h
      rw [upd_same] at h'
      rw [ho]; exact h'
    · have h' : upd W'.F p o a = some u := h
      rw [upd_ne hap] at h'
      exact k.sub a u h'
  · obtain ⟨vs, e1, r⟩ := k.cell i a ds h1 h2
    exact ⟨vs, e1, r.put hn⟩
  · have hne : a ≠ p := fun z => hc (by rw [← z]; exact ha)
    show upd W'.F p o a = none
    rw [upd_ne hne]
    exact (k.cf a ha).1
/-- a tuple that stands there is known from now on -/
theorem tup_ext {W W' : Wd} {H H' : Hp} {h : Hq} {p : Addr} {vs : List V} (e : Ext W H W' H') (k : Hok fa W' H' h) (hn : W'.F p = none) (hc : p ∉ W'.C) (ho : H' p = some (.tup vs)) :
    Ext W H (W'.put p (.tup vs)) H' ∧ Hok fa (W'.put p (.tup vs)) H' h := by
  have sub : ∀ a u, W'.F a = some u → (W'.put p (.tup vs)).F a = some u := fun a u h => by show upd W'.F p _ a = some u; rw [upd_ne (ne_of_none h hn)]; exact h
  refine ⟨⟨fun a u h => sub a u (e.f a u h), e.c, e.k, fun a x h1 h0 h2 => ?_, e.t, e.u⟩, ⟨fun a u h => ?_, k.len, k.nd, fun i a ds h1 h2 => ?_, fun a ha => ⟨?_, (k.cf a ha).2⟩, k.tab, nf_put k.nf fun _ z => by cases z⟩⟩
  · have hne : a ≠ p := fun z => e.u a x h1 h0 vs (by rw [z]; exact ho)
    show upd W'.F p _ a = none
    rw [upd_ne hne]
    exact e.n a x h1 h0 h2
  · by_cases hap : a = p
    · subst hap
      have h' : upd W'.F a (.tup vs) a = some u := h
      rw [upd_same] at h'
      rw [ho]; exact h'
    · have h' : upd W'.F p (.tup vs) a = some u := h
      rw [upd_ne hap] at h'
      exact k.sub a u h'
  · obtain ⟨vs, e1, r⟩ := k.cell i a ds h1 h2
    exact ⟨vs, e1, r.put hn⟩
  · have hne : a ≠ p := fun z => hc (by rw [← z]; exact ha)
    show upd W'.F p _ a = none
    rw [upd_ne hne]
    exact (k.cf a ha).1
theorem ResN.freeze {W W' : Wd} {H H' : Hp} {h : Hq} {v : V} {d : D} (r : ResN fa W H W' H' v d) (e : Ext W H W' H') (k : Hok fa W' H' h) : ∃ W'', Ext W H W'' H' ∧ Hok fa W'' H' h ∧ Rep fa W'' v d := by
  rcases r with ⟨r, _⟩ | ⟨p, rfl, hp, hn, hc, ds, vs, rfl, ho, rl⟩
  · exact ⟨W', e, k, r⟩
  · obtain ⟨e1, k1⟩ := put_ext e k hp hn hc ho
    exact ⟨_, e1, k1, .lst (by show upd W'.F p _ p = _; rw [upd_same]) (rl.put hn)⟩
/-- a new object, known from now on -/
theorem new_ext {W : Wd} {H : Hp} {h : Hq} {p : Addr} {o : HO} (k : Hok fa W H h) (hp : H p = none) (nt : ∀ ps, o ≠ .tbl ps := by intro _ z; cases z) : Ext W H (W.put p o) (upd H p o) ∧ Hok fa (W.put p o) (upd H p o) h := by
  have hn : W.F p = none := by
    cases e : W.F p with
    | none => rfl
    | some u => rw [k.sub p u e] at hp; cases hp
  have hc : p ∉ W.C := fun z => (k.cf p z).2 hp
  have e0 : Ext W H W (upd H p o) := ⟨fun _ _ h => h, ⟨[], by simp, by simp⟩, fun a u h _ _ => by rw [upd_ne (ne_of_none h hp)]; exact h, fun _ _ _ _ h => h, fun a h => by
    by_cases z : a = p
    · subst z; exact absurd hp h
    · rw [upd_ne z]; exact h, fun a x h1 n vs e => by
      rw [upd_ne (ne_of_none h1 hp), h1] at e
      exact n vs (Option.some.inj e)⟩
  have k0 : Hok fa W (upd H p o) h := ⟨fun a u h => by rw [upd_ne (ne_of_none (k.sub a u h) hp)]; exact k.sub a u h, k.len, k.nd, fun i a ds h1 h2 => by
    obtain ⟨vs, e1, r⟩ := k.cell i a ds h1 h2
    exact ⟨vs, by rw [upd_ne (ne_of_none e1 hp)]; exact e1, r⟩, fun a ha => ⟨(k.cf a ha).1, by
      have hne : a ≠ p := fun z => hc (by rw [← z]; exact ha)
      rw [upd_ne hne]; exact (k.cf a ha).2⟩, tab_new k.tab hp, k.nf⟩
  exact put_ext e0 k0 hp hn hc upd_same nt
/-- a new object that is not known -/
theorem fresh_ext {W : Wd} {H : Hp} {h : Hq} {p : Addr} {o : HO} (k : Hok fa W H h) (hp : H p = none) : Ext W H W (upd H p o) ∧ Hok fa W (upd H p o) h ∧ W.F p = none ∧ p ∉ W.C := by
  have hn : W.F p = none := by
    cases e : W.F p with
    | none => rfl
    | some u => rw [k.sub p u e] at hp; cases hp
  have hc : p ∉ W.C := fun z => (k.cf p z).2 hp
  refine ⟨⟨fun _ _ h => h, ⟨[], by simp, by simp⟩, fun a u h _ _ => by rw [upd_ne (ne_of_none h hp)]; exact h, fun _ _ _ _ h => h, fun a h => ?_, fun a x h1 n vs e => n vs (Option.some.inj (by rw [upd_ne (ne_of_none h1 hp), h1] at e; exact e))⟩, ⟨fun a u h => by rw [upd_ne (ne_of_none (k.sub a u h) hp)]; exact k.sub a u h, k.len, k.nd, fun i a ds h1 h2 => ?_, fun a ha => ⟨(k.cf a ha).1, ?_⟩, tab_new k.tab hp, k.nf⟩, hn, hc⟩
  · by_cases z : a = p
    · subst z; exact absurd hp h
    · rw [upd_ne z]; exact h
  · obtain ⟨vs, e1, r⟩ := k.cell i a ds h1 h2
    exact ⟨vs, by rw [upd_ne (ne_of_none e1 hp)]; exact e1, r⟩
  · have hne : a ≠ p := fun z => hc (by rw [← z]; exact ha)
    rw [upd_ne hne]; exact (k.cf a ha).2
theorem own_upd {W1 W : Wd} {H1 H : Hp} {h : Hq} {p : Addr} {o u : HO} (e : Ext W1 H1 W H) (k : Hok fa W H h) (hp : H1 p = none) (hF : W.F p = none) (hC : p ∉ W.C) (hu : H p = some u) (nt : NoT u) : Ext W1 H1 W (upd H p o) ∧ Hok fa W (upd H p o) h := by
  refine ⟨⟨e.f, e.c, fun a v h1 h2 h3 => ?_, e.n, fun a h1 => ?_, fun a x h1 n vs z => e.u a x h1 n vs (by rw [upd_ne (ne_of_none h1 hp)] at z; exact z)⟩, ⟨fun a v h1 => ?_, k.len, k.nd, fun i a ds h1 h2 => ?_, fun a ha => ⟨(k.cf a ha).1, ?_⟩, tab_upd k.tab fun x e => by rw [hu] at e; cases e; exact nt, k.nf⟩⟩
  · rw [upd_ne (ne_of_none h1 hp)]
    exact e.k a v h1 h2 h3
  · by_cases z : a = p
    · subst z; rw [upd_same]; simp
    · rw [upd_ne z]; exact e.t a h1
  · rw [upd_ne (ne_of_none h1 hF)]
    exact k.sub a v h1
  · obtain ⟨vs, e1, r⟩ := k.cell i a ds h1 h2
    have hne : a ≠ p := fun z => hC (by rw [← z]; exact List.mem_of_getElem? h1)
    exact ⟨vs, by rw [upd_ne hne]; exact e1, r⟩
  · have hne : a ≠ p := fun z => hC (by rw [← z]; exact ha)
    rw [upd_ne hne]; exact (k.cf a ha).2
theorem ResN.newLst {W W1 : Wd} {H H1 : Hp} {h : Hq} {p : Addr} {vs : List V} {ds : List D} (e : Ext W H W1 H1) (k : Hok fa W1 H1 h) (hp : H1 p = none) (r : RepL fa W1 vs ds) :
    ResN fa W H W1 (upd H1 p (.lst vs)) (.ref p) (.lst ds) := by
  obtain ⟨e1, k1, hn, hc⟩ := fresh_ext (o := .lst vs) k hp
  refine .inr ⟨p, rfl, ?_, hn, hc, ds, vs, rfl, upd_same, r⟩
  cases q : H p with
  | none => rfl
  | some u => exact absurd hp (e.t p (by rw [q]; simp))
end

/-! ### readings -/
structure Cn where
  P : Program
  w : World
  K : PySem.W.Frag
  mg : Str → Option Value
  base : Heap
  CX : CXT
  fa : FaT
/-- the exception number n that keeps d -/
def Cn.ex (c : Cn) (n : Nat) (d : D) (W : Wd) (H : Hp) (cls : Value) (dx : Option Addr) : Prop := ∃ C fo, c.fa.cl n = some (C, fo) ∧ cls = .ref C ∧ match fo with
  | some f => ∃ a v, dx = some a ∧ H a = some (.xd [(f, v)]) ∧ Rep c.fa W v d
  | none => dx = none
/-- a lambda's scope: no name of its own -/
def lamSc (sc : Scope) : Bool := sc.names.all fun y => !(y.2 == .local) && !(y.2 == .cell)
/-- a def's scope: its first name is its own -/
def ownSc (N : List Str) (sc : Scope) : Bool := match N with
  | x :: _ => sc.names.lookup x == some .local || sc.names.lookup x == some .cell
  | [] => false
theorem own_lam {N : List Str} {sc : Scope} (h : ownSc N sc = true) : lamSc sc = false := by
  unfold ownSc at h
  split at h
  · rename_i x _
    rw [Bool.or_eq_true, beq_iff_eq, beq_iff_eq] at h
    rw [← Bool.not_eq_true]
    intro z
    unfold lamSc at z
    rw [List.all_eq_true] at z
    rcases h with h | h
    · have := z _ (PySem.mem_of_lookup h)
      simp at this
    · have := z _ (PySem.mem_of_lookup h)
      simp at this
  · cases h
/-- where a def's code (or a block in it) stands -/
structure GX (c : Cn) (E : XK) (N : List Str) (k : Nat) (sc : Scope) (X : Cx) : Prop where
  prog : X.prog = c.P
  w : X.w = c.w
  K : X.K = c.K
  mg : X.mg = c.mg
  base : X.base = c.base
  calm : X.calm = true
  nm : X.N = N
  nd : N.Nodup
  sc : X.env.scope = sc
  room : Room k X.A
  gd : X.A.guards = some []
  ps : Passes c.CX X E
  fk : c.fa.K = c.K
  cx : ∀ outer H s e s', c.CX outer H s (fun _ _ _ => False) e s' → False
  r1 : lamSc X.env.scope = false → Room (k + 1) X.A
  r2 : ownSc N X.env.scope = true → ("<lambda>" : Str) ∈ N → Room (k + 2) X.A
  lm : ownSc N X.env.scope = true → ("<lambda>" : Str) ∈ N → ∃ cc P, X.env.code = .ref cc ∧ LamX.TabB X.base X.mg cc P ∧ (P, X.env.qual ++ "<lambda>") ∈ c.fa.T ∧ ∀ p ∈ c.fa.T, p.1 = P → p.2 = X.env.qual ++ "<lambda>"
section
variable (c : Cn) (cf : Nat → List D → Hq → R D) (E : XK)
/-- the end of a reckoning is good -/
def Gd {α : Type} (W : Wd) (H : Hp) (r : R α) (Q : α → Hq → Prop) : Prop := match r with
  | .ok a h => Q a h
  | .exc n d h => ∀ W' H', Ext W H W' H' → Hok c.fa W' H' h → ∀ cls dx, c.ex n d W' H' cls dx → E cls dx H'
  | .bad => False
def tF (m : Mn.E) : TE := fun σ H Q => ∃ W ρ h, Hok c.fa W H h ∧ Sr c.fa W H σ ρ ∧ Gd c E W H (evE cf m ρ h) fun d h' => ∀ v H' W', Ext W H W' H' → Hok c.fa W' H' h' → Rep c.fa W' v d → Q v H'
def tN (m : Mn.E) : TE := fun σ H Q => ∃ W ρ h, Hok c.fa W H h ∧ Sr c.fa W H σ ρ ∧ Gd c E W H (evE cf m ρ h) fun d h' => ∀ v H' W', Ext W H W' H' → Hok c.fa W' H' h' → ResN c.fa W H W' H' v d → Q v H'
def tB (m : Mn.E) : TE := fun σ H Q => ∃ W ρ h, Hok c.fa W H h ∧ Sr c.fa W H σ ρ ∧ Gd c E W H (evE cf m ρ h) fun d h' => ∀ v H' W', Ext W H W' H' → Hok c.fa W' H' h' → Rdb c.fa W' H' v d → Q v H'
def tT (m : Mn.E) : TT := fun σ H Q => ∃ W ρ h, Hok c.fa W H h ∧ Sr c.fa W H σ ρ ∧ Gd c E W H ((evE cf m ρ h).bind fun d h => liftO (truthy d) h) fun b h' => ∀ H' W', Ext W H W' H' → Hok c.fa W' H' h' → Q b H'
variable {c cf E}
theorem Gd.bind {α β : Type} {W : Wd} {H : Hp} {r : R α} {f : α → Hq → R β} {Q : β → Hq → Prop} (g : Gd c E W H (r.bind f) Q) : Gd c E W H r fun a h => Gd c E W H (f a h) Q := by
  cases r <;> exact g
theorem Gd.mono {α : Type} {W : Wd} {H : Hp} {r : R α} {Q Q' : α → Hq → Prop} (g : Gd c E W H r Q) (h : ∀ a h, Q a h → Q' a h) : Gd c E W H r Q' := by
  cases r
  · exact h _ _ g
  · exact g
  · exact g
theorem Gd.ext {α : Type} {W W1 : Wd} {H H1 : Hp} {r : R α} {Q : α → Hq → Prop} (g : Gd c E W H r Q) (e : Ext W H W1 H1) : Gd c E W1 H1 r Q := by
  cases r
  · exact g
  · exact fun W' H' e' => g W' H' (e.trans e')
  · exact g
theorem Gd.lift {α : Type} {W : Wd} {H : Hp} {o : Option α} {h : Hq} {Q : α → Hq → Prop} (g : Gd c E W H (liftO o h) Q) : ∃ a, o = some a ∧ Q a h := by
  cases o with
  | none => exact False.elim g
  | some a => exact ⟨a, rfl, g⟩
theorem Gd.nox {α : Type} {W : Wd} {H : Hp} {r : R α} {Q : α → Hq → Prop} (g : Gd c E W H r.nox Q) : ∃ a h, r = .ok a h ∧ Q a h := by
  cases r with
  | ok a h => exact ⟨a, h, rfl, g⟩
  | exc n d h => exact False.elim g
  | bad => exact False.elim g
theorem weakE {X : Cx} {e : Expr} {t t' : TE} (h : PE X e t) (i : ∀ σ H Q, t' σ H Q → t σ H Q) : PE X e t' := ⟨fun pins s σ H Q I q => h.run pins s σ H Q I (i σ H Q q)⟩
theorem weakT {X : Cx} {e : Expr} {t t' : TT} (h : PT X e t) (i : ∀ σ H Q, t' σ H Q → t σ H Q) : PT X e t' := ⟨fun pins s σ H Q I q => h.run pins s σ H Q I (i σ H Q q)⟩
theorem tF_of_tN {m : Mn.E} {σ : L2.St} {H : Hp} {Q : VK} (h : tF c cf E m σ H Q) : tN c cf E m σ H Q := by
  obtain ⟨W, ρ, q, k, r, g⟩ := h
  refine ⟨W, ρ, q, k, r, g.mono fun d h' z v H' W' e k' n => ?_⟩
  obtain ⟨W'', e'', k'', r''⟩ := n.freeze e k'
  exact z v H' W'' e'' k'' r''
theorem tB_of_tF {m : Mn.E} {σ : L2.St} {H : Hp} {Q : VK} (h : tB c cf E m σ H Q) : tF c cf E m σ H Q := by
  obtain ⟨W, ρ, q, k, r, g⟩ := h
  exact ⟨W, ρ, q, k, r, g.mono fun d h' z v H' W' e k' n => z v H' W' e k' (.inl n)⟩
end
end Mn

namespace Mn
open PySem L2 PySem.Spec PyProof.Rows
theorem tmul_same (l : Addr) (items : Array Value) (n : Nat) (dd : Option Addr) (sl : Array (Option Value)) (x : Int) (u : Tok) (c0 : (decide (x < -(2 ^ 63)) || decide (x ≥ 2 ^ 63)) = false)
    (c1 : (items.isEmpty || x == 1) = true) :
    Meets (Builtin.«tuple.__mul__» ⟨[.ref l, .int x u], []⟩) (fun _ R s => s.heap.get? l = some { cls := .type "tuple", dict := dd, data := .seq items n, slots := sl } ∧ R (.ok (.ret (Value.ref l))) s) :=
  .of_wp fun prog w A R s h => by
    obtain ⟨hp, g, d, tk, os⟩ := s
    obtain ⟨hl, h⟩ := h
    have f1 := AutoSeq1.idx_int
    wp_walk using wpAny_loadPart' hl
    repeat (first
      | (refine wpAny_ite_false (decide_eq_false (by simp only [c0]; decide)) ?_; wp_walk using wpAny_loadPart' hl)
      | (refine wpAny_ite_true (decide_eq_true c1) ?_; wp_walk using wpAny_loadPart' hl))
    exact ⟨_, rfl, h⟩
theorem tmul_none (l : Addr) (items : Array Value) (n : Nat) (dd : Option Addr) (sl : Array (Option Value)) (x : Int) (u : Tok) (c0 : (decide (x < -(2 ^ 63)) || decide (x ≥ 2 ^ 63)) = false)
    (c1 : (items.isEmpty || x == 1) = false) (c2 : (decide (x ≤ 0) || items.isEmpty) = true) :
    Meets (Builtin.«tuple.__mul__» ⟨[.ref l, .int x u], []⟩) (fun _ R s => s.heap.get? l = some { cls := .type "tuple", dict := dd, data := .seq items n, slots := sl } ∧
      R (.ok (.ret (Value.ref s.heap.objs.size))) { s with heap := s.heap.push { cls := Value.type "tuple", data := Data.seq #[] }, toks := s.toks }) :=
  .of_wp fun prog w A R s h => by
    obtain ⟨hp, g, d, tk, os⟩ := s
    obtain ⟨hl, h⟩ := h
    have f1 := AutoSeq1.idx_int
    wp_walk using wpAny_loadPart' hl
    repeat (first
      | (refine wpAny_ite_false (decide_eq_false (by simp only [c0]; decide)) ?_; wp_walk using wpAny_loadPart' hl)
      | (refine wpAny_ite_false (decide_eq_false (by simp only [c1]; decide)) ?_; wp_walk using wpAny_loadPart' hl)
      | (refine wpAny_ite_true (decide_eq_true c2) ?_; wp_walk using wpAny_loadPart' hl))
    exact ⟨_, rfl, h⟩
section
variable {X : Cx} {pins : List (Addr × Obj)} {s : Shared} {σ : L2.St} {H : Hp} {l : Addr} {k : Int} {xs : List V} {t : Tok} {Q : VK}
/-- a tuple times an int: itself, the empty one, or so many in a row -/
theorem op_repAny (I : Inv X pins σ H s) (hT : SqT X.K H l xs) (hz : xs.length ≤ 1000) (hk : k ≤ 1000) (hk0 : -1000 ≤ k) (q1 : (xs = [] ∨ k = 1) → Q (.ref l) H) (q2 : ¬ (xs = [] ∨ k = 1) → ∀ p, H p = none → Q (.ref p) (upd H p (.tup (List.replicate k.toNat xs).flatten))) :
    wpAny (model X.prog X.w) X.A (binaryOp .Mult (.ref l) (.int k t)) (EP X pins σ Q) X.xe s := by
  by_cases hc : xs = [] ∨ k = 1
  · have q := q1 hc
    obtain ⟨its, r, ⟨⟨cls, dd, data, sl⟩, ho, hcl, n, hd⟩, hs⟩ := I.tuple hT
    simp only at hcl hd
    subst hcl hd
    have c1 : (its.toArray.isEmpty || k == 1) = true := by
      rcases hc with e | e
      · subst e; cases r; rfl
      · subst e; simp
    refine wpAny_binaryOp_repeat_ref (T := "tuple") (U := "int") (by decide) ⟨_, ho, rfl⟩ (fun s' => typeIs_int s' k t) noFill_tuple_mul F.fills_int_mul F.slot_int_rmul repeat_tuple F.slot_int_index.lookup
      (call_meets F.slot_int_rmul (typeIs_int s k t) F.entry_int_rmul (F.args_int_rmul_2 _ _) (int_rmul_tuple k t l its.toArray n dd sl) ⟨ho, rfl, ⟨_, ho, rfl⟩, ?_⟩)
    refine call_meets F.slot_tuple_mul ⟨_, ho, rfl⟩ F.entry_tuple_mul (F.args_tuple_mul_2 _ _) (tmul_same l its.toArray n dd sl k t (by rw [decide_eq_false (by omega), decide_eq_false (by omega)]; rfl) c1) ⟨ho, ?_⟩
    exact ⟨.ref l, H, I, rfl, q⟩
  · have q := q2 hc
    have hne : xs ≠ [] := fun e => hc (.inl e)
    have h1 : k ≠ 1 := fun e => hc (.inr e)
    by_cases h2 : 2 ≤ k
    · exact op_repT pins s σ H (.ref l) (.int k) _ _ Q I rfl ⟨t, rfl⟩ ⟨l, k, xs, rfl, rfl, hT, hne, h2, hk, hz, q⟩
    · have h0 : k ≤ 0 := by omega
      obtain ⟨its, r, ⟨⟨cls, dd, data, sl⟩, ho, hcl, n, hd⟩, hs⟩ := I.tuple hT
      simp only at hcl hd
      subst hcl hd
      have hi : its.toArray.isEmpty = false := by
        cases r with
        | nil => exact absurd rfl hne
        | cons _ _ => rfl
      have hb : (k == 1) = false := by simpa using h1
      refine wpAny_binaryOp_repeat_ref (T := "tuple") (U := "int") (by decide) ⟨_, ho, rfl⟩ (fun s' => typeIs_int s' k t) noFill_tuple_mul F.fills_int_mul F.slot_int_rmul repeat_tuple F.slot_int_index.lookup
        (call_meets F.slot_int_rmul (typeIs_int s k t) F.entry_int_rmul (F.args_int_rmul_2 _ _) (int_rmul_tuple k t l its.toArray n dd sl) ⟨ho, rfl, ⟨_, ho, rfl⟩, ?_⟩)
      refine call_meets F.slot_tuple_mul ⟨_, ho, rfl⟩ F.entry_tuple_mul (F.args_tuple_mul_2 _ _) (tmul_none l its.toArray n dd sl k t (by rw [decide_eq_false (by omega), decide_eq_false (by omega)]; rfl) (by rw [hi, hb]; rfl) (by rw [decide_eq_true h0]; rfl)) ⟨ho, ?_⟩
      have e0 : k.toNat = 0 := by omega
      rw [e0] at q
      refine ⟨.ref s.heap.objs.size, _, I.laid (t' := s.toks) (o := .tup []) (fun b ob z => Heap.get?_push_of_some _ z) (Nat.le_refl _) ?_, rfl, q _ (I.hok.fresh (Nat.le_refl _))⟩
      exact ⟨Nat.zero_le _, [], .nil, IsTup.new _ _⟩
end
section
variable {fa : FaT}
/-- what is wanted of an answer d -/
def Kn (fa : FaT) (W : Wd) (H : Hp) (h : Hq) (d : D) (Q : VK) : Prop := ∀ v H' W', Ext W H W' H' → Hok fa W' H' h → ResN fa W H W' H' v d → Q v H'
theorem Kn.flat {W : Wd} {H : Hp} {h : Hq} {d : D} {Q : VK} (q : Kn fa W H h d Q) (k : Hok fa W H h) {v : V} (r : Rep fa W v d) (t : isTop d = false := by rfl) : Q v H := q v H W (.refl W H) k (.inl ⟨r, t⟩)
theorem Kn.int {W : Wd} {H : Hp} {h : Hq} {i : Int} {Q : VK} (q : Kn fa W H h (.int i) Q) (k : Hok fa W H h) : Q (.int i) H := q.flat k (.int i)
theorem Kn.bl {W : Wd} {H : Hp} {h : Hq} {i : Bool} {Q : VK} (q : Kn fa W H h (.bl i) Q) (k : Hok fa W H h) : Q (.bl i) H := q.flat k (.bl i)
theorem Kn.lst {W : Wd} {H : Hp} {h : Hq} {ds : List D} {vs : List V} {Q : VK} (q : Kn fa W H h (.lst ds) Q) (k : Hok fa W H h) (r : RepL fa W vs ds) : ∀ p, H p = none → Q (.ref p) (upd H p (.lst vs)) := fun p hp => by
  obtain ⟨e, k', hn, hc⟩ := fresh_ext (o := .lst vs) k hp
  exact q _ _ W e k' (.newLst (.refl W H) k hp r)
theorem Kn.tup {W : Wd} {H : Hp} {h : Hq} {ds : List D} {vs : List V} {Q : VK} (q : Kn fa W H h (.tup ds) Q) (k : Hok fa W H h) (r : RepL fa W vs ds) : ∀ p, H p = none → Q (.ref p) (upd H p (.tup vs)) := fun p hp => by
  obtain ⟨e, k'⟩ := new_ext (o := .tup vs) k hp
  have hn : W.F p = none := by
    cases z : W.F p with
    | none => rfl
    | some u => rw [k.sub p u z] at hp; cases hp
  exact q _ _ _ e k' (.inl ⟨.tup (by show upd W.F p _ p = _; rw [upd_same]) (r.put hn), rfl⟩)
theorem small_cmul {i j : Int} (h : (small i || small j) = true) : CMul i j := by
  unfold small at h
  simp only [Bool.or_eq_true, Bool.and_eq_true, decide_eq_true_eq] at h
  exact h
theorem rep_size {n : Nat} {k : Int} (h : n ≤ 1000) (hk : k ≤ 1000) : n * k.toNat ≤ 16777216 := by
  have a1 : n * k.toNat ≤ 1000 * 1000 := Nat.mul_le_mul h (by omega)
  omega
/-! ### operators -/
def rBin (fa : FaT) (op : Bop) : R2 := fun x y H Q => ∃ W h a b d, Hok fa W H h ∧ Rdb fa W H x a ∧ Rdb fa W H y b ∧ bin op a b = some d ∧ Kn fa W H h d Q
def Bop.op : Bop → Operator
  | .add => .Add | .sub => .Sub | .mul => .Mult | .fdiv => .FloorDiv | .mod => .Mod | .pow => .Pow | .shr => .RShift
variable {X : Cx}
theorem op_bin (op : Bop) : OpR X (binaryOp op.op) (rBin fa op) := by
  intro pins s σ H x y v u Q I rx ry hr
  obtain ⟨W, h, a, b, d, k, ra, rb, e, q⟩ := hr
  unfold bin at e
  split at e
  · cases e; obtain rfl := ra.int; obtain rfl := rb.int
    exact op_add pins s σ H _ _ v u Q I rx ry ⟨_, _, rfl, rfl, q.int k⟩
  · split at e
    · rename_i hz
      cases e
      obtain ⟨p1, vs1, rfl, h1, f1, r1⟩ := ra.tup k
      obtain ⟨p2, vs2, rfl, h2, f2, r2⟩ := rb.tup k
      refine op_catA pins s σ H _ _ v u Q I rx ry ⟨p1, p2, vs1, vs2, rfl, rfl, .of h1, .of h2, by rw [r1.length, r2.length, sizeLine_eq]; exact hz, fun e => ?_, fun _ e => ?_, fun _ _ p hp => ?_⟩
      · subst e; cases r1; exact q.flat k (.tup f2 r2)
      · subst e; cases r2; rw [List.append_nil] at q; exact q.flat k (.tup f1 r1)
      · exact q.tup k (r1.append r2) p hp
    · cases e
  · split at e
    · rename_i hz
      cases e
      obtain ⟨p1, vs1, rfl, h1, _, r1⟩ := ra.lst k
      obtain ⟨p2, vs2, rfl, h2, _, r2⟩ := rb.lst k
      exact op_cat pins s σ H _ _ v u Q I rx ry ⟨_, _, _, _, rfl, rfl, h1, h2, by rw [r1.length, r2.length, sizeLine_eq]; exact hz, q.lst k (r1.append r2)⟩
    · cases e
  · cases e; obtain rfl := ra.int; obtain rfl := rb.int
    exact op_sub pins s σ H _ _ v u Q I rx ry ⟨_, _, rfl, rfl, q.int k⟩
  · split at e
    · rename_i hz
      cases e; obtain rfl := ra.int; obtain rfl := rb.int
      exact op_mul pins s σ H _ _ v u Q I rx ry ⟨_, _, rfl, rfl, small_cmul hz, q.int k⟩
    · cases e
  · split at e
    · rename_i hz
      cases e
      obtain ⟨p1, vs1, rfl, h1, f1, r1⟩ := ra.tup k
      obtain rfl := rb.int
      cases rx
      obtain ⟨t, rfl⟩ := ry
      refine op_repAny I (.of h1) (by rw [r1.length]; exact hz.1) hz.2.2 hz.2.1 (fun hc => ?_) fun _ p hp => q.tup k (r1.rep _) p hp
      rcases hc with e | e
      · subst e
        cases r1
        have z : ∀ n : Nat, (List.replicate n ([] : List D)).flatten = [] := fun n => by simp
        rw [z] at q
        exact q.flat k (.tup f1 .nil)
      · subst e
        simp only [Int.toNat_one, List.replicate_one, List.flatten_cons, List.flatten_nil, List.append_nil] at q
        exact q.flat k (.tup f1 r1)
    · cases e
  · split at e
    · rename_i hz
      cases e
      obtain ⟨p1, vs1, rfl, h1, _, r1⟩ := ra.lst k
      obtain rfl := rb.int
      exact op_rep pins s σ H _ _ v u Q I rx ry ⟨_, _, _, rfl, rfl, h1, by omega, by omega, by rw [r1.length, sizeLine_eq]; exact rep_size hz.1 hz.2.2, q.lst k (r1.rep _)⟩
    · cases e
  · split at e
    · rename_i hz
      cases e; obtain rfl := ra.int; obtain rfl := rb.int
      exact op_fdivW pins s σ H _ _ v u Q I rx ry ⟨_, _, rfl, rfl, hz, q.int k⟩
    · cases e
  · split at e
    · rename_i hz
      cases e; obtain rfl := ra.int; obtain rfl := rb.int
      exact op_mod pins s σ H _ _ v u Q I rx ry ⟨_, _, rfl, rfl, hz, q.int k⟩
    · cases e
  · split at e
    · rename_i hz
      cases e; obtain rfl := ra.int; obtain rfl := rb.int
      exact op_pow pins s σ H _ _ v u Q I rx ry ⟨_, _, rfl, rfl, hz, q.int k⟩
    · cases e
  · split at e
    · rename_i hz
      cases e; obtain rfl := ra.int; obtain rfl := rb.int
      exact op_shr pins s σ H _ _ v u Q I rx ry ⟨_, _, rfl, rfl, hz, q.int k⟩
    · cases e
  · cases e
end
end Mn

namespace Mn
open PySem L2 PySem.Spec PyProof.Rows
/-! ### dicts -/
section
variable {fa : FaT} {κ κ' : Type} [DecidableEq κ] [DecidableEq κ'] {inj : κ → κ'}
theorem lkp_rep (hi : ∀ a b, inj a = inj b → a = b) {W : Wd} (k : κ) : ∀ {kvs : List (κ' × V)} {ks : List κ} {ds : List D}, kvs.map (·.1) = ks.map inj → RepL fa W (kvs.map (·.2)) ds →
    (∀ d, lkp k ks ds = some d → ∃ v, valV kvs (inj k) = some v ∧ Rep fa W v d) ∧ (lkp k ks ds = none → valV kvs (inj k) = none)
  | [], [], ds, _, r => by
    cases r
    exact ⟨fun d h => (by cases h), fun _ => rfl⟩
  | [], _ :: _, _, e, _ => by simp at e
  | _ :: _, [], _, e, _ => by simp at e
  | p :: kvs, a :: ks, ds, e, r => by
    simp only [List.map_cons, List.cons.injEq] at e
    cases r with
    | cons rv rl =>
      obtain ⟨i1, i2⟩ := lkp_rep hi k e.2 rl
      by_cases ha : a = k
      · subst ha
        have z : p.1 = inj a := e.1
        simp only [lkp, if_pos]
        exact ⟨fun d h => ⟨p.2, valV_pos z, (by cases h; exact rv)⟩, fun h => (by cases h)⟩
      · have z : ¬ p.1 = inj k := fun q => ha (hi _ _ (e.1.symm.trans q))
        simp only [lkp, if_neg ha]
        rw [valV_neg z]
        exact ⟨i1, i2⟩
theorem key_in {kvs : List (κ' × V)} {ks : List κ} (hi : ∀ a b, inj a = inj b → a = b) (e : kvs.map (·.1) = ks.map inj) (k : κ) : (kvs.any fun kv => decide (kv.1 = inj k)) = decide (k ∈ ks) := by
  have e1 : (kvs.any fun kv => decide (kv.1 = inj k)) = (kvs.map (·.1)).any fun x => decide (x = inj k) := by rw [List.any_map]; rfl
  rw [e1, e, List.any_map, Bool.eq_iff_iff, List.any_eq_true, decide_eq_true_iff]
  constructor
  · rintro ⟨x, hx, h⟩
    have := hi _ _ (of_decide_eq_true h)
    rw [← this]; exact hx
  · intro h
    exact ⟨k, h, decide_eq_true rfl⟩
theorem put_vals (hi : ∀ a b, inj a = inj b → a = b) {W : Wd} {k : κ} {v : V} {d : D} (rv : Rep fa W v d) : ∀ {kvs : List (κ' × V)} {ks : List κ} {ds : List D}, kvs.map (·.1) = ks.map inj → RepL fa W (kvs.map (·.2)) ds →
    RepL fa W ((kvs.map fun kv => if kv.1 = inj k then (kv.1, v) else kv).map (·.2)) ((ks.zip ds).map fun p => if p.1 = k then d else p.2)
  | [], [], ds, _, r => by cases r; exact .nil
  | [], _ :: _, _, e, _ => by simp at e
  | _ :: _, [], _, e, _ => by simp at e
  | p :: kvs, a :: ks, ds, e, r => by
    simp only [List.map_cons, List.cons.injEq] at e
    cases r with
    | cons rx rl =>
      rw [List.zip_cons_cons, List.map_cons, List.map_cons, List.map_cons]
      refine .cons ?_ (put_vals hi rv e.2 rl)
      by_cases ha : a = k
      · have z : p.1 = inj k := by rw [← ha]; exact e.1
        rw [if_pos z, if_pos ha]; exact rv
      · have z : ¬ p.1 = inj k := fun q => ha (hi _ _ (e.1.symm.trans q))
        rw [if_neg z, if_neg ha]; exact rx
theorem putK_rep (hi : ∀ a b, inj a = inj b → a = b) {W : Wd} {k : κ} {v : V} {d : D} (rv : Rep fa W v d) {kvs : List (κ' × V)} {ks : List κ} {ds : List D} (e : kvs.map (·.1) = ks.map inj) (r : RepL fa W (kvs.map (·.2)) ds) :
    (L2.putK kvs (inj k) v).map (·.1) = (ptk k ks).map inj ∧ RepL fa W ((L2.putK kvs (inj k) v).map (·.2)) (pts k d ks ds) := by
  unfold L2.putK ptk pts
  rw [key_in hi e k]
  by_cases hk : k ∈ ks
  · rw [if_pos (decide_eq_true hk), if_pos hk, if_pos hk]
    refine ⟨?_, put_vals hi rv e r⟩
    rw [← e, List.map_map]
    refine List.map_congr_left fun p _ => ?_
    show (if p.1 = inj k then (p.1, v) else p).1 = p.1
    split <;> rfl
  · rw [if_neg (by simpa using hk), if_neg hk, if_neg hk]
    refine ⟨by rw [List.map_append, List.map_append, e]; rfl, ?_⟩
    rw [List.map_append]
    exact r.append (.cons rv .nil)
end
theorem inlL_inj : ∀ a b : List Int, a.map (Sum.inl (β := Str)) = b.map Sum.inl → a = b := by
  intro a
  induction a with
  | nil => intro b h; cases b with
    | nil => rfl
    | cons _ _ => simp at h
  | cons x a ih => intro b h; cases b with
    | nil => simp at h
    | cons y b =>
      simp only [List.map_cons, List.cons.injEq] at h
      rw [Sum.inl.inj h.1, ih b h.2]
theorem inl_inj' : ∀ a b : Int, (Sum.inl a : L2.Key) = Sum.inl b → a = b := fun _ _ h => Sum.inl.inj h
theorem kV_ints (l : List Int) : (l.map (Sum.inl (β := Str))).map L2.kV = l.map V.int := by rw [List.map_map]; rfl
section
variable {fa : FaT}
theorem keyT_rep {W : Wd} {H : Hp} {h : Hq} (k : Hok fa W H h) {u : V} {x : D} {l : List Int} (r : Rdb fa W H u x) (e : keyT x = some l) : ∃ b, u = .ref b ∧ H b = some (.tup ((l.map (Sum.inl (β := Str))).map L2.kV)) := by
  unfold keyT at e
  split at e
  · obtain ⟨b, vs, rfl, h1, _, rl⟩ := r.tup k
    obtain rfl := rl.ints e
    exact ⟨b, rfl, by rw [kV_ints]; exact h1⟩
  · cases e
/-- what a dict has at a key -/
theorem dget_of {W : Wd} {H : Hp} {h : Hq} (k : Hok fa W H h) {v u : V} {x y : D} {o : Option D} (rx : Rdb fa W H v x) (ry : Rdb fa W H u y) (e : lookD x y = some o) :
    ∃ a r, v = .ref a ∧ IsD H a ∧ DGet H a u r ∧ (∀ d, o = some d → ∃ w, r = some w ∧ Rep fa W w d) ∧ (o = none → r = none) := by
  unfold lookD at e
  split at e
  · cases e
    obtain ⟨a, q, rfl, hrd, ob⟩ := rx.dct k rfl
    obtain rfl := ry.int
    cases q <;> first | exact False.elim ob | skip
    obtain ⟨o1, o2⟩ := ob
    obtain ⟨z1, z2⟩ := lkp_rep (inj := (Sum.inl : Int → L2.Key)) inl_inj' _ o1 o2
    exact ⟨a, _, rfl, .inl ⟨_, hrd⟩, .inl ⟨_, _, hrd, rfl, rfl⟩, z1, z2⟩
  · rw [Option.map_eq_some_iff] at e
    obtain ⟨l, hl, rfl⟩ := e
    obtain ⟨a, q, rfl, hrd, ob⟩ := rx.dct k rfl
    obtain ⟨b, rfl, hb⟩ := keyT_rep k ry hl
    cases q <;> first | exact False.elim ob | skip
    obtain ⟨o1, o2⟩ := ob
    obtain ⟨z1, z2⟩ := lkp_rep (inj := (List.map (Sum.inl : Int → L2.Key))) inlL_inj l o1 o2
    exact ⟨a, _, rfl, .inr ⟨_, hrd⟩, .inr ⟨_, _, b, hrd, rfl, hb, rfl⟩, z1, z2⟩
  · cases e
end
section
variable {X : Cx}
theorem ix_dct (hu : X.A.units + 1 < cLine) : IxR X (fun x y H Q => ∃ a v, x = .ref a ∧ DGet H a y (some v) ∧ Q v H) := by
  intro value slice pins s σ H x y v u Q I rx ry h hs
  obtain ⟨a, w, rfl, g, q⟩ := h
  obtain rfl : v = Value.ref a := rx
  exact tail_any (dict_typeIs I g) PySem.F.slot_dict_getitem.lookup (d_getItem hu I g ry fun w' s3 I3 rw' => ⟨w, H, I3, rw', q⟩) hs
/-- a store into a list, a dict -/
def rSetA : TSet := fun o i v H Q => rSetL o i v H Q ∨ ∃ a H', o = .ref a ∧ DPut H a i v H' ∧ Q H'
theorem set_any (hu : X.A.units + 1 < cLine) : PSet X rSetA := by
  intro pins s σ H o i v ov iv u Q I ro ri rv h
  rcases h with h | ⟨a, H', rfl, g, q⟩
  · exact set_list pins s σ H o i v ov iv u Q I ro ri rv h
  · obtain rfl : ov = Value.ref a := ro
    exact d_setItem hu I g ri rv fun s' I' => ⟨H', I', q⟩
end
end Mn

namespace Mn
open PySem L2 PySem.Spec PyProof.Rows
section
variable {fa : FaT}
theorem flat_top {d : D} (h : flat d = true) : isTop d = false := by cases d <;> first | rfl | exact Bool.noConfusion h
/-! ### plain data -/
mutual
theorem plain_dp {K : PySem.W.Frag} {W : Wd} {H : Hp} (sub : ∀ a o, W.F a = some o → H a = some o) : ∀ (n : Nat) (d : D) (v : V), D.plain n d = true → Rep fa W v d → Dp K H v d.py
  | _, .non, _, _, .non => .non
  | _, .bl _, _, _, .bl b => .bl b
  | _, .int _, _, _, .int i => .int i
  | _, .str _, _, _, .str x => .str x
  | n, .tup ds, _, h, .tup e r => .tup (.of (sub _ _ e)) (plain_dpL sub n ds _ (by simpa [D.plain] using h) r)
  | n, .lst ds, _, h, .lst e r => .lst (.of (sub _ _ e)) (plain_dpL sub n ds _ (by simpa [D.plain] using h) r)
  | _, .frl _, _, h, _ => by simp [D.plain] at h
  | _, .dI _ _, _, h, _ => by simp [D.plain] at h
  | _, .dT _ _, _, h, _ => by simp [D.plain] at h
  | _, .rng _ _, _, h, _ => by simp [D.plain] at h
  | _, .rep _, _, h, _ => by simp [D.plain] at h
  | _, .cell _, _, h, _ => by simp [D.plain] at h
  | _, .fn _ _, _, h, _ => by simp [D.plain] at h
theorem plain_dpL {K : PySem.W.Frag} {W : Wd} {H : Hp} (sub : ∀ a o, W.F a = some o → H a = some o) : ∀ (n : Nat) (ds : List D) (vs : List V), D.plainL n ds = true → RepL fa W vs ds → DpAll K H vs (D.pyL ds)
  | _, [], _, _, .nil => .nil
  | 0, _ :: _, _, h, _ => by simp [D.plainL] at h
  | n + 1, d :: ds, _, h, .cons r t => by
    have h' : D.plain n d = true ∧ D.plainL (n + 1) ds = true := by simpa [D.plainL] using h
    exact .cons (plain_dp sub n d _ h'.1 r) (plain_dpL sub (n + 1) ds _ h'.2 t)
end
mutual
theorem plain_lay : ∀ (n : Nat) (d : D), D.plain n d = true → d.py.canLay0 = true ∧ d.py.depth ≤ n + 1
  | _, .non, _ => ⟨rfl, Nat.zero_le _⟩
  | _, .bl _, _ => ⟨rfl, Nat.zero_le _⟩
  | _, .int _, _ => ⟨rfl, Nat.zero_le _⟩
  | _, .str x, h => ⟨by simpa [D.plain, D.py, PyData.canLay0, PyData.strOk] using h, Nat.zero_le _⟩
  | n, .tup ds, h => by
    obtain ⟨a, b⟩ := plain_layL n ds (by simpa [D.plain] using h)
    exact ⟨by simpa [D.py, PyData.canLay0] using a, by simp only [D.py, PyData.depth]; omega⟩
  | n, .lst ds, h => by
    obtain ⟨a, b⟩ := plain_layL n ds (by simpa [D.plain] using h)
    exact ⟨by simpa [D.py, PyData.canLay0] using a, by simp only [D.py, PyData.depth]; omega⟩
  | _, .frl _, h => by simp [D.plain] at h
  | _, .dI _ _, h => by simp [D.plain] at h
  | _, .dT _ _, h => by simp [D.plain] at h
  | _, .rng _ _, h => by simp [D.plain] at h
  | _, .rep _, h => by simp [D.plain] at h
  | _, .cell _, h => by simp [D.plain] at h
  | _, .fn _ _, h => by simp [D.plain] at h
theorem plain_layL : ∀ (n : Nat) (ds : List D), D.plainL n ds = true → PyData.canLayAll0 (D.pyL ds) = true ∧ PyData.depthAll (D.pyL ds) ≤ n
  | _, [], _ => ⟨rfl, Nat.zero_le _⟩
  | 0, _ :: _, h => by simp [D.plainL] at h
  | n + 1, d :: ds, h => by
    have h' : D.plain n d = true ∧ D.plainL (n + 1) ds = true := by simpa [D.plainL] using h
    obtain ⟨a, b⟩ := plain_lay n d h'.1
    obtain ⟨c, e⟩ := plain_layL (n + 1) ds h'.2
    exact ⟨by simp [D.pyL, PyData.canLayAll0, a, c], by simp only [D.pyL, PyData.depthAll]; omega⟩
end
theorem plain_shaped {n : Nat} {d : D} (h : D.plain n d = true) (hn : n ≤ 60) : SeqAt.shaped d.py = true := by
  obtain ⟨a, b⟩ := plain_lay n d h
  unfold SeqAt.shaped
  rw [a, decide_eq_true (by omega)]
  rfl
mutual
theorem plain_eqv : ∀ (n m : Nat) (d e : D), D.plain n d = true → D.plain m e = true → PyData.eqv d.py e.py = D.eqv d e
  | n, m, d, e, h, h' => by
    cases d <;> cases e <;> first
      | (simp [D.plain] at h; done)
      | (simp [D.plain] at h'; done)
      | (simp only [D.py, PyData.eqv, D.eqv]; done)
      | (simp only [D.py, PyData.eqv, D.eqv]; exact plain_eqvL n m _ _ (by simpa [D.plain] using h) (by simpa [D.plain] using h'))
theorem plain_eqvL : ∀ (n m : Nat) (ds es : List D), D.plainL n ds = true → D.plainL m es = true → PyData.eqvAll (D.pyL ds) (D.pyL es) = D.eqvL ds es
  | _, _, [], [], _, _ => rfl
  | _, _, [], _ :: _, _, _ => rfl
  | _, _, _ :: _, [], _, _ => rfl
  | 0, _, _ :: _, _ :: _, h, _ => by simp [D.plainL] at h
  | _ + 1, 0, _ :: _, _ :: _, _, h => by simp [D.plainL] at h
  | n + 1, m + 1, d :: ds, e :: es, h, h' => by
    have k : D.plain n d = true ∧ D.plainL (n + 1) ds = true := by simpa [D.plainL] using h
    have k' : D.plain m e = true ∧ D.plainL (m + 1) es = true := by simpa [D.plainL] using h'
    simp only [D.pyL, PyData.eqvAll, D.eqvL]
    rw [plain_eqv n m d e k.1 k'.1, plain_eqvL (n + 1) (m + 1) ds es k.2 k'.2]
end
mutual
theorem same_eq : ∀ d e : D, D.same d e = true → d = e
  | d, e, h => by
    cases d <;> cases e <;> first
      | rfl
      | (simp [D.same] at h; done)
      | (simp [D.same] at h; subst h; rfl)
      | (simp only [D.same] at h; rw [sameL_eq _ _ h])
      | (simp only [D.same] at h; rw [same_eq _ _ h])
theorem sameL_eq : ∀ ds es : List D, D.sameL ds es = true → ds = es
  | [], [], _ => rfl
  | [], _ :: _, h => by simp [D.sameL] at h
  | _ :: _, [], h => by simp [D.sameL] at h
  | d :: ds, e :: es, h => by
    have h' : D.same d e = true ∧ D.sameL ds es = true := by simpa [D.sameL] using h
    rw [same_eq d e h'.1, sameL_eq ds es h'.2]
end
theorem Rdb.dp {K : PySem.W.Frag} {W : Wd} {H : Hp} {h : Hq} (k : Hok fa W H h) {n : Nat} {v : V} {d : D} (r : Rdb fa W H v d) (p : D.plain n d = true) : Dp K H v d.py := by
  rcases r with r | ⟨a, rfl, _, _, ⟨ds, vs, rfl, hp, rl⟩ | ⟨u, _, o⟩⟩
  · exact plain_dp k.sub n d v p r
  · exact .lst (.of hp) (plain_dpL k.sub n ds vs (by simpa [D.plain] using p) rl)
  · exfalso
    have z := o.is
    cases d <;> first | exact Bool.noConfusion z | (cases n <;> simp [D.plain] at p)

/-! ### comparisons -/
def rCmp (fa : FaT) (op : Cop) : R2 := fun x y H Q => ∃ W h a b d, Hok fa W H h ∧ Rdb fa W H x a ∧ Rdb fa W H y b ∧ cmp op a b = some d ∧ ∀ c, d = .bl c → Q (.bl c) H
def Cop.op : Cop → CmpOp
  | .lt => .Lt | .le => .LtE | .gt => .Gt | .ge => .GtE | .eq => .Eq | .ne => .NotEq | .isin => .In | .notin => .NotIn | .is => .Is | .isnot => .IsNot
theorem cmp_bl {op : Cop} {a b d : D} (e : cmp op a b = some d) : ∃ c, d = .bl c := by
  unfold cmp at e
  split at e
  all_goals first
    | (cases e; exact ⟨_, rfl⟩)
    | (rw [Option.map_eq_some_iff] at e; obtain ⟨c, _, rfl⟩ := e; exact ⟨_, rfl⟩)
    | cases e
theorem rep_flatV {W : Wd} {v : V} {d : D} (r : Rep fa W v d) (h : flat d = true) : flatV v = true := by
  cases r <;> first | rfl | (simp [flat] at h)
theorem repL_flatV {W : Wd} : ∀ {vs : List V} {ds : List D}, RepL fa W vs ds → ds.all flat = true → vs.all flatV = true
  | _, _, .nil, _ => rfl
  | _, _, .cons r t, h => by
    rw [List.all_cons, Bool.and_eq_true] at h
    rw [List.all_cons, rep_flatV r h.1, repL_flatV t h.2]
    rfl
theorem rep_eqV {W : Wd} {v u : V} {d e : D} (r : Rep fa W v d) (r' : Rep fa W u e) (h : flat d = true) (h' : flat e = true) : eqV v u = D.eqv d e := by
  cases r <;> first
    | (simp [flat] at h; done)
    | (cases r' <;> first | (simp [flat] at h'; done) | (simp only [eqV, D.eqv]))
theorem repL_inV {W : Wd} {u : V} {e : D} (r' : Rep fa W u e) (h' : flat e = true) : ∀ {vs : List V} {ds : List D}, RepL fa W vs ds → ds.all flat = true → inV u vs = ds.any fun y => D.eqv y e
  | _, _, .nil, _ => rfl
  | _, _, .cons (v := v) (vs := vs) (d := d) (ds := ds) r t, h => by
    rw [List.all_cons, Bool.and_eq_true] at h
    have z := repL_inV r' h' t h.2
    unfold inV at z ⊢
    rw [List.any_cons, List.any_cons, z, rep_eqV r r' h.1 h']
theorem plainL_any {m : Nat} {e : D} (he : D.plain m e = true) : ∀ (n : Nat) (ds : List D), D.plainL n ds = true → ((D.pyL ds).any fun z => PyData.eqv z e.py) = ds.any fun y => D.eqv y e
  | _, [], _ => rfl
  | 0, _ :: _, h => by simp [D.plainL] at h
  | n + 1, d :: ds, h => by
    have k : D.plain n d = true ∧ D.plainL (n + 1) ds = true := by simpa [D.plainL] using h
    simp only [D.pyL, List.any_cons]
    rw [plain_eqv n m d e k.1 he, plainL_any he (n + 1) ds k.2]
variable {X : Cx}
theorem eq_rule {W : Wd} {H : Hp} {h : Hq} {a b : D} {c : Bool} {pins : List (Addr × Obj)} {s : Shared} {σ : L2.St} {x y : V} {v u : Value} {Q : VK} (hu : X.A.units + 64 < cLine) (I : Inv X pins σ H s) (rx : RelV x v) (ry : RelV y u)
    (k : Hok fa W H h) (ra : Rdb fa W H x a) (rb : Rdb fa W H y b) (e : eqD a b = some c) :
    (Q (.bl c) H → wpAny (model X.prog X.w) X.A (compareOp .Eq v u) (EP X pins σ Q) X.xe s) ∧ (Q (.bl (!c)) H → wpAny (model X.prog X.w) X.A (compareOp .NotEq v u) (EP X pins σ Q) X.xe s) := by
  have gen : ∀ n m, n ≤ 60 → m ≤ 60 → D.plain n a = true → D.plain m b = true → D.eqv a b = c → (Q (.bl c) H → wpAny (model X.prog X.w) X.A (compareOp .Eq v u) (EP X pins σ Q) X.xe s) ∧ (Q (.bl (!c)) H → wpAny (model X.prog X.w) X.A (compareOp .NotEq v u) (EP X pins σ Q) X.xe s) := fun n m hn hm pa pb ec => by
    have e1 : PyData.eqv a.py b.py = c := by rw [plain_eqv n m a b pa pb, ec]
    exact ⟨fun q => op_eqD hu pins s σ H x y v u Q I rx ry ⟨_, _, ra.dp k pa, rb.dp k pb, plain_shaped pa hn, plain_shaped pb hm, by rw [e1]; exact q⟩,
      fun q => op_neD hu pins s σ H x y v u Q I rx ry ⟨_, _, ra.dp k pa, rb.dp k pb, plain_shaped pa hn, plain_shaped pb hm, by rw [e1]; exact q⟩⟩
  unfold eqD at e
  split at e
  · cases e
    exact gen 0 0 (by decide) (by decide) rfl rfl (by simp only [D.eqv]; rw [Bool.beq_eq_decide_eq])
  · split at e
    · rename_i hs
      cases e
      have hd := same_eq _ _ hs
      subst hd
      cases ra.flat (fun _ => by simp) with
      | rep =>
        cases rb.flat (fun _ => by simp) with
        | rep =>
          exact ⟨fun q => op_eq pins s σ H _ _ v u Q I rx ry ⟨rfl, by rw [decide_eq_true rfl]; exact q⟩, fun q => op_ne pins s σ H _ _ v u Q I rx ry ⟨rfl, by rw [decide_eq_true rfl]; exact q⟩⟩
    · cases e
  · split at e
    · rename_i hp
      cases e
      rw [Bool.and_eq_true] at hp
      exact gen 60 60 (by decide) (by decide) hp.1 hp.2 rfl
    · cases e
theorem in_dct {W : Wd} {H : Hp} {h : Hq} {a b : D} {o : Option D} {pins : List (Addr × Obj)} {s : Shared} {σ : L2.St} {x y : V} {v u : Value} {Q : VK} (hu : X.A.units + 1 < cLine) (I : Inv X pins σ H s) (rx : RelV x v) (ry : RelV y u)
    (k : Hok fa W H h) (ra : Rdb fa W H x a) (rb : Rdb fa W H y b) (e : lookD b a = some o) (q : Q (.bl o.isSome) H) : wpAny (model X.prog X.w) X.A (compareOp .In v u) (EP X pins σ Q) X.xe s := by
  obtain ⟨p, r, rfl, _, g, z1, z2⟩ := dget_of k rb ra e
  obtain rfl : u = Value.ref p := ry
  have hs : r.isSome = o.isSome := by
    cases o with
    | none => rw [z2 rfl]; rfl
    | some d => obtain ⟨w, hw, _⟩ := z1 d rfl; rw [hw]; rfl
  exact d_in hu I g rx fun s' I' => ⟨.bl r.isSome, H, I', rfl, by rw [hs]; exact q⟩
theorem notin_dct {W : Wd} {H : Hp} {h : Hq} {a b : D} {o : Option D} {pins : List (Addr × Obj)} {s : Shared} {σ : L2.St} {x y : V} {v u : Value} {Q : VK} (hu : X.A.units + 1 < cLine) (I : Inv X pins σ H s) (rx : RelV x v) (ry : RelV y u)
    (k : Hok fa W H h) (ra : Rdb fa W H x a) (rb : Rdb fa W H y b) (e : lookD b a = some o) (q : Q (.bl (!o.isSome)) H) : wpAny (model X.prog X.w) X.A (compareOp .NotIn v u) (EP X pins σ Q) X.xe s := by
  obtain ⟨p, r, rfl, _, g, z1, z2⟩ := dget_of k rb ra e
  obtain rfl : u = Value.ref p := ry
  have hs : r.isSome = o.isSome := by
    cases o with
    | none => rw [z2 rfl]; rfl
    | some d => obtain ⟨w, hw, _⟩ := z1 d rfl; rw [hw]; rfl
  exact d_notIn hu I g rx fun s' I' => ⟨.bl (!r.isSome), H, I', rfl, by rw [hs]; exact q⟩
theorem op_cmp (hu : X.A.units + 65 < cLine) (op : Cop) : OpR X (compareOp op.op) (rCmp fa op) := by
  intro pins s σ H x y v u Q I rx ry hr
  obtain ⟨W, h, a, b, d, k, ra, rb, e, q⟩ := hr
  unfold cmp at e
  split at e
  · cases e; obtain rfl := ra.int; obtain rfl := rb.int
    exact op_lt pins s σ H _ _ v u Q I rx ry ⟨_, _, rfl, rfl, q _ rfl⟩
  · cases e; obtain rfl := ra.int; obtain rfl := rb.int
    exact op_le pins s σ H _ _ v u Q I rx ry ⟨_, _, rfl, rfl, q _ rfl⟩
  · cases e; obtain rfl := ra.int; obtain rfl := rb.int
    exact op_gt pins s σ H _ _ v u Q I rx ry ⟨_, _, rfl, rfl, q _ rfl⟩
  · cases e; obtain rfl := ra.int; obtain rfl := rb.int
    exact op_ge pins s σ H _ _ v u Q I rx ry ⟨_, _, rfl, rfl, q _ rfl⟩
  · rw [Option.map_eq_some_iff] at e
    obtain ⟨c, ec, rfl⟩ := e
    exact (eq_rule (by omega) I rx ry k ra rb ec).1 (q _ rfl)
  · rw [Option.map_eq_some_iff] at e
    obtain ⟨c, ec, rfl⟩ := e
    exact (eq_rule (by omega) I rx ry k ra rb ec).2 (q _ rfl)
  · rw [Option.map_eq_some_iff] at e
    obtain ⟨c, ec, rfl⟩ := e
    unfold isin at ec
    split at ec
    · split at ec
      · rename_i hf
        cases ec
        rw [Bool.and_eq_true] at hf
        obtain ⟨p, vs, rfl, h1, f1, r1⟩ := rb.tup k
        have r0 := ra.flat (fun ds z => by rw [z] at hf; simp [flat] at hf) (flat_top hf.1)
        refine op_in_seq pins s σ H _ _ v u Q I rx ry ⟨p, vs, rfl, .inr (.of h1), rep_flatV r0 hf.1, repL_flatV r1 hf.2, ?_⟩
        rw [if_neg Bool.false_ne_true, repL_inV r0 hf.1 r1 hf.2]
        exact q _ rfl
      · cases ec
    · split at ec
      · rename_i hf
        cases ec
        rw [Bool.and_eq_true] at hf
        rename_i xs
        have hl : D.plain 60 (.lst xs) = true := by simp only [D.plain]; exact hf.2
        refine op_inD hu pins s σ H _ _ v u Q I rx ry ⟨_, _, ra.dp k hf.1, rb.dp k hl, plain_shaped hf.1 (by decide), plain_shaped hl (by decide), ?_⟩
        rw [plainL_any hf.1 60 _ hf.2]
        exact q _ rfl
      · cases ec
    · rw [Option.map_eq_some_iff] at ec
      obtain ⟨o, eo, rfl⟩ := ec
      exact in_dct (by omega) I rx ry k ra rb eo (q _ rfl)
    · rw [Option.map_eq_some_iff] at ec
      obtain ⟨o, eo, rfl⟩ := ec
      exact in_dct (by omega) I rx ry k ra rb eo (q _ rfl)
    · cases ec
  · rw [Option.map_eq_some_iff] at e
    obtain ⟨c, ec, rfl⟩ := e
    unfold isin at ec
    split at ec
    · split at ec
      · rename_i hf
        cases ec
        rw [Bool.and_eq_true] at hf
        obtain ⟨p, vs, rfl, h1, f1, r1⟩ := rb.tup k
        have r0 := ra.flat (fun ds z => by rw [z] at hf; simp [flat] at hf) (flat_top hf.1)
        refine op_notIn_seq pins s σ H _ _ v u Q I rx ry ⟨p, vs, rfl, .inr (.of h1), rep_flatV r0 hf.1, repL_flatV r1 hf.2, ?_⟩
        rw [if_pos rfl, repL_inV r0 hf.1 r1 hf.2]
        exact q _ rfl
      · cases ec
    · split at ec
      · rename_i hf
        cases ec
        rw [Bool.and_eq_true] at hf
        rename_i xs
        have hl : D.plain 60 (.lst xs) = true := by simp only [D.plain]; exact hf.2
        refine op_notInD hu pins s σ H _ _ v u Q I rx ry ⟨_, _, ra.dp k hf.1, rb.dp k hl, plain_shaped hf.1 (by decide), plain_shaped hl (by decide), ?_⟩
        rw [plainL_any hf.1 60 _ hf.2]
        exact q _ rfl
      · cases ec
    · rw [Option.map_eq_some_iff] at ec
      obtain ⟨o, eo, rfl⟩ := ec
      exact notin_dct (by omega) I rx ry k ra rb eo (q _ rfl)
    · rw [Option.map_eq_some_iff] at ec
      obtain ⟨o, eo, rfl⟩ := ec
      exact notin_dct (by omega) I rx ry k ra rb eo (q _ rfl)
    · cases ec
  · cases e
    cases rb.flat (fun _ => by simp)
    refine op_isN pins s σ H _ _ v u Q I rx ry ⟨rfl, ?_⟩
    have z : decide (x = V.non) = isNon a := by
      rcases ra with r | ⟨p, rfl, _, _, ⟨ds, vs, rfl, _⟩ | ⟨u, _, o⟩⟩
      · cases r <;> first | rfl | (simp; done)
      · rfl
      · have z := o.is
        cases a <;> first | exact Bool.noConfusion z | rfl
    rw [z]
    exact q _ rfl
  · cases e
    cases rb.flat (fun _ => by simp)
    refine op_notN pins s σ H _ _ v u Q I rx ry ⟨rfl, ?_⟩
    have z : (!decide (x = V.non)) = (!isNon a) := by
      rcases ra with r | ⟨p, rfl, _, _, ⟨ds, vs, rfl, _⟩ | ⟨u, _, o⟩⟩
      · cases r <;> first | rfl | (simp; done)
      · rfl
      · have z := o.is
        cases a <;> first | exact Bool.noConfusion z | rfl
    rw [z]
    exact q _ rfl
  · cases e
end
end Mn

namespace Mn
open PySem L2 PySem.Spec PyProof.Rows
/-! ### built-ins over tuples of ints -/
section
variable {prog : Program} {w : World} {A : Around} {E : Value → Shared → Prop} {s : Shared} {l : Addr} {its : List Value} {ns : List Int} {Q : Value → Shared → Prop} {xs : Array (Int × Tok)}
theorem iter_tup (hl : s.heap.IsTuple l (intItems xs))
    (h : ∀ s2 : Shared, s2 = { s with heap := s.heap.push { cls := .type "tuple_iterator", data := .fields #[.ref l, .int 0 0] } } →
      (s2.heap.IsTupleIter s.heap.objs.size l 0 ∧ s2.heap.IsTuple l (intItems xs)) → (∀ b ∈ [s.heap.objs.size, l], b < s2.heap.objs.size) → l ≠ s.heap.objs.size → Q (.ref s.heap.objs.size) s2) :
    wpAny (model prog w) A (pyIter (.ref l)) Q E s := by
  have hlt : l < s.heap.objs.size := by
    obtain ⟨_, e, _⟩ := hl
    exact Heap.lt_size e
  refine wpAny_pyIter_tuple hl (h _ rfl ⟨⟨_, Heap.get?_push_size _ rfl, rfl, rfl⟩, ?_⟩ (fun b hb => ?_) (Nat.ne_of_lt hlt))
  · obtain ⟨o, e, r⟩ := hl
    exact ⟨o, Heap.get?_push_of_some _ e, r⟩
  · simp only [List.mem_cons, List.not_mem_nil, or_false] at hb
    simp only [Heap.size_push]
    rcases hb with rfl | rfl
    · exact Nat.lt_succ_self _
    · exact Nat.lt_succ_of_lt hlt
theorem keptT {h' : Heap} (hk : ∀ b o, b ∉ [s.heap.objs.size] → (s.heap.push { cls := .type "tuple_iterator", data := .fields #[.ref l, .int 0 0] }).get? b = some o → h'.get? b = some o) :
    ∀ b o, s.heap.get? b = some o → h'.get? b = some o := fun b o e => by
  refine hk b o (fun hm => ?_) (Heap.get?_push_of_some _ e)
  simp only [List.mem_singleton] at hm
  subst hm
  exact absurd (Heap.lt_size e) (Nat.lt_irrefl _)
theorem sum_tupI (hh : A.handled = none) (hl : s.heap.IsTuple l its.toArray) (hi : IntsAre its ns)
    (h : ∀ h' tk t', (∀ b o, s.heap.get? b = some o → h'.get? b = some o) → Q (.int ns.sum t') { s with heap := h', toks := tk }) : wpAny (model prog w) A (call (.builtin "sum") [.ref l]) Q E s := by
  obtain ⟨xs, e⟩ := hi.allInts.items
  have hn : numsOf (intItems xs).toList = ns := by rw [← e]; exact hi.numsOf
  rw [nums_intItems] at hn
  rw [e] at hl
  refine call_sum_walkG (iter_tup hl fun s2 e2 st hfp hne => ?_)
  subst e2
  refine ⟨_, _, _, _, _, _, numAt xs, rfl, Walks.tuple (A := A.in1) hh _ l hne (intItems xs), st, hfp, (fun _ _ => intItems_at), fun h' tk t' hk => ?_⟩
  have z := h h' tk t' (keptT hk)
  have zz : preSum (numAt xs) (intItems xs).size = ns.sum := by
    rw [show (intItems xs).size = xs.size by simp [intItems], preSum_eq, List.take_of_length_le (by simp), hn]
  rw [zz]
  exact z
theorem max_tupI (hh : A.handled = none) (hl : s.heap.IsTuple l its.toArray) (hi : IntsAre its ns) (hne : 0 < ns.length)
    (h : ∀ h' tk M t', (∀ b o, s.heap.get? b = some o → h'.get? b = some o) → M ∈ ns → (∀ a, a ∈ ns → a ≤ M) → Q (.int M t') { s with heap := h', toks := tk }) : wpAny (model prog w) A (call (.builtin "max") [.ref l]) Q E s := by
  obtain ⟨xs, e⟩ := hi.allInts.items
  have hn : numsOf (intItems xs).toList = ns := by rw [← e]; exact hi.numsOf
  rw [nums_intItems] at hn
  subst hn
  rw [e] at hl
  have hsz : 0 < xs.size := by simpa using hne
  refine call_max_walk (iter_tup hl fun s2 e2 st hfp hd => ?_)
  subst e2
  refine ⟨_, _, _, _, _, _, _, rfl, Walks.tuple (A := A.in1) hh _ l hd (intItems xs), st, hfp, by simpa [intItems] using hsz, CmpOf.ints_gt (numAt xs) (fun _ _ => intItems_at), fun v h' tk hP hk => ?_⟩
  have hP' : (intItems xs)[argBest (fun i j => decide (numAt xs i > numAt xs j)) (xs.size - 1)]? = some v := by simpa [intItems] using hP
  obtain ⟨t, rfl⟩ := intItems_at hP'
  obtain ⟨h1, h2⟩ := argBest_gt (numAt xs) (xs.size - 1)
  refine h h' tk _ t (keptT hk) ?_ fun a ha => ?_
  · rw [numAt_eq]; exact PySem.getD_mem (by rw [List.length_map]; simp only [Array.length_toList, gt_iff_lt] at *; omega)
  · obtain ⟨j, hj, rfl⟩ := mem_getD ha
    simp only [List.length_map, Array.length_toList] at hj
    rw [← numAt_eq]; exact h2 j (by omega)
theorem min_tupI (hh : A.handled = none) (hl : s.heap.IsTuple l its.toArray) (hi : IntsAre its ns) (hne : 0 < ns.length)
    (h : ∀ h' tk M t', (∀ b o, s.heap.get? b = some o → h'.get? b = some o) → M ∈ ns → (∀ a, a ∈ ns → M ≤ a) → Q (.int M t') { s with heap := h', toks := tk }) : wpAny (model prog w) A (call (.builtin "min") [.ref l]) Q E s := by
  obtain ⟨xs, e⟩ := hi.allInts.items
  have hn : numsOf (intItems xs).toList = ns := by rw [← e]; exact hi.numsOf
  rw [nums_intItems] at hn
  subst hn
  rw [e] at hl
  have hsz : 0 < xs.size := by simpa using hne
  refine call_min_walk (iter_tup hl fun s2 e2 st hfp hd => ?_)
  subst e2
  refine ⟨_, _, _, _, _, _, _, rfl, Walks.tuple (A := A.in1) hh _ l hd (intItems xs), st, hfp, by simpa [intItems] using hsz, CmpOf.ints_lt (numAt xs) (fun _ _ => intItems_at), fun v h' tk hP hk => ?_⟩
  have hP' : (intItems xs)[argBest (fun i j => decide (numAt xs i < numAt xs j)) (xs.size - 1)]? = some v := by simpa [intItems] using hP
  obtain ⟨t, rfl⟩ := intItems_at hP'
  obtain ⟨h1, h2⟩ := argBest_lt (numAt xs) (xs.size - 1)
  refine h h' tk _ t (keptT hk) ?_ fun a ha => ?_
  · rw [numAt_eq]; exact PySem.getD_mem (by simp; omega)
  · obtain ⟨j, hj, rfl⟩ := mem_getD ha
    simp only [List.length_map, Array.length_toList] at hj
    rw [← numAt_eq]; exact h2 j (by omega)
/-- collect of a tuple, as of a list -/
theorem collect_tup {vs : List Value} {Q : List Value → Shared → Prop} (hl : s.heap.IsTuple l vs.toArray)
    (h : Q vs { s with heap := (s.heap.push (seqObj "list" #[] 0)).update s.heap.objs.size (Obj.mapSeq (· ++ vs.toArray)) }) (hsz : vs.length ≤ sizeLine) : wpAny (model prog w) A (collect (.ref l)) Q E s := by
  obtain ⟨o, ho, hc, n, hd⟩ := id hl
  unfold collect
  refine wpAny_bind (wpAny_runValue (codeAny_builtin entry_proto_collect' ?_)); show wpAny _ _ (do again (.builtin "list.__iadd__" ⟨[← newList [], .ref l], []⟩)) _ _ s
  refine wpAny_bind (wpAny_newList (wpAny_pure ⟨Code.quiet_builtin _ (by decide +kernel), codeAny_builtin entry_list_iadd' ?_⟩)); show wpAny _ _ (Builtin.List.listExtendWith (.ref s.heap.objs.size) (.ref l) (.ref s.heap.objs.size)) _ _ { s with heap := s.heap.push (seqObj "list" #[] 0) }
  unfold Builtin.List.listExtendWith
  have hT : (s.heap.push (seqObj "list" #[] 0)).get? l = some o := Heap.get?_push_of_some _ ho
  have hN : (s.heap.push (seqObj "list" #[] 0)).get? s.heap.objs.size = some (seqObj "list" #[] 0) := Heap.get?_push_size _ rfl
  refine wpAny_bind (wpAny_typeOf (T := "tuple") ⟨o, hT, hc⟩ ?_)
  rw [if_pos (by rw [show (Value.type "tuple" == Value.type "tuple") = true by rfl]; simp)]
  refine wpAny_bind (listItems_at hT hd (wpAny_bind (listItems_at (xs := #[]) (n := 0) hN rfl ?_)))
  rw [if_neg (by simp)]
  have hz : (#[] ++ vs.toArray).size ≤ sizeLine + 1 := by simp; omega
  refine wpAny_bind (listUpdate_at (xs := #[]) (n := 0) hN rfl (wpAny_pure ?_) (Nat.zero_le _) hz)
  refine wpAny_bind (wpAny_load (get?_update_seq hN _) ?_)
  show wpAny _ _ (pure ((#[] : Array Value) ++ vs.toArray).toList) Q E _
  rw [show ((#[] : Array Value) ++ vs.toArray).toList = vs by simp]
  exact wpAny_pure h
/-- sorted(t), sorted(t, reverse=b) of a tuple -/
theorem sorted_tupK {vs : List Value} {b : Bool} {kw : List (Str × Value)} {ltv : Value → Value → Bool} {Q : Value → Shared → Prop} (hk : ∀ a, Builtin.«list.sort» ⟨[.ref a], kw⟩ = Builtin.«list.sort» ⟨[.ref a], [(Str.ofString "reverse", .bool b)]⟩)
    (ha1 : argsOk "sorted" ⟨[.ref l], kw⟩) (ha2 : ∀ a, argsOk "list.sort" ⟨[a], kw⟩) (O : SrtO.Swo ltv) (hl : s.heap.IsTuple l vs.toArray) (hz : vs.length ≤ sizeLine)
    (hS : 2 ≤ vs.length → ∀ (h1 : Heap) (a : Addr), h1.get? a = some (seqObj "list" vs.toArray 0) → (∀ b o, s.heap.get? b = some o → b ≠ a ∧ h1.get? b = some o) → SrtO.SortableO prog w A.in1.in1 { s with heap := h1 } a vs ltv)
    (h : ∀ out : List Value, SrtO.Srtd ltv out → SrtO.Stb ltv out (if b = true then vs.reverse else vs) → Q (.ref (s.heap.objs.size + 1)) { s with heap := sortedAll s.heap vs (if b = true then out.toArray.reverse else out.toArray) }) :
    wpAny (model prog w) A (call (.builtin "sorted") [.ref l] kw) Q E s := by
  refine call_function_entry_kw kind_sorted plain_sorted entry_sorted ha1 ?_
  unfold Builtin.«sorted»
  refine wpAny_bind (m := checkCount "sorted" 1 1 _) (wpAny_pure (wpAny_bind (collect_tup hl (wpAny_bind (wpAny_newList ?_ hz)) hz)))
  generalize hh : (s.heap.push (seqObj "list" #[] 0)).update s.heap.objs.size (Obj.mapSeq (· ++ vs.toArray)) = h1
  have hsz : h1.objs.size = s.heap.objs.size + 1 := by rw [← hh, Heap.size_update, size_push']
  have old : ∀ b o, s.heap.get? b = some o → h1.get? b = some o := fun b o q => by
    rw [← hh, Heap.get?_update_ne _ _ _ _ (Nat.ne_of_lt (Heap.lt_size q))]
    exact Heap.get?_push_of_some _ q
  have hoL : (h1.push (seqObj "list" vs.toArray 0)).get? (s.heap.objs.size + 1) = some (seqObj "list" vs.toArray 0) := by rw [← hsz]; exact Heap.get?_push_size _ rfl
  show wpAny _ _ _ _ _ { s with heap := h1.push (seqObj "list" vs.toArray 0) }
  rw [hsz]
  refine wpAny_bind (wpAny_holding (wpAny_call_entry_kw slot_list_sort ⟨_, hoL, rfl⟩ entry_list_sort ?_ (ha2 _)))
  rw [hk]
  refine SrtR.list_sort_ordR O hoL hz (fun h2 => hS h2 _ _ hoL fun b o q => ⟨Nat.ne_of_lt (Nat.lt_succ_of_lt (Heap.lt_size q)), Heap.get?_push_of_some _ (old b o q)⟩) fun out hs hb => ⟨_, rfl, wpAny_pure ⟨_, rfl, ?_⟩⟩
  subst hh
  exact h out hs hb
end
end Mn

namespace Mn
open PySem L2 PySem.Spec PyProof.Rows
/-! ### rows in order -/
mutual
theorem alk_py : ∀ x y : D, D.alk x y = true → PySem.W.alike x.py y.py = true
  | .int i, .int j, _ => by simp [D.py, PySem.W.alike]
  | .tup xs, .tup ys, h => by
    have h : D.alkL xs ys = true := h
    simp only [D.py, PySem.W.alike]
    exact alkL_py xs ys h
theorem alkL_py : ∀ xs ys : List D, D.alkL xs ys = true → PySem.W.alikeAll (D.pyL xs) (D.pyL ys) = true
  | [], _, _ => by simp [D.pyL, PySem.W.alikeAll]
  | _ :: _, [], _ => by simp [D.pyL, PySem.W.alikeAll]
  | x :: xs, y :: ys, h => by
    have h : (D.alk x y && D.alkL xs ys) = true := h
    rw [Bool.and_eq_true] at h
    simp only [D.pyL, PySem.W.alikeAll, Bool.and_eq_true]
    exact ⟨alk_py x y h.1, alkL_py xs ys h.2⟩
end
mutual
theorem alk_eqv : ∀ x y : D, D.alk x y = true → PyData.eqv x.py y.py = D.eqv x y
  | .int i, .int j, _ => by simp [D.py, PyData.eqv, D.eqv]
  | .tup xs, .tup ys, h => by
    have h : D.alkL xs ys = true := h
    simp only [D.py, PyData.eqv, D.eqv]
    exact alkL_eqv xs ys h
theorem alkL_eqv : ∀ xs ys : List D, D.alkL xs ys = true → PyData.eqvAll (D.pyL xs) (D.pyL ys) = D.eqvL xs ys
  | [], [], _ => by simp [D.pyL, PyData.eqvAll, D.eqvL]
  | [], _ :: _, _ => by simp [D.pyL, PyData.eqvAll, D.eqvL]
  | _ :: _, [], _ => by simp [D.pyL, PyData.eqvAll, D.eqvL]
  | x :: xs, y :: ys, h => by
    have h : (D.alk x y && D.alkL xs ys) = true := h
    rw [Bool.and_eq_true] at h
    simp only [D.pyL, PyData.eqvAll, D.eqvL, alk_eqv x y h.1, alkL_eqv xs ys h.2]
end
mutual
theorem alk_lt : ∀ x y : D, D.alk x y = true → PySem.W.dataLt x.py y.py = D.lt x y
  | .int i, .int j, _ => by
    simp only [D.py, D.lt, PySem.W.dataLt, PySem.W.keyToks, PyProof.Rows.lexLt, itemOrd, itemLt]
    simp
  | .tup xs, .tup ys, h => by
    have h : D.alkL xs ys = true := h
    exact alkL_lt xs ys h
theorem alkL_lt : ∀ xs ys : List D, D.alkL xs ys = true → PySem.W.rowLt (D.pyL xs) (D.pyL ys) = D.ltL xs ys
  | [], [], _ => by
    simp [D.pyL, PySem.W.rowLt, PySem.W.keyToksAll, PyProof.Rows.lexLt, itemOrd, itemLt, D.ltL]
  | [], _ :: _, _ => by
    simp [D.pyL, PySem.W.rowLt, PySem.W.keyToksAll, PyProof.Rows.lexLt, itemOrd, itemLt, D.ltL]
  | _ :: _, [], _ => by
    simp [D.pyL, PySem.W.rowLt, PySem.W.keyToksAll, PyProof.Rows.lexLt, itemOrd, itemLt, D.ltL]
  | x :: xs, y :: ys, h => by
    have h : (D.alk x y && D.alkL xs ys) = true := h
    rw [Bool.and_eq_true] at h
    have z := PySem.W.dataLt_cons (alk_py x y h.1) (D.pyL xs) (D.pyL ys)
    show PyProof.Rows.lexLt itemOrd (PySem.W.keyToksAll (x.py :: D.pyL xs)) (PySem.W.keyToksAll (y.py :: D.pyL ys)) = _
    rw [z, alk_eqv x y h.1, alk_lt x y h.1]
    have q : PyProof.Rows.lexLt itemOrd (PySem.W.keyToksAll (D.pyL xs)) (PySem.W.keyToksAll (D.pyL ys)) = D.ltL xs ys := alkL_lt xs ys h.2
    rw [q]
    rfl
end
mutual
theorem alk_eq : ∀ x y : D, D.alk x y = true → D.eqv x y = true → x = y
  | .int i, .int j, _, h => by
    have h : (i == j) = true := h
    rw [beq_iff_eq.mp h]
  | .tup xs, .tup ys, h, e => by rw [alkL_eq xs ys h e]
theorem alkL_eq : ∀ xs ys : List D, D.alkL xs ys = true → D.eqvL xs ys = true → xs = ys
  | [], [], _, _ => rfl
  | [], _ :: _, _, h => Bool.noConfusion h
  | _ :: _, [], _, h => Bool.noConfusion h
  | x :: xs, y :: ys, h, e => by
    have h : (D.alk x y && D.alkL xs ys) = true := h
    have e : (D.eqv x y && D.eqvL xs ys) = true := e
    rw [Bool.and_eq_true] at h e
    rw [alk_eq x y h.1 e.1, alkL_eq xs ys h.2 e.2]
end
mutual
theorem alk_anti : ∀ x y : D, D.alk x y = true → D.lt x y = false → D.lt y x = false → x = y
  | .int i, .int j, _, h1, h2 => by
    have h1 : decide (i < j) = false := h1
    have h2 : decide (j < i) = false := h2
    simp only [decide_eq_false_iff_not] at h1 h2
    rw [show i = j by omega]
  | .tup xs, .tup ys, h, h1, h2 => by rw [alkL_anti xs ys h h1 h2]
theorem alkL_anti : ∀ xs ys : List D, D.alkL xs ys = true → D.ltL xs ys = false → D.ltL ys xs = false → xs = ys
  | [], [], _, _, _ => rfl
  | [], _ :: _, _, h, _ => Bool.noConfusion h
  | _ :: _, [], _, _, h => Bool.noConfusion h
  | x :: xs, y :: ys, h, h1, h2 => by
    have h : (D.alk x y && D.alkL xs ys) = true := h
    rw [Bool.and_eq_true] at h
    have h1 : (if D.eqv x y then D.ltL xs ys else D.lt x y) = false := h1
    have h2 : (if D.eqv y x then D.ltL ys xs else D.lt y x) = false := h2
    by_cases e : D.eqv x y = true
    · have e' := alk_eq x y h.1 e
      subst e'
      rw [if_pos e] at h1 h2
      rw [alkL_anti xs ys h.2 h1 h2]
    · rw [if_neg e] at h1
      by_cases e2 : D.eqv y x = true
      · exfalso
        have hc : PyData.eqv y.py x.py = PyData.eqv x.py y.py := PySem.W.eqv_comm _ _
        have z := alk_eqv x y h.1
        have z2 := alk_eqv y x (by
          have q := PySem.W.alike_comm x.py y.py
          exact alk_comm x y h.1)
        rw [z, z2, e2] at hc
        exact e hc.symm
      · rw [if_neg e2] at h2
        have q := alk_anti x y h.1 h1 h2
        subst q
        exfalso
        exact e (alk_refl x h.1)
theorem alk_comm : ∀ x y : D, D.alk x y = true → D.alk y x = true
  | .int i, .int j, h => h
  | .tup xs, .tup ys, h => alkL_comm xs ys h
theorem alkL_comm : ∀ xs ys : List D, D.alkL xs ys = true → D.alkL ys xs = true
  | [], [], _ => rfl
  | [], _ :: _, _ => rfl
  | _ :: _, [], _ => rfl
  | x :: xs, y :: ys, h => by
    have h : (D.alk x y && D.alkL xs ys) = true := h
    rw [Bool.and_eq_true] at h
    show (D.alk y x && D.alkL ys xs) = true
    rw [alk_comm x y h.1, alkL_comm xs ys h.2]; rfl
theorem alk_refl : ∀ x : D, D.alk x x = true → D.eqv x x = true
  | .int i, _ => by simp [D.eqv]
  | .tup xs, h => alkL_refl xs h
theorem alkL_refl : ∀ xs : List D, D.alkL xs xs = true → D.eqvL xs xs = true
  | [], _ => rfl
  | x :: xs, h => by
    have h : (D.alk x x && D.alkL xs xs) = true := h
    rw [Bool.and_eq_true] at h
    show (D.eqv x x && D.eqvL xs xs) = true
    rw [alk_refl x h.1, alkL_refl xs h.2]; rfl
end
/-- the order of rows -/
abbrev leD : D → D → Bool := PySem.W.dataLe false D.py
theorem leD_eq (a b : D) : leD a b = !PySem.W.dataLt b.py a.py := rfl
theorem leD_total (a b : D) : (leD a b || leD b a) = true := by
  rw [leD_eq, leD_eq]
  cases h : PySem.W.dataLt b.py a.py with
  | false => rfl
  | true =>
    cases h2 : PySem.W.dataLt a.py b.py with
    | false => rfl
    | true =>
      have z := (PyProof.Rows.listOrd itemOrd).trans _ _ _ h h2
      rw [(PyProof.Rows.listOrd itemOrd).irrefl] at z
      cases z
theorem leD_trans (a b c : D) (h1 : leD a b = true) (h2 : leD b c = true) : leD a c = true := by
  rw [leD_eq] at h1 h2 ⊢
  cases h : PySem.W.dataLt c.py a.py with
  | false => rfl
  | true =>
    rcases (PyProof.Rows.listOrd itemOrd).negTrans _ (PySem.W.keyToks b.py) _ h with z | z
    · have z : PySem.W.dataLt c.py b.py = true := z
      rw [z] at h2; cases h2
    · have z : PySem.W.dataLt b.py a.py = true := z
      rw [z] at h1; cases h1
theorem leD_alk {a b : D} (h : D.alk b a = true) : leD a b = !D.lt b a := by rw [leD_eq, alk_lt b a h]
theorem leD_anti {a b : D} (h : D.alk a b = true) (h1 : leD a b = true) (h2 : leD b a = true) : a = b := by
  rw [leD_alk (alk_comm a b h)] at h1
  rw [leD_alk h] at h2
  exact alk_anti a b h (by simpa using h2) (by simpa using h1)
theorem insD_perm (x : D) : ∀ l : List D, (insD x l).Perm (x :: l)
  | [] => .refl _
  | y :: l => by
    unfold insD
    split
    · exact ((insD_perm x l).cons y).trans (.swap x y l)
    · exact .refl _
theorem sortD_perm : ∀ l : List D, (sortD l).Perm l
  | [] => .refl _
  | x :: l => (insD_perm x _).trans ((sortD_perm l).cons x)
theorem insD_sorted (x : D) : ∀ l : List D, (∀ y ∈ l, D.alk y x = true) → l.Pairwise (fun a b => leD a b = true) → (insD x l).Pairwise (fun a b => leD a b = true)
  | [], _, _ => by unfold insD; simp
  | y :: l, hk, h => by
    unfold insD
    rw [List.pairwise_cons] at h
    have ky := hk y List.mem_cons_self
    split
    · rename_i hx
      have e1 : leD y x = true := by
        have t := leD_total y x
        rw [leD_alk ky, hx] at t
        simpa using t
      rw [List.pairwise_cons]
      refine ⟨fun z hz => ?_, insD_sorted x l (fun z hz => hk z (List.mem_cons_of_mem _ hz)) h.2⟩
      rcases List.mem_cons.mp ((insD_perm x l).mem_iff.mp hz) with rfl | hz
      · exact e1
      · exact h.1 z hz
    · rename_i hx
      have e1 : leD x y = true := by rw [leD_alk ky]; simpa using hx
      rw [List.pairwise_cons, List.pairwise_cons]
      refine ⟨fun z hz => ?_, h⟩
      rcases List.mem_cons.mp hz with rfl | hz
      · exact e1
      · exact leD_trans x y z e1 (h.1 z hz)
theorem sortD_sorted : ∀ l : List D, (∀ x ∈ l, ∀ y ∈ l, D.alk x y = true) → (sortD l).Pairwise (fun a b => leD a b = true)
  | [], _ => .nil
  | x :: l, h => insD_sorted x _ (fun y hy => h y (List.mem_cons_of_mem _ ((sortD_perm l).mem_iff.mp hy)) x List.mem_cons_self) (sortD_sorted l fun a ha b hb => h a (List.mem_cons_of_mem _ ha) b (List.mem_cons_of_mem _ hb))
theorem merge_sortD (l : List D) (h : ∀ x ∈ l, ∀ y ∈ l, D.alk x y = true) : l.mergeSort (PySem.W.dataLe false D.py) = sortD l := by
  have p : (l.mergeSort leD).Perm (sortD l) := (List.mergeSort_perm l leD).trans (sortD_perm l).symm
  refine p.eq_of_pairwise (fun a b ha hb h1 h2 => ?_) (List.pairwise_mergeSort leD_trans leD_total l) (sortD_sorted l h)
  exact leD_anti (h a ((List.mergeSort_perm l leD).mem_iff.mp ha) b ((sortD_perm l).mem_iff.mp hb)) h1 h2
theorem srt_alk {xs : List D} (h : srtOk xs = true) : D.plainL 60 xs = true ∧ (∀ x ∈ xs, ∀ y ∈ xs, D.alk x y = true) ∧ ∀ x ∈ xs, ∃ z r, x = .tup (z :: r) := by
  unfold srtOk at h
  rw [Bool.and_eq_true, Bool.and_eq_true] at h
  obtain ⟨⟨h1, h2⟩, h3⟩ := h
  refine ⟨h1, fun x hx y hy => List.all_eq_true.mp (List.all_eq_true.mp h3 x hx) y hy, fun x hx => ?_⟩
  have z := List.all_eq_true.mp h2 x hx
  unfold D.row at z
  split at z
  · exact ⟨_, _, rfl⟩
  · cases z
mutual
theorem plain_depth : ∀ (n : Nat) (d : D), D.plain n d = true → d.py.depth ≤ n + 1
  | _, .non, _ => by simp [D.py, PyData.depth]
  | _, .bl _, _ => by simp [D.py, PyData.depth]
  | _, .int _, _ => by simp [D.py, PyData.depth]
  | _, .str _, _ => by simp [D.py, PyData.depth]
  | n, .tup ds, h => by
    have z := plain_depthL n ds (by simpa [D.plain] using h)
    simp only [D.py, PyData.depth]; omega
  | n, .lst ds, h => by
    have z := plain_depthL n ds (by simpa [D.plain] using h)
    simp only [D.py, PyData.depth]; omega
  | _, .frl _, h => by simp [D.plain] at h
  | _, .dI _ _, h => by simp [D.plain] at h
  | _, .dT _ _, h => by simp [D.plain] at h
  | _, .rng _ _, h => by simp [D.plain] at h
  | _, .rep _, h => by simp [D.plain] at h
  | _, .cell _, h => by simp [D.plain] at h
  | _, .fn _ _, h => by simp [D.plain] at h
theorem plain_depthL : ∀ (n : Nat) (ds : List D), D.plainL n ds = true → PyData.depthAll (D.pyL ds) ≤ n
  | _, [], _ => by simp [D.pyL, PyData.depthAll]
  | 0, _ :: _, h => by simp [D.plainL] at h
  | n + 1, d :: ds, h => by
    have h' : D.plain n d = true ∧ D.plainL (n + 1) ds = true := by simpa [D.plainL] using h
    have z := plain_depth n d h'.1
    have t := plain_depthL (n + 1) ds h'.2
    simp only [D.pyL, PyData.depthAll]; omega
end
theorem pyL_map : ∀ ds : List D, D.pyL ds = ds.map D.py
  | [] => rfl
  | d :: ds => by rw [D.pyL, pyL_map ds]; rfl
section
variable {fa : FaT} {X : Cx}
/-- the values of a row, each with its data -/
theorem each_of {W : Wd} : ∀ {vs : List V} {us : List Value} {ds : List D}, Vals vs us → RepL fa W vs ds → PySem.W.EachIs (fun u d => ∃ v, RelV v u ∧ Rep fa W v d) us ds
  | _, _, _, .nil, .nil => .nil
  | _, _, _, .cons r t, .cons q s => .cons ⟨_, r, q⟩ (each_of t s)
theorem of_each {W : Wd} : ∀ {us : List Value} {ds : List D}, PySem.W.EachIs (fun u d => ∃ v, RelV v u ∧ Rep fa W v d) us ds → ∃ vs, Vals vs us ∧ RepL fa W vs ds
  | _, _, .nil => ⟨[], .nil, .nil⟩
  | _, _, .cons ⟨v, r, q⟩ t => by
    obtain ⟨vs, h1, h2⟩ := of_each t
    exact ⟨v :: vs, .cons r h1, .cons q h2⟩
theorem each_reads {pins : List (Addr × Obj)} {s : Shared} {σ : L2.St} {W : Wd} {H : Hp} {h : Hq} (I : Inv X pins σ H s) (k : Hok fa W H h) : ∀ {n : Nat} {vs : List V} {us : List Value} {ds : List D}, D.plainL n ds = true → Vals vs us → RepL fa W vs ds → PySem.W.EachIs (fun u d => ∃ as, Reads s.heap u (D.py d) as) us ds
  | _, _, _, _, _, .nil, .nil => .nil
  | 0, _, _, _ :: _, hp, .cons r t, .cons q s => by simp [D.plainL] at hp
  | n + 1, _, _, d :: ds, hp, .cons r t, .cons q s => by
    have h' : D.plain n d = true ∧ D.plainL (n + 1) ds = true := by simpa [D.plainL] using hp
    exact .cons (Dp.reads I _ _ _ (Rdb.dp k (.inl q) h'.1) r) (each_reads I k h'.2 t s)
theorem sorted_rows {pins : List (Addr × Obj)} {s : Shared} {σ : L2.St} {W : Wd} {H : Hp} {h : Hq} {a : Addr} {vs : List V} {ds : List D} {Q : VK} (hu : X.A.units + 65 < cLine) (I : Inv X pins σ H s) (k : Hok fa W H h) (ha : H a = some (.lst vs)) (r : RepL fa W vs ds) (ok : srtOk ds = true)
    (q : ∀ p ws, H p = none → RepL fa W ws (sortD ds) → Q (.ref p) (upd H p (.lst ws))) : wpAny (model X.prog X.w) X.A (call (.builtin "sorted") [.ref a]) (EP X pins σ Q) X.xe s := by
  obtain ⟨k1, k2, k3⟩ := srt_alk ok
  obtain ⟨its, rv, hl, hz⟩ := I.list (.inl (.of ha))
  have hlen : its.length = ds.length := by rw [← rv.length, r.length]
  refine PySem.W.sorted_data (enc := D.py) (R := fun u d => ∃ v, RelV v u ∧ Rep fa W v d) hl.isList (each_of rv r) (each_reads I k k1 rv r) (fun d hd d' hd' => ?_) (.inl fun d hd => ?_) (by rw [← r.length]; exact hz) (fun b hb => ?_) fun out ho he => ?_
  · obtain ⟨x, hx, rfl⟩ := List.mem_map.mp hd
    obtain ⟨y, hy, rfl⟩ := List.mem_map.mp hd'
    exact alk_py x y (k2 x hx y hy)
  · obtain ⟨x, hx, rfl⟩ := List.mem_map.mp hd
    obtain ⟨z, l, rfl⟩ := k3 x hx
    exact ⟨z.py, D.pyL l, rfl⟩
  · have hp : ∀ (n : Nat) (l : List D), D.plainL n l = true → ∀ b ∈ l, b.py.depth ≤ n := by
      intro n l
      induction l with
      | nil => intro _ b hb; cases hb
      | cons d l ih =>
        intro hp b hb
        cases n with
        | zero => simp [D.plainL] at hp
        | succ n =>
          have h' : D.plain n d = true ∧ D.plainL (n + 1) l = true := by simpa [D.plainL] using hp
          rcases List.mem_cons.mp hb with rfl | hb
          · exact plain_depth n b h'.1
          · exact ih h'.2 b hb
    have z := hp 60 ds k1 b hb
    omega
  · rw [merge_sortD ds k2] at he
    obtain ⟨ws, h1, h2⟩ := of_each he
    obtain ⟨ep, he'⟩ := PyProof.Rows.sortedAll_at s.heap its (List.toArray out)
    have hl2 : ws.length ≤ sizeLine := by
      rw [h1.length, ho, ← r.length]; exact hz
    have J : Inv X pins σ (upd H (s.heap.objs.size + 1) (.lst ws)) { s with heap := sortedAll s.heap its (List.toArray out) } :=
      I.laid (t' := s.toks) (fun _ _ => PyProof.Rows.sortedAll_old) (Nat.le_succ _) ⟨hl2, _, ep, h1, he'⟩
    exact ⟨.ref _, _, J, rfl, q _ _ (I.hok.fresh (Nat.le_succ _)) h2⟩
theorem reads_all {pins : List (Addr × Obj)} {s : Shared} {σ : L2.St} {W : Wd} {H : Hp} {h : Hq} (I : Inv X pins σ H s) (k : Hok fa W H h) {n : Nat} {vs : List V} {us : List Value} {ds : List D} (hp : D.plainL n ds = true) (rv : Vals vs us) (r : RepL fa W vs ds) : ∃ as, ReadsAll s.heap us (D.pyL ds) as := by
  rw [pyL_map]
  exact PySem.W.each_readsAll D.py (each_reads I k hp rv r)
/-- one of alike data is known by what it reads as -/
theorem isL_eq {x : D} (h : isL x = true) : ∃ zs, x = .lst zs := by
  cases x <;> first | exact ⟨_, rfl⟩ | cases h
theorem best_top {mx : Bool} {ds : List D} {d : D} (e : (if mx then maxD ds else minD ds) = some d) (ok : srtOk ds = true) : isTop d = false := by
  obtain ⟨k1, k2, k3⟩ := srt_alk ok
  have hm : d ∈ ds := by
    match ds, e with
    | [], e => cases mx <;> cases e
    | x :: xs, e =>
      have g : ∀ (f : D → D → Bool) (l : List D) (a : D), a ∈ x :: xs → (∀ y ∈ l, y ∈ x :: xs) → l.foldl (fun a y => if f y a then y else a) a ∈ x :: xs := by
        intro f l
        induction l with
        | nil => intro a ha _; exact ha
        | cons y l ih => intro a ha h; rw [List.foldl_cons]; exact ih _ (by split; exact h y List.mem_cons_self; exact ha) fun z hz => h z (List.mem_cons_of_mem _ hz)
      cases mx with
      | true =>
        have e : some (xs.foldl (fun a y => if D.lt a y then y else a) x) = some d := e
        cases e
        exact g (fun y a => D.lt a y) xs x List.mem_cons_self fun y hy => List.mem_cons_of_mem _ hy
      | false =>
        have e : some (xs.foldl (fun a y => if D.lt y a then y else a) x) = some d := e
        cases e
        exact g D.lt xs x List.mem_cons_self fun y hy => List.mem_cons_of_mem _ hy
  obtain ⟨z, r, rfl⟩ := k3 d hm
  rfl
theorem py_inj (x y : D) (h : D.alk x y = true) (hs : D.alk x x = true) (e : x.py = y.py) : x = y := by
  refine alk_eq x y h ?_
  have z := alk_eqv x y h
  rw [← z, ← e, alk_eqv x x hs]
  exact alk_refl x hs
theorem mem_rep {W : Wd} : ∀ {us : List Value} {vs : List V} {ds : List D}, Vals vs us → RepL fa W vs ds → ∀ {i : Nat} {u : Value}, us[i]? = some u → ∃ v d, RelV v u ∧ Rep fa W v d ∧ ds[i]? = some d
  | _, _, _, .nil, .nil, _, _, h => by simp at h
  | _, _, _, .cons r t, .cons q s, 0, _, h => by
    simp at h; subst h
    exact ⟨_, _, r, q, rfl⟩
  | _, _, _, .cons r t, .cons q s, i + 1, _, h => by
    obtain ⟨v, d, h1, h2, h3⟩ := mem_rep t s (i := i) (by simpa using h)
    exact ⟨v, d, h1, h2, by simpa using h3⟩
theorem plain_mem {n : Nat} : ∀ {l : List D}, D.plainL (n + 1) l = true → ∀ b ∈ l, D.plain n b = true
  | [], _, b, hb => by cases hb
  | d :: l, h, b, hb => by
    have h' : D.plain n d = true ∧ D.plainL (n + 1) l = true := by simpa [D.plainL] using h
    rcases List.mem_cons.mp hb with rfl | hb
    · exact h'.1
    · exact plain_mem h'.2 b hb
/-- the best one of a row, here and there -/
theorem fold_py (f : PyData → PyData → Bool) (g : D → D → Bool) (L : List D) (hf : ∀ x ∈ L, ∀ y ∈ L, f x.py y.py = g x y) : ∀ (l : List D) (a : D), a ∈ L → (∀ y ∈ l, y ∈ L) → (l.map D.py).foldl (fun a y => if f y a then y else a) a.py = (l.foldl (fun a y => if g y a then y else a) a).py ∧ (l.foldl (fun a y => if g y a then y else a) a) ∈ L
  | [], a, ha, _ => ⟨rfl, ha⟩
  | y :: l, a, ha, h => by
    have hy := h y List.mem_cons_self
    rw [List.map_cons, List.foldl_cons, List.foldl_cons, hf y hy a ha]
    have z := fold_py f g L hf l (if g y a then y else a) (by split <;> assumption) (fun z hz => h z (List.mem_cons_of_mem _ hz))
    have e : (if g y a then y.py else a.py) = (if g y a then y else a).py := by split <;> rfl
    rw [e]
    exact z
theorem minD_py {x : D} {xs : List D} (h : ∀ a ∈ x :: xs, ∀ b ∈ x :: xs, D.alk a b = true) : PySem.W.minD x.py (xs.map D.py) = (xs.foldl (fun a y => if D.lt y a then y else a) x).py ∧ (xs.foldl (fun a y => if D.lt y a then y else a) x) ∈ x :: xs :=
  fold_py PySem.W.dataLt D.lt (x :: xs) (fun a ha b hb => alk_lt a b (h a ha b hb)) xs x List.mem_cons_self fun y hy => List.mem_cons_of_mem _ hy
theorem maxD_py {x : D} {xs : List D} (h : ∀ a ∈ x :: xs, ∀ b ∈ x :: xs, D.alk a b = true) : PySem.W.maxD x.py (xs.map D.py) = (xs.foldl (fun a y => if D.lt a y then y else a) x).py ∧ (xs.foldl (fun a y => if D.lt a y then y else a) x) ∈ x :: xs :=
  fold_py (fun a b => PySem.W.dataLt b a) (fun a b => D.lt b a) (x :: xs) (fun a ha b hb => alk_lt b a (h b hb a ha)) xs x List.mem_cons_self fun y hy => List.mem_cons_of_mem _ hy
theorem best_rows {pins : List (Addr × Obj)} {s : Shared} {σ : L2.St} {W : Wd} {H : Hp} {h : Hq} {a : Addr} {vs : List V} {ds : List D} {d : D} {Q : VK} (mx : Bool) (hc : X.calm = true) (hu : X.A.units + 65 < cLine) (I : Inv X pins σ H s) (k : Hok fa W H h) (ha : H a = some (.lst vs)) (r : RepL fa W vs ds) (ok : srtOk ds = true)
    (e : (if mx then maxD ds else minD ds) = some d) (q : ∀ v, Rep fa W v d → Q v H) : wpAny (model X.prog X.w) X.A (call (.builtin (if mx then "max" else "min")) [.ref a]) (EP X pins σ Q) X.xe s := by
  obtain ⟨k1, k2, k3⟩ := srt_alk ok
  obtain ⟨its, rv, hl, hz⟩ := I.list (.inl (.of ha))
  obtain ⟨as, hr⟩ := reads_all I k k1 rv r
  match ds, e with
  | [], e => cases mx <;> cases e
  | x :: xs, e =>
    rw [pyL_map] at hr
    have hal : PySem.W.AlikeAll (x.py :: xs.map D.py) := by
      have e1 : x.py :: xs.map D.py = (x :: xs).map D.py := rfl
      rw [e1]
      refine ⟨fun a ha b hb => ?_, fun a ha => ?_⟩
      · obtain ⟨a', ha', rfl⟩ := List.mem_map.mp ha
        obtain ⟨b', hb', rfl⟩ := List.mem_map.mp hb
        exact alk_py a' b' (k2 a' ha' b' hb')
      · obtain ⟨a', ha', rfl⟩ := List.mem_map.mp ha
        obtain ⟨z, l, rfl⟩ := k3 a' ha'
        exact fun z => by cases z
    have hdp : X.A.units + 1 + PyData.depthAll (x.py :: xs.map D.py) < cLine := by
      have z := plain_depthL 60 (x :: xs) k1
      rw [pyL_map] at z
      have z : PyData.depthAll (x.py :: xs.map D.py) ≤ 60 := z
      omega
    have fin : ∀ (b : D), (b = d) → b ∈ x :: xs → ∀ (i : Nat) (v : Value) (h' : Heap) (tk : Nat) (bs : List Addr), its.toArray[i]? = some v → Reads h' v b.py bs → (∀ b o, s.heap.get? b = some o → h'.get? b = some o) → EP X pins σ Q v { s with heap := h', toks := tk } := by
      intro b hb hm i v h' tk bs hi hrd hk
      subst hb
      obtain ⟨w, d', rw', rp, hd'⟩ := mem_rep rv r (i := i) (u := v) (by simpa using hi)
      have hm' := List.mem_of_getElem? hd'
      have hpl := plain_mem k1 d' hm'
      obtain ⟨cs, hrd'⟩ := Dp.reads I _ _ _ (Rdb.dp k (.inl rp) hpl) rw'
      have hrd'' := PyProof.Rows.Reads.keeps hk hrd'
      have z := (PySem.Reads.unique hrd'' _ _ hrd).1
      have z := py_inj d' b (k2 d' hm' b hm) (k2 d' hm' d' hm') z
      subst z
      exact ⟨w, H, I.kept hk, rw', q w rp⟩
    cases mx with
    | true =>
      obtain ⟨m1, m2⟩ := maxD_py k2
      have e : some (xs.foldl (fun a y => if D.lt a y then y else a) x) = some d := e
      exact PySem.W.max_list_data (I.ok.hd hc) hl.isList hr hal hdp fun i v h' tk bs hi hrd hk => fin _ (Option.some.inj e) m2 i v h' tk bs hi (by rw [← m1]; exact hrd) hk
    | false =>
      obtain ⟨m1, m2⟩ := minD_py k2
      have e : some (xs.foldl (fun a y => if D.lt y a then y else a) x) = some d := e
      exact PySem.W.min_list_data (I.ok.hd hc) hl.isList hr hal hdp fun i v h' tk bs hi hrd hk => fin _ (Option.some.inj e) m2 i v h' tk bs hi (by rw [← m1]; exact hrd) hk
end
end Mn

namespace Mn
open PySem L2 PySem.Spec PyProof.Rows
/-! ### texts of data -/
mutual
theorem shown_wt : ∀ (n : Nat) (d : D), D.plain n d = true → d.py.shown.length ≤ D.wt d
  | _, .non, _ => by simp only [D.py, D.wt]; decide
  | _, .bl b, _ => by cases b <;> (simp only [D.py, D.wt]; decide)
  | _, .int i, _ => by
    have z := PySem.int_text_length_le (a := i) (k := i.natAbs.log2 + 1) (by omega) (by omega)
    simp only [D.py, D.wt, PyData.shown]
    have e : (Str.ofString (toString i)).length = (toString i).length := by
      rw [Str.ofString_eq_toList]
      simp only [Str.length, List.size_toArray, List.length_map]
      exact String.length_toList
    show (Str.ofString (toString i)).length ≤ _
    omega
  | _, .str x, h => by
    simp only [D.py, D.wt, PyData.shown]
    have z := PySem.StrLaws.reprText_len x (fun c hc => by
      simp only [D.plain, Array.all_eq_true] at h
      obtain ⟨i, hi, e⟩ := List.getElem_of_mem hc
      have q := h i (by simpa using hi)
      simp only [decide_eq_true_eq] at q
      rw [← e]
      simp only [Array.getElem_toList]
      omega)
    have e : x.length = x.cps.size := rfl
    omega
  | n, .tup ds, h => by
    have z := shown_wtL n ds (by simpa [D.plain] using h)
    have t := PySem.tupleText_len_le (PyData.shownAll (D.pyL ds))
    simp only [D.py, D.wt, PyData.shown]
    omega
  | n, .lst ds, h => by
    have z := shown_wtL n ds (by simpa [D.plain] using h)
    have t := PySem.listText_len_le (PyData.shownAll (D.pyL ds))
    simp only [D.py, D.wt, PyData.shown]
    omega
  | _, .frl _, h => by simp [D.plain] at h
  | _, .dI _ _, h => by simp [D.plain] at h
  | _, .dT _ _, h => by simp [D.plain] at h
  | _, .rng _ _, h => by simp [D.plain] at h
  | _, .rep _, h => by simp [D.plain] at h
  | _, .cell _, h => by simp [D.plain] at h
  | _, .fn _ _, h => by simp [D.plain] at h
theorem shown_wtL : ∀ (n : Nat) (ds : List D), D.plainL n ds = true → ((PyData.shownAll (D.pyL ds)).map (·.length)).sum + 2 * (PyData.shownAll (D.pyL ds)).length ≤ D.wtL ds
  | _, [], _ => Nat.le_refl _
  | 0, _ :: _, h => by simp [D.plainL] at h
  | n + 1, d :: ds, h => by
    have h' : D.plain n d = true ∧ D.plainL (n + 1) ds = true := by simpa [D.plainL] using h
    have z := shown_wt n d h'.1
    have t := shown_wtL (n + 1) ds h'.2
    simp only [D.pyL, PyData.shownAll, List.map_cons, List.sum_cons, List.length_cons, D.wtL]
    omega
end
mutual
theorem shows_py : ∀ (n : Nat) (d : D), D.plain n d = true → D.shows d = true → d.py.showable = true
  | _, .non, _, _ => rfl
  | _, .bl _, _, _ => rfl
  | _, .int _, _, h => by simpa [D.py, PyData.showable, D.shows] using h
  | _, .str _, _, _ => rfl
  | n, .tup ds, h, k => by simp only [D.py, PyData.showable]; exact shows_pyL n ds (by simpa [D.plain] using h) (by simpa [D.shows] using k)
  | n, .lst ds, h, k => by simp only [D.py, PyData.showable]; exact shows_pyL n ds (by simpa [D.plain] using h) (by simpa [D.shows] using k)
  | _, .frl _, h, _ => by simp [D.plain] at h
  | _, .dI _ _, h, _ => by simp [D.plain] at h
  | _, .dT _ _, h, _ => by simp [D.plain] at h
  | _, .rng _ _, h, _ => by simp [D.plain] at h
  | _, .rep _, h, _ => by simp [D.plain] at h
  | _, .cell _, h, _ => by simp [D.plain] at h
  | _, .fn _ _, h, _ => by simp [D.plain] at h
theorem shows_pyL : ∀ (n : Nat) (ds : List D), D.plainL n ds = true → D.showsL ds = true → PyData.showableAll (D.pyL ds) = true
  | _, [], _, _ => rfl
  | 0, _ :: _, h, _ => by simp [D.plainL] at h
  | n + 1, d :: ds, h, k => by
    have h' : D.plain n d = true ∧ D.plainL (n + 1) ds = true := by simpa [D.plainL] using h
    have k' : D.shows d = true ∧ D.showsL ds = true := by simpa [D.showsL] using k
    simp only [D.pyL, PyData.showableAll, Bool.and_eq_true]
    exact ⟨shows_py n d h'.1 k'.1, shows_pyL (n + 1) ds h'.2 k'.2⟩
end
/-! ### sorted ints -/
theorem sorted_uniq {l m : List Int} (hp : l.Perm m) (hl : l.Pairwise (· ≤ ·)) (hm : m.Pairwise (· ≤ ·)) : l = m :=
  hp.eq_of_pairwise (fun a b _ _ h1 h2 => by omega) hl hm
theorem insI_perm (x : Int) : ∀ l : List Int, (insI x l).Perm (x :: l)
  | [] => .refl _
  | y :: l => by
    unfold insI
    by_cases h : x ≤ y
    · rw [if_pos h]
    · rw [if_neg h]
      exact ((insI_perm x l).cons y).trans (.swap x y l)
theorem sortI_perm : ∀ l : List Int, (sortI l).Perm l
  | [] => .refl _
  | x :: l => (insI_perm x _).trans ((sortI_perm l).cons x)
theorem insI_sorted (x : Int) : ∀ l : List Int, l.Pairwise (· ≤ ·) → (insI x l).Pairwise (· ≤ ·)
  | [], _ => by unfold insI; simp
  | y :: l, h => by
    unfold insI
    rw [List.pairwise_cons] at h
    by_cases hx : x ≤ y
    · rw [if_pos hx, List.pairwise_cons, List.pairwise_cons]
      refine ⟨fun z hz => ?_, h⟩
      rcases List.mem_cons.mp hz with rfl | hz
      · exact hx
      · exact Int.le_trans hx (h.1 z hz)
    · rw [if_neg hx, List.pairwise_cons]
      refine ⟨fun z hz => ?_, insI_sorted x l h.2⟩
      rcases List.mem_cons.mp ((insI_perm x l).mem_iff.mp hz) with rfl | hz
      · omega
      · exact h.1 z hz
theorem sortI_sorted : ∀ l : List Int, (sortI l).Pairwise (· ≤ ·)
  | [] => .nil
  | x :: l => insI_sorted x _ (sortI_sorted l)
/-! ### built-in calls -/
section
variable {fa : FaT}
inductive RdbL (fa : FaT) (W : Wd) (H : Hp) : List V → List D → Prop
  | nil : RdbL fa W H [] []
  | cons {v : V} {vs : List V} {d : D} {ds : List D} : Rdb fa W H v d → RdbL fa W H vs ds → RdbL fa W H (v :: vs) (d :: ds)
theorem RdbL.ext {W W' : Wd} {H H' : Hp} (e : Ext W H W' H') : ∀ {vs : List V} {ds : List D}, RdbL fa W H vs ds → RdbL fa W' H' vs ds
  | _, _, .nil => .nil
  | _, _, .cons r t => .cons (r.ext e) (RdbL.ext e t)
theorem RdbL.one {W : Wd} {H : Hp} {vs : List V} {d : D} (r : RdbL fa W H vs [d]) : ∃ v, vs = [v] ∧ Rdb fa W H v d := by
  cases r with
  | cons r t => cases t; exact ⟨_, rfl, r⟩
theorem RdbL.two {W : Wd} {H : Hp} {vs : List V} {d e : D} (r : RdbL fa W H vs [d, e]) : ∃ v u, vs = [v, u] ∧ Rdb fa W H v d ∧ Rdb fa W H u e := by
  cases r with
  | cons r t =>
    obtain ⟨u, rfl, q⟩ := t.one
    exact ⟨_, _, rfl, r, q⟩
def BI.val : BI → Value
  | .abs => .builtin "abs" | .len => .builtin "len" | .int => .type "int" | .sum => .builtin "sum" | .max => .builtin "max" | .min => .builtin "min" | .max2 => .builtin "max" | .min2 => .builtin "min"
  | .divmod => .builtin "divmod" | .tuple => .type "tuple" | .list => .type "list" | .sorted => .builtin "sorted" | .sortedr => .builtin "sorted" | .repr => .builtin "repr" | .sortset => .none | .lenset => .none
  | .all => .builtin "all" | .any => .builtin "any" | .dict => .none | .listv => .none
def rBi (fa : FaT) (f : BI) : List V → Hp → VK → Prop := fun xs H Q => ∃ W h ds d, Hok fa W H h ∧ RdbL fa W H xs ds ∧ bi f ds = some d ∧ Kn fa W H h d Q
variable {X : Cx}
/-- a list or a tuple that may be read -/
theorem Rdb.seq {W : Wd} {H : Hp} {h : Hq} (k : Hok fa W H h) {v : V} {x : D} {xs : List D} (r : Rdb fa W H v x) (e : seqOf x = some xs) : ∃ a vs, v = .ref a ∧ RepL fa W vs xs ∧ (H a = some (.lst vs) ∨ H a = some (.tup vs)) := by
  unfold seqOf at e
  split at e
  · cases e
    obtain ⟨a, vs, h1, h2, _, h3⟩ := r.tup k
    exact ⟨a, vs, h1, h3, .inr h2⟩
  · cases e
    obtain ⟨a, vs, h1, h2, _, h3⟩ := r.lst k
    exact ⟨a, vs, h1, h3, .inl h2⟩
  · cases e
theorem sorted_any {pins : List (Addr × Obj)} {s : Shared} {σ : L2.St} {H : Hp} {a : Addr} {ns : List Int} {b : Bool} {kw : List (Str × Value)} {Q : VK} (I : Inv X pins σ H s) (hq : H a = some (.lst (ns.map V.int)) ∨ H a = some (.tup (ns.map V.int)))
    (hk : ∀ a, Builtin.«list.sort» ⟨[.ref a], kw⟩ = Builtin.«list.sort» ⟨[.ref a], [(Str.ofString "reverse", .bool b)]⟩) (ha1 : argsOk "sorted" ⟨[.ref a], kw⟩) (ha2 : ∀ a, argsOk "list.sort" ⟨[a], kw⟩)
    (q : ∀ p, H p = none → Q (.ref p) (upd H p (.lst ((if b = true then (sortI ns).reverse else sortI ns).map V.int)))) : wpAny (model X.prog X.w) X.A (call (.builtin "sorted") [.ref a] kw) (EP X pins σ Q) X.xe s := by
  have fin : ∀ (ns' : List Int) (p : Addr), ns'.Perm ns → OrdB b ns' → H p = none → Q (.ref p) (upd H p (.lst (ns'.map V.int))) := fun ns' p hp ho hn => by
    have e : ns' = (if b = true then (sortI ns).reverse else sortI ns) := by
      cases b with
      | false =>
        rw [if_neg Bool.false_ne_true]
        exact sorted_uniq (hp.trans (sortI_perm ns).symm) (by simpa [OrdB] using ho) (sortI_sorted ns)
      | true =>
        rw [if_pos rfl]
        have ho' : ns'.Pairwise (· ≥ ·) := by simpa [OrdB] using ho
        have z := sorted_uniq (l := ns'.reverse) (m := sortI ns) ((List.reverse_perm _).trans (hp.trans (sortI_perm ns).symm)) (List.pairwise_reverse.mpr (ho'.imp fun h => h)) (sortI_sorted ns)
        rw [← z, List.reverse_reverse]
    rw [e]
    exact q p hn
  rcases hq with hq | hq
  · exact sorted_run I (.of hq) hk ha1 ha2 fin
  · obtain ⟨its, rv, hl, hz⟩ := I.tuple (.of hq)
    have hi := rv.ints
    refine sorted_tupK hk ha1 ha2 SrtO.swo_int hl (by rw [← rv.length]; exact hz) (fun h2 h1 a' _ _ => SrtO.ints_sortable hi h2) fun out k1 k2 => ?_
    obtain ⟨ns', j1, j2, j3⟩ := SrtR.ints_outR hi k1 k2
    obtain ⟨ep, he'⟩ := PyProof.Rows.sortedAll_at s.heap its (if b = true then out.toArray.reverse else out.toArray)
    have hlen : (ns'.map V.int).length ≤ sizeLine := by
      rw [List.length_map, j2.length_eq, ← List.length_map (f := V.int)]
      exact hz
    have e0 : ((if b = true then out.toArray.reverse else out.toArray).toList).toArray = (if b = true then out.toArray.reverse else out.toArray) := by rw [Array.toArray_toList]
    have J : Inv X pins σ (upd H (s.heap.objs.size + 1) (.lst (ns'.map V.int))) { s with heap := sortedAll s.heap its (if b = true then out.toArray.reverse else out.toArray) } :=
      I.laid (t' := s.toks) (fun _ _ => PyProof.Rows.sortedAll_old) (Nat.le_succ _) ⟨hlen, _, ep, vals_of_ints j1, by rw [e0]; exact he'⟩
    exact ⟨.ref _, _, J, rfl, fin _ _ j2 j3 (I.hok.fresh (Nat.le_succ _))⟩
theorem max_spec {l : List Int} {m : Int} (h : l.max? = some m) : m ∈ l ∧ ∀ y ∈ l, y ≤ m := List.max?_eq_some_iff.mp h
theorem min_spec {l : List Int} {m : Int} (h : l.min? = some m) : m ∈ l ∧ ∀ y ∈ l, m ≤ y := List.min?_eq_some_iff.mp h
theorem bi_ok (hk : fa.K = X.K) (hc : X.calm = true) (hgd : X.A.guards = some []) (hu : X.A.units + 65 < cLine) (f : BI) (hf : f ≠ .sortedr) : CallR X f.val (rBi fa f) := by
  intro pins s σ H xs us Q I r hr
  obtain ⟨W, h, ds, d, k, rs, e, q⟩ := hr
  unfold bi at e
  split at e
  · cases e
    obtain ⟨v, rfl, ra⟩ := rs.one
    obtain rfl := ra.int
    exact call_abs pins s σ H _ us Q I r ⟨_, rfl, q.int k⟩
  · cases e
    obtain ⟨v, rfl, ra⟩ := rs.one
    obtain ⟨a, vs, rfl, h1, _, h3⟩ := ra.tup k
    exact call_len_seq pins s σ H _ us Q I r ⟨a, vs, rfl, .inr (.of h1), by rw [h3.length]; exact q.int k⟩
  · cases e
    obtain ⟨v, rfl, ra⟩ := rs.one
    obtain ⟨a, vs, rfl, h1, _, h3⟩ := ra.lst k
    exact call_len_seq pins s σ H _ us Q I r ⟨a, vs, rfl, .inl (.of h1), by rw [h3.length]; exact q.int k⟩
  · cases e
    obtain ⟨v, rfl, ra⟩ := rs.one
    cases ra.flat (fun _ => by simp) with
    | frl h1 h3 => exact call_len_seq pins s σ H _ us Q I r ⟨_, _, rfl, .inl (h1.sql k hk), by rw [h3.length]; exact q.int k⟩
  · cases e
    obtain ⟨v, rfl, ra⟩ := rs.one
    obtain rfl := ra.int
    exact call_int1 pins s σ H _ us Q I r (.inl ⟨_, rfl, q.int k⟩)
  · cases e
    obtain ⟨v, rfl, ra⟩ := rs.one
    obtain rfl := ra.bl
    exact call_int1 pins s σ H _ us Q I r (.inr ⟨_, rfl, q.int k⟩)
  · -- sum
    simp only [Option.bind_eq_some_iff, Option.map_eq_some_iff] at e
    obtain ⟨ys, e1, l, e2, rfl⟩ := e
    obtain ⟨v, rfl, ra⟩ := rs.one
    obtain ⟨a, vs, rfl, h1, h2⟩ := ra.seq k e1
    have hv := h1.ints e2
    subst hv
    rcases h2 with h2 | h2
    · exact cr_sum hc pins s σ H _ us Q I r ⟨a, l, rfl, .of h2, q.int k⟩
    · obtain ⟨its, rv, hl, _⟩ := I.tuple (.of h2)
      rw [Vals.ref1 r]
      exact sum_tupI (I.ok.hd hc) hl rv.ints fun h' tk t' hk => ⟨.int _, H, I.kept hk, ⟨_, rfl⟩, q.int k⟩
  · -- max
    rw [Option.bind_eq_some_iff] at e
    obtain ⟨ys, e1, e⟩ := e
    obtain ⟨v, rfl, ra⟩ := rs.one
    rw [Option.or_eq_some_iff] at e
    replace e := e.symm
    rcases e with ⟨_, e⟩ | e
    · split at e
      · rename_i hz
        rw [Bool.and_eq_true] at hz
        obtain ⟨zs, rfl⟩ := isL_eq hz.1
        cases e1
        obtain ⟨a, vs, rfl, h1, h2, h3⟩ := ra.lst k
        rw [Vals.ref1 r]
        exact best_rows true hc (by omega) I k h1 h3 hz.2 e fun v rv => q.flat k rv (best_top (mx := true) e hz.2)
      · cases e
    simp only [Option.bind_eq_some_iff, Option.map_eq_some_iff] at e
    obtain ⟨l, e2, m, e3, rfl⟩ := e
    obtain ⟨a, vs, rfl, h1, h2⟩ := ra.seq k e1
    have hv := h1.ints e2
    subst hv
    obtain ⟨m1, m2⟩ := max_spec e3
    have hne : 0 < l.length := List.length_pos_of_mem m1
    have fin : ∀ M, M ∈ l → (∀ y, y ∈ l → y ≤ M) → Q (.int M) H := fun M g1 g2 => by
      have z : M = m := Int.le_antisymm (m2 M g1) (g2 m m1)
      rw [z]; exact q.int k
    rcases h2 with h2 | h2
    · exact cr_max hc pins s σ H _ us Q I r ⟨a, l, rfl, .of h2, hne, fin⟩
    · obtain ⟨its, rv, hl, _⟩ := I.tuple (.of h2)
      rw [Vals.ref1 r]
      exact max_tupI (I.ok.hd hc) hl rv.ints hne fun h' tk M t' hk g1 g2 => ⟨.int _, H, I.kept hk, ⟨_, rfl⟩, fin M g1 g2⟩
  · -- min
    rw [Option.bind_eq_some_iff] at e
    obtain ⟨ys, e1, e⟩ := e
    obtain ⟨v, rfl, ra⟩ := rs.one
    rw [Option.or_eq_some_iff] at e
    replace e := e.symm
    rcases e with ⟨_, e⟩ | e
    · split at e
      · rename_i hz
        rw [Bool.and_eq_true] at hz
        obtain ⟨zs, rfl⟩ := isL_eq hz.1
        cases e1
        obtain ⟨a, vs, rfl, h1, h2, h3⟩ := ra.lst k
        rw [Vals.ref1 r]
        exact best_rows false hc (by omega) I k h1 h3 hz.2 e fun v rv => q.flat k rv (best_top (mx := false) e hz.2)
      · cases e
    simp only [Option.bind_eq_some_iff, Option.map_eq_some_iff] at e
    obtain ⟨l, e2, m, e3, rfl⟩ := e
    obtain ⟨a, vs, rfl, h1, h2⟩ := ra.seq k e1
    have hv := h1.ints e2
    subst hv
    obtain ⟨m1, m2⟩ := min_spec e3
    have hne : 0 < l.length := List.length_pos_of_mem m1
    have fin : ∀ M, M ∈ l → (∀ y, y ∈ l → M ≤ y) → Q (.int M) H := fun M g1 g2 => by
      have z : M = m := Int.le_antisymm (g2 m m1) (m2 M g1)
      rw [z]; exact q.int k
    rcases h2 with h2 | h2
    · exact cr_min hc pins s σ H _ us Q I r ⟨a, l, rfl, .of h2, hne, fin⟩
    · obtain ⟨its, rv, hl, _⟩ := I.tuple (.of h2)
      rw [Vals.ref1 r]
      exact min_tupI (I.ok.hd hc) hl rv.ints hne fun h' tk M t' hk g1 g2 => ⟨.int _, H, I.kept hk, ⟨_, rfl⟩, fin M g1 g2⟩
  · cases e
    obtain ⟨v, u, rfl, ra, rb⟩ := rs.two
    obtain rfl := ra.int
    obtain rfl := rb.int
    rename_i i j
    refine call_max2 hc pins s σ H _ us Q I r ⟨_, _, rfl, ?_⟩
    have z : (if j > i then j else i) = max i j := by rw [Int.max_def]; split <;> split <;> omega
    rw [z]; exact q.int k
  · cases e
    obtain ⟨v, u, rfl, ra, rb⟩ := rs.two
    obtain rfl := ra.int
    obtain rfl := rb.int
    rename_i i j
    refine call_min2 hc pins s σ H _ us Q I r ⟨_, _, rfl, ?_⟩
    have z : (if j < i then j else i) = min i j := by rw [Int.min_def]; split <;> split <;> omega
    rw [z]; exact q.int k
  · split at e
    · rename_i hz
      cases e
      obtain ⟨v, u, rfl, ra, rb⟩ := rs.two
      obtain rfl := ra.int
      obtain rfl := rb.int
      exact call_divmod pins s σ H _ us Q I r ⟨_, _, rfl, hz, q.tup k (.cons (.int _) (.cons (.int _) .nil))⟩
    · cases e
  · cases e
    obtain ⟨v, rfl, ra⟩ := rs.one
    obtain ⟨a, vs, rfl, h1, f1, h3⟩ := ra.tup k
    exact call_tuple_of pins s σ H _ us Q I r ⟨a, vs, rfl, .inr ⟨.of h1, q.flat k (.tup f1 h3)⟩⟩
  · cases e
    obtain ⟨v, rfl, ra⟩ := rs.one
    obtain ⟨a, vs, rfl, h1, _, h3⟩ := ra.lst k
    exact call_tuple_of pins s σ H _ us Q I r ⟨a, vs, rfl, .inl ⟨.of h1, q.tup k h3⟩⟩
  · cases e
    obtain ⟨v, rfl, ra⟩ := rs.one
    obtain ⟨a, vs, rfl, h1, f1, h3⟩ := ra.tup k
    exact call_list_of pins s σ H _ us Q I r ⟨a, vs, rfl, .inr (.of h1), q.lst k h3⟩
  · cases e
    obtain ⟨v, rfl, ra⟩ := rs.one
    obtain ⟨a, vs, rfl, h1, _, h3⟩ := ra.lst k
    exact call_list_of pins s σ H _ us Q I r ⟨a, vs, rfl, .inl (.of h1), q.lst k h3⟩
  · -- sorted of a dict
    split at e
    · rename_i h64
      cases e
      obtain ⟨v, rfl, ra⟩ := rs.one
      obtain ⟨a, u, rfl, hrd, o⟩ := ra.dct k rfl
      cases u <;> first | exact False.elim o | skip
      obtain ⟨o1, o2⟩ := o
      refine call_sortedDI hc pins s σ H _ us Q I r ⟨a, _, _, rfl, hrd, o1, h64, fun ys p hp hs hn => ?_⟩
      obtain rfl := sorted_uniq (hp.trans (sortI_perm _).symm) hs (sortI_sorted _)
      exact q.lst k (repL_ints _) p hn
    · cases e
  · -- sorted
    rw [Option.bind_eq_some_iff] at e
    obtain ⟨ys, e1, e⟩ := e
    obtain ⟨v, rfl, ra⟩ := rs.one
    rw [Option.or_eq_some_iff] at e
    replace e := e.symm
    rcases e with ⟨_, e⟩ | e
    · split at e
      · rename_i hz
        rw [Bool.and_eq_true] at hz
        obtain ⟨zs, rfl⟩ := isL_eq hz.1
        cases e1
        cases e
        obtain ⟨a, vs, rfl, h1, h2, h3⟩ := ra.lst k
        rw [Vals.ref1 r]
        exact sorted_rows (by omega) I k h1 h3 hz.2 fun p ws hp rw' => q.lst k rw' p hp
      · cases e
    simp only [Option.map_eq_some_iff] at e
    obtain ⟨l, e2, rfl⟩ := e
    obtain ⟨a, vs, rfl, h1, h2⟩ := ra.seq k e1
    have hv := h1.ints e2
    subst hv
    rw [Vals.ref1 r]
    exact sorted_any (b := false) I h2 (fun _ => rfl) (args_sorted1 _) (fun _ => args_list_sort _) (q.lst k (repL_ints _))
  · exact absurd rfl hf
  · -- repr
    split at e
    · rename_i hz
      cases e
      obtain ⟨v, rfl, ra⟩ := rs.one
      rename_i x
      simp only [Bool.and_eq_true, decide_eq_true_eq] at hz
      obtain ⟨⟨⟨z1, z2⟩, z3⟩, z4⟩ := hz
      obtain ⟨ys, z5⟩ := Option.isSome_iff_exists.mp z1
      obtain ⟨a, vs, rfl, h1, h2⟩ := ra.seq k z5
      obtain ⟨u, rfl, ru⟩ := vals1 r
      cases ru
      obtain ⟨as, rd⟩ := Dp.reads I _ _ _ (ra.dp k z2) rfl
      obtain ⟨l1, l2⟩ := plain_lay 60 x z2
      have hsz := shown_wt 60 x z2
      exact repr_of_reads' rd (shows_py 60 x z2 z3) (PyData.noDict_hsm (PyData.hasDict_of_canLay _ l1)) hgd (by omega) (fun _ _ e => e) (fun h' u tk hk => ⟨.str x.py.shown, H, I.kept hk, ⟨u, rfl⟩, q.flat k (.rep x)⟩) (by rw [sizeLine_eq]; omega)
    · cases e
  · -- all
    simp only [Option.map_eq_some_iff] at e
    obtain ⟨l, e2, rfl⟩ := e
    obtain ⟨v, rfl, ra⟩ := rs.one
    obtain ⟨a, vs, rfl, h1, _, h3⟩ := ra.lst k
    have hv := h3.bls e2
    subst hv
    exact cr_all hc pins s σ H _ us Q I r ⟨a, l, rfl, .of h1, q.bl k⟩
  · simp only [Option.map_eq_some_iff] at e
    obtain ⟨l, e2, rfl⟩ := e
    obtain ⟨v, rfl, ra⟩ := rs.one
    obtain ⟨a, vs, rfl, h1, _, h3⟩ := ra.lst k
    have hv := h3.bls e2
    subst hv
    exact cr_any hc pins s σ H _ us Q I r ⟨a, l, rfl, .of h1, q.bl k⟩
  · cases e
end
end Mn

namespace Mn
open PySem L2 PySem.Spec PyProof.Rows
/-! ### how arguments come to plain parameters -/
def parms (as : List Arg) : Arguments := { posonlyargs := [], args := as, vararg := none, kwonlyargs := [], kw_defaults := [], kwarg := none, defaults := [] }
theorem forIn_add {f : Str × Value → List (Str × Value) × List (Str × Value) → Sem (ForInStep (List (Str × Value) × List (Str × Value)))} : ∀ (l : List (Str × Value)) (sl : List (Str × Value)),
    (∀ (pre post : List (Str × Value)) (p : Str × Value), l = pre ++ p :: post → f p (sl ++ pre, []) = pure (.yield (sl ++ pre ++ [p], []))) → forIn l (sl, []) f = (pure (sl ++ l, []) : Sem _)
  | [], sl, _ => by simp
  | p :: l, sl, h => by
    rw [List.forIn_cons]
    have z := h [] l p rfl
    simp only [List.append_nil] at z
    rw [z, pure_bind]
    show forIn l (sl ++ [p], []) f = _
    rw [forIn_add l (sl ++ [p]) fun pre post q e => ?_]
    · simp
    · have y := h (p :: pre) post q (by rw [e]; rfl)
      simpa using y
theorem lookup_none_of {α β : Type} [BEq α] [LawfulBEq α] : ∀ {l : List (α × β)} {x : α}, x ∉ l.map (·.1) → l.lookup x = none
  | [], _, _ => rfl
  | (a, b) :: l, x, h => by
    simp only [List.map_cons, List.mem_cons, not_or] at h
    rw [List.lookup_cons]
    have z : (x == a) = false := by simpa using h.1
    rw [z]
    exact lookup_none_of h.2
theorem zip_fst {α β : Type} : ∀ {l : List α} {m : List β}, l.length ≤ m.length → (l.zip m).map (·.1) = l
  | [], _, _ => rfl
  | a :: l, [], h => by simp at h
  | a :: l, b :: m, h => by simp only [List.zip_cons_cons, List.map_cons]; rw [zip_fst (by simpa using h)]
theorem zip_fst_take {α β : Type} : ∀ {l : List α} {m : List β}, (l.zip m).map (·.1) = l.take m.length
  | [], _ => by simp
  | a :: l, [] => by simp
  | a :: l, b :: m => by simp only [List.zip_cons_cons, List.map_cons, List.length_cons, List.take_succ_cons]; rw [zip_fst_take]
/-- the values by the parameters' order: the positional ones, then the others by their names -/
def arr (ps : List Str) (us : List Value) (kw : List (Str × Value)) : List Value := us ++ (ps.drop us.length).map fun x => (kw.lookup x).getD .none
theorem bind_plain {x qual : Str} {as : List Arg} {body : List Stmt} {scope : Scope} {kV doc pm : Value} {an : Option Addr} {cdv ct : Value} {us ws : List Value} {ks : List Str} (nd : (as.map (·.arg)).Nodup) (nk : ks.Nodup) (hl : ks.length = ws.length)
    (hk : ∀ y ∈ ks, y ∈ (as.map (·.arg)).drop us.length) (hall : ∀ y ∈ (as.map (·.arg)).drop us.length, y ∈ ks) (ht : us.length + ks.length = as.length) :
   bindArgs (PySem.W.fnOf x qual (parms as) body scope .none kV doc pm an cdv ct) ⟨us, ks.zip ws⟩ = pure ((as.map (·.arg)).zip (arr (as.map (·.arg)) us (ks.zip ws))) := by
  generalize hps : as.map (·.arg) = ps at *
  have hpl : ps.length = as.length := by rw [← hps, List.length_map]
  have hul : us.length ≤ ps.length := by omega
  have hzf : (ps.zip us).map (·.1) = ps.take us.length := zip_fst_take
  have hkf : (ks.zip ws).map (·.1) = ks := zip_fst (by omega)
  have hsplit : ps = ps.take us.length ++ ps.drop us.length := (List.take_append_drop _ _).symm
  have hdis : ∀ y ∈ ps.take us.length, y ∉ ps.drop us.length := fun y h1 h2 => by
    rw [hsplit] at nd
    exact (List.nodup_append.mp nd).2.2 y h1 y h2 rfl
  have hpk : ∀ y ∈ ks, y ∈ ps := fun y hy => List.mem_of_mem_drop (hk y hy)
  have l0 : ∀ (pre post : List (Str × Value)) (p : Str × Value), ks.zip ws = pre ++ p :: post → (ps.zip us ++ pre).lookup p.1 = none := fun pre post p e => by
    have e2 : ks = pre.map (·.1) ++ p.1 :: post.map (·.1) := by rw [← hkf, e]; simp
    have hp : p.1 ∈ ks := by rw [e2]; simp
    refine lookup_none_of ?_
    rw [List.map_append, hzf, List.mem_append, not_or]
    refine ⟨fun z => hdis _ z (hk _ hp), fun z => ?_⟩
    rw [e2] at nk
    exact (List.nodup_append.mp nk).2.2 p.1 z p.1 (by simp) rfl
  have c0 : ∀ (pre post : List (Str × Value)) (p : Str × Value), ks.zip ws = pre ++ p :: post → ps.contains p.1 = true := fun pre post p e => by
    have hp : p.1 ∈ ks := by rw [← hkf, e]; simp
    simpa using hpk _ hp
  have lkU : ∀ (n : Nat) (y : Str) (u : Value), ps[n]? = some y → us[n]? = some u → (ps.zip us ++ ks.zip ws).lookup y = some u := fun n y u h1 h2 => ?lkU
  have lkK : ∀ y ∈ ps.drop us.length, (ps.zip us ++ ks.zip ws).lookup y = (ks.zip ws).lookup y := fun y hy => ?lkK
  have some_ : ∀ y ∈ ps, ((ps.zip us ++ ks.zip ws).lookup y).isSome = true := fun y hy => ?some_
  have fm : ps.filterMap (fun n => ((ps.zip us ++ ks.zip ws).lookup n).map (n, ·)) = ps.zip (arr ps us (ks.zip ws)) := ?fm
  case fm =>
    have gen : ∀ (q : List Str) (vs : List Value), q.length = vs.length → (∀ (n : Nat) (y : Str) (v : Value), q[n]? = some y → vs[n]? = some v → (ps.zip us ++ ks.zip ws).lookup y = some v) → q.filterMap (fun n => ((ps.zip us ++ ks.zip ws).lookup n).map (n, ·)) = q.zip vs := by
      intro q
      induction q with
      | nil => intro vs _ _; rfl
      | cons y q ih =>
        intro vs hl h
        cases vs with
        | nil => simp at hl
        | cons v vs =>
          have z := h 0 y v rfl rfl
          rw [List.filterMap_cons, z]
          simp only [Option.map_some, List.zip_cons_cons]
          rw [ih vs (by simpa using hl) fun n y' v' h1 h2 => h (n + 1) y' v' (by simpa using h1) (by simpa using h2)]
    refine gen ps _ (by unfold arr; simp only [List.length_append, List.length_map, List.length_drop]; omega) fun n y v h1 h2 => ?_
    unfold arr at h2
    by_cases hn : n < us.length
    · rw [List.getElem?_append_left hn] at h2
      exact lkU n y v h1 h2
    · rw [List.getElem?_append_right (by omega), List.getElem?_map, List.getElem?_drop, show us.length + (n - us.length) = n by omega, h1] at h2
      simp only [Option.map_some, Option.some.injEq] at h2
      have hy : y ∈ ps.drop us.length := List.mem_of_getElem? (i := n - us.length) (by rw [List.getElem?_drop, show us.length + (n - us.length) = n by omega]; exact h1)
      have s1 := some_ y (List.mem_of_mem_drop hy)
      rw [lkK y hy] at s1 ⊢
      obtain ⟨u, hu⟩ := Option.isSome_iff_exists.mp s1
      rw [hu] at h2 ⊢
      rw [← h2]; rfl
  case lkU =>
    have gen : ∀ (q : List Str) (vs : List Value) (r : List (Str × Value)), q.Nodup → ∀ (n : Nat) (y : Str) (v : Value), q[n]? = some y → vs[n]? = some v → (q.zip vs ++ r).lookup y = some v := by
      intro q
      induction q with
      | nil => intro vs r _ n y v h1; simp at h1
      | cons a q ih =>
        intro vs r nd n y v h1 h2
        cases vs with
        | nil => simp at h2
        | cons b vs =>
          rw [List.zip_cons_cons, List.cons_append, List.lookup_cons]
          cases n with
          | zero =>
            simp at h1 h2
            subst h1; subst h2
            simp
          | succ n =>
            have h1' : q[n]? = some y := by simpa using h1
            have hne : (y == a) = false := by
              have : y ≠ a := fun e => (List.nodup_cons.mp nd).1 (e ▸ List.mem_of_getElem? h1')
              simpa using this
            rw [hne]
            exact ih vs r (List.nodup_cons.mp nd).2 n y v h1' (by simpa using h2)
    exact gen ps us _ nd n y u h1 h2
  case lkK =>
    rw [List.lookup_append, lookup_none_of (by rw [hzf]; exact fun z => hdis y z hy)]
    rfl
  case some_ =>
    rw [hsplit] at hy
    rcases List.mem_append.mp hy with h1 | h1
    · obtain ⟨n, hn, e⟩ := List.getElem_of_mem h1
      have hn' : n < us.length := by rw [List.length_take] at hn; omega
      have e1 : ps[n]? = some y := by
        rw [List.getElem_take] at e
        rw [← e]; exact List.getElem?_eq_getElem _
      rw [lkU n y us[n] e1 (List.getElem?_eq_getElem hn')]
      rfl
    · rw [lkK y h1]
      have hm : y ∈ (ks.zip ws).map (·.1) := by rw [hkf]; exact hall y h1
      cases e : (ks.zip ws).lookup y with
      | some u => rfl
      | none =>
        exfalso
        obtain ⟨p, hp, e2⟩ := List.mem_map.mp hm
        have := List.lookup_eq_none_iff.mp e p hp
        rw [e2] at this
        simp at this
  unfold bindArgs
  simp only [PySem.W.fnOf, parms, List.map_nil, List.nil_append, List.append_nil, hps]
  rw [forIn_add]
  · rw [pure_bind]
    have sq : seqItems? Value.none = pure none := rfl
    rw [sq, pure_bind]
    have g1 : ¬ us.length > ps.length := by omega
    simp only [decide_eq_false g1, Bool.false_and, Bool.false_eq_true, if_false, Option.getD_none, List.drop_nil, List.length_nil, Nat.sub_zero, Array.toList_empty, List.take_length, List.drop_length, List.zip_nil_left, List.forIn_nil, pure_bind]
    have g2 : (ps.filter fun n => ((ps.zip us ++ ks.zip ws).lookup n).isNone) = [] := by
      rw [List.filter_eq_nil_iff]
      intro y hy z
      have s1 := some_ y hy
      rw [Option.isNone_iff_eq_none] at z
      rw [z] at s1
      cases s1
    simp only [List.take_of_length_le (Nat.le_refl _), g2, List.isEmpty_nil, Bool.not_true, Bool.false_eq_true, if_false]
    rw [fm]
  · intro pre post p e
    rw [if_pos (by rw [c0 pre post p e]; rfl), l0 pre post p e]
    simp
end Mn

namespace Mn
open PySem L2 PySem.Spec PyProof.Rows
/-! ### shapes of expressions -/
def notStar : Expr → Bool
  | .Starred _ _ => false
  | _ => true
def plainTest : Expr → Bool
  | .UnaryOp .Not _ _ => false
  | .BoolOp _ _ _ => false
  | .IfExp _ _ _ _ => false
  | .Compare _ _ _ _ => false
  | _ => true
def notSet : Expr → Bool
  | .Set _ _ _ => false
  | _ => true
theorem star_cons {e : Expr} {es : List Expr} {env : PySem.Env} (h : notStar e = true) : starEach (e :: es) env = (false, eval e env) :: starEach es env := by
  cases e <;> first | rfl | (simp [notStar] at h)
theorem star_any {pos : Pos} {env : PySem.Env} : ∀ {es : List Expr}, es.all notStar = true → (backTo pos (starEach es env)).any (·.1) = false
  | [], _ => rfl
  | e :: es, h => by
    rw [List.all_cons, Bool.and_eq_true] at h
    rw [star_cons h.1]
    exact star_any h.2
theorem plain_test {e : Expr} {env : PySem.Env} (h : plainTest e = true) : ∀ whole, PySem.isTrue e env whole = (do let v ← whole; standAt e.pos; holding [v] (PySem.truthy v)) := by
  cases e with
  | UnaryOp op x pos => cases op <;> first | (intro _; rfl) | (simp [plainTest] at h; done)
  | _ => first | (intro _; rfl) | (simp [plainTest] at h; done)
theorem not_set {e : Expr} {env : PySem.Env} (h : notSet e = true) : ∀ x, foldedSetIterable e env x = pure x := by
  cases e <;> first | (intro _; rfl) | (simp [notSet] at h)
theorem mark_no {op : CmpOp} {e : Expr} (h : notSet e = true) : behindInMarks op e = false := by
  cases e <;> first | rfl | (simp [notSet] at h)
/-- the scope of a comprehension's block -/
def relab (sc o : Scope) : Scope :=
  { sc with names := sc.names.map fun (n, k) => if (k == NameKind.free && o.kind == .function && o.names.lookup n == some .cell) then (n, .cell) else (n, k) }
theorem relab_eq (sc : Scope) (env : PySem.Env) : relabel sc env = relab sc env.scope := rfl
/-! ### is this expression that term? -/
structure Gam where
  gi : List (Str × Int)
  gf : List (Str × Nat)
  prm : Nat → List Str
  fr : List Str
  /-- the own exception classes, each with its number, and whether it keeps its argument -/
  gc : List (Str × Nat × Bool) := []
  /-- the def that hears a call, and its words -/
  hd : Option (Str × List (Nat × Str × Bool)) := none
def noPar (a : Arguments) : Bool := a.args.isEmpty && (a.posonlyargs.isEmpty && (a.vararg.isNone && (a.kwonlyargs.isEmpty && (a.kw_defaults.isEmpty && (a.kwarg.isNone && a.defaults.isEmpty)))))
def isVis (N : List Str) (sc : Scope) (i : Nat) (x : Str) : Bool := decide (N[i]? = some x) && (sc.names.lookup x == some .local || sc.names.lookup x == some .cell || sc.names.lookup x == some .free) && !(x == ("__debug__" : Str)) && !(x == ("__classdict__" : Str))
def isGl (sc : Scope) (x : Str) : Bool := (sc.names.lookup x == some .globalImplicit) && !(x == ("__debug__" : Str))
def isB : E → Bool
  | .own _ => true
  | _ => false
/-- makes a new list (where it is one) -/
def isN : E → Bool
  | .bin _ _ _ => true
  | .lst _ => true
  | .bi _ _ => true
  | .lc _ _ _ => true
  | .lcif _ _ _ _ => true
  | .slab _ _ _ => true
  | .sla _ _ => true
  | .slb _ _ => true
  | .rev _ => true
  | .lrg _ _ _ => true
  | .lrg1 _ _ => true
  | .heard _ _ => true
  | .vals _ => true
  | .sset _ => true
  | .sortk _ _ _ _ => true
  | _ => false
/-- makes a new dict -/
def isDm : E → Bool
  | .dnew _ => true
  | .ddisp _ _ _ => true
  | .dc _ _ _ _ => true
  | _ => false
def noB : Es → Bool
  | .nil => true
  | .cons e es => !isB e && noB es
def Es.len : Es → Nat
  | .nil => 0
  | .cons _ es => es.len + 1
def BI.name : BI → Str
  | .abs => "abs" | .len => "len" | .int => "int" | .sum => "sum" | .max => "max" | .min => "min" | .max2 => "max" | .min2 => "min"
  | .divmod => "divmod" | .tuple => "tuple" | .list => "list" | .sorted => "sorted" | .sortedr => "" | .repr => "repr" | .sortset => "" | .lenset => ""
  | .all => "all" | .any => "any" | .dict => "" | .listv => ""
def BI.isTy : BI → Bool
  | .int => true | .tuple => true | .list => true
  | _ => false
def BI.ok : BI → Bool
  | .sortedr => false | .sortset => false | .lenset => false | .dict => false | .listv => false
  | _ => true
def Mth.name : Mth → Str
  | .count => "count" | .get => "get" | .index => "index" | .tindex => "index"
/-- the values of keywords -/
def kwVals : List Keyword → List Expr
  | [] => []
  | ⟨_, e, _⟩ :: r => e :: kwVals r
def kwNames : List Keyword → Option (List Str)
  | [] => some []
  | ⟨some n, _, _⟩ :: r => (kwNames r).map (n :: ·)
  | ⟨none, _, _⟩ :: _ => none
def chkTg (N : List Str) (sc : Scope) : Tg → Expr → Bool
  | .nm i, .Name x _ => decide (N[i]? = some x) && (sc.names.lookup x == some .local || sc.names.lookup x == some .cell)
  | .tp is, .Tuple es _ _ => decide (is.length = es.length) && ((is.zip es).all fun p => match p.2 with
    | .Name x _ => decide (N[p.1]? = some x) && (sc.names.lookup x == some .local || sc.names.lookup x == some .cell)
    | _ => false) && decide (is.Nodup)
  | _, _ => false
def tgNames (N : List Str) (t : Tg) : List (Str × Nat) := t.slots.filterMap fun i => (N[i]?).map (·, i)

def permOf (ps : List Str) (k : Nat) (ks : List Str) : List Nat := (List.range ps.length).map fun j => if j < k then j else k + ks.idxOf (ps.getD j Str.empty)
def notIf : Expr → Bool
  | .IfExp _ _ _ _ => false
  | _ => true
def plIx : Expr → Bool
  | .Slice _ _ _ _ => false
  | .Tuple _ _ _ => false
  | _ => true
def notSup : Expr → Bool
  | .Call _ (_ :: _) _ _ => true
  | .Call _ _ _ _ => false
  | _ => true
def itB : It → Bool
  | .val e => isB e
  | .enum e => isB e
  | .zip a b => isB a || isB b
  | .zipm a b => isB a || isB b
  | .items a => isB a
  | _ => false
def rgArg : Expr → Option (Str × List Expr)
  | .Call (.Name g _) as [] _ => some (g, as)
  | _ => none
def isiNames : List String := ["int", "bool", "tuple", "str", "list"]
/-- a lambda with one parameter: its scope holds that, captured names, globals -/
def lamPB (sc scope : Scope) (p : Str) : Bool :=
  decide (scope.kind = .function) && (!scope.isCoroutine && (!scope.isGenerator && (scope.names.lookup p == some .local && (scope.names.all fun y => !(y.2 == .cell) && (!(y.2 == .local) || y.1 == p) && (!(y.2 == .free) || sc.names.lookup y.1 == some .cell || sc.names.lookup y.1 == some .free)))))
/-- one parameter, and nothing else -/
def onePar (a : Arguments) : Bool := decide (a.args.length = 1) && (a.posonlyargs.isEmpty && (a.vararg.isNone && (a.kwonlyargs.isEmpty && (a.kw_defaults.isEmpty && (a.kwarg.isNone && a.defaults.isEmpty)))))
def parOf (a : Arguments) : Str := match a.args with
  | y :: _ => y.arg
  | [] => Str.empty
/-- f(g(x)) -/
def setArg : Expr → Option (Str × Str × Expr)
  | .Call (.Name f _) [.Call (.Name g _) [x] [] _] [] _ => some (f, g, x)
  | _ => none
/-- f(x, key=lambda y: ..) -/
def keyArg : Expr → Option (Str × Expr × Str × Arguments × Expr × Scope)
  | .Call (.Name f _) [x] [⟨some kn, .Lambda params body scope _, _⟩] _ => some (f, x, kn, params, body, scope)
  | _ => none
section
variable (Γ : Gam) (N : List Str)
mutual
def chkE : E → Scope → Expr → Bool
  | .no, _, _ => true
  | .non, _, .Constant .none _ _ => true
  | .bl b, _, .Constant (.bool c) _ _ => b == c
  | .int i, _, .Constant (.int j) _ _ => decide (i = j)
  | .str s, _, .Constant (.str t) _ _ => decide (s = t)
  | .var i, sc, .Name x _ => isVis N sc i x
  | .own i, sc, .Name x _ => isVis N sc i x
  | .gint i, sc, .Name x _ => isGl sc x && decide (Γ.gi.lookup x = some i)
  | .gfn n, sc, .Name x _ => isGl sc x && decide (Γ.gf.lookup x = some n)
  | .bin op a b, sc, .BinOp l o r _ => decide (o = op.op) && chkE a sc l && chkE b sc r
  | .neg a, sc, .UnaryOp .USub e _ => chkE a sc e
  | .not a, sc, .UnaryOp .Not e _ => chkE a sc e && notIf e
  | .cmp op a b, sc, .Compare l [o] [r] _ => decide (o = op.op) && chkE a sc l && chkE b sc r && notSet r
  | .chain o p a b c, sc, .Compare l [o', p'] [m, r] _ => decide (o' = o.op) && decide (p' = p.op) && chkE a sc l && chkE b sc m && chkE c sc r && notSet r
  | .and a b, sc, .BoolOp .And (l :: r :: rest) pos => !isB a && !isB b && chkE a sc l && notIf l && (match rest with
    | [] => chkE b sc r && notIf r
    | _ :: _ => chkE b sc (.BoolOp .And (r :: rest) pos))
  | .or a b, sc, .BoolOp .Or (l :: r :: rest) pos => !isB a && !isB b && chkE a sc l && notIf l && (match rest with
    | [] => chkE b sc r && notIf r
    | _ :: _ => chkE b sc (.BoolOp .Or (r :: rest) pos))
  | .ife c a b, sc, .IfExp t x y _ => !isB a && !isB b && chkE c sc t && chkE a sc x && chkE b sc y && notIf t
  | .call n es, sc, .Call (.Name f _) (a :: as) [] _ => isGl sc f && decide (Γ.gf.lookup f = some n) && noB es && decide (es.len = (Γ.prm n).length) && chkEs es sc (a :: as)
  | .callk n es zs p, sc, .Call (.Name f _) as (k :: ks) _ => isGl sc f && decide (Γ.gf.lookup f = some n) && noB es && noB zs && chkEs es sc as && chkEs zs sc (kwVals (k :: ks)) && (match kwNames (k :: ks) with
    | some ns => decide ns.Nodup && decide (∀ y ∈ ns, y ∈ (Γ.prm n).drop as.length) && decide (∀ y ∈ (Γ.prm n).drop as.length, y ∈ ns) && decide (as.length + ns.length = (Γ.prm n).length) && decide (p = permOf (Γ.prm n) as.length ns)
    | none => false)
  | .calll i es, sc, .Call (.Name x _) (a :: as) [] _ => isVis N sc i x && noB es && chkEs es sc (a :: as)
  | .bi .sortedr (.cons a .nil), sc, .Call (.Name f _) [x] [⟨some k, .Constant (.bool true) _ _, _⟩] _ => isGl sc f && decide (f = "sorted") && decide (k = "reverse") && Γ.fr.contains f && chkE a sc x && notStar x
  | .bi f es, sc, .Call (.Name g _) (a :: as) [] _ => f.ok && isGl sc g && decide (g = f.name) && Γ.fr.contains g && chkEs es sc (a :: as)
  | .isi t a, sc, .Call (.Name g _) [x, .Name t' _] [] _ => isGl sc g && decide (g = "isinstance") && Γ.fr.contains g && isiNames.contains t && decide (t' = Str.ofString t) && isGl sc t' && Γ.fr.contains t' && chkE a sc x && notStar x
  | .mt .index a (.cons b .nil), sc, .Call (.Attribute x nm apos) [y] [] cpos => decide (nm = "index") && chkE a sc x && chkE b sc y && notStar y && (apos.endLine == cpos.line) && notSup x
  | .mt .count a (.cons b .nil), sc, .Call (.Attribute x nm apos) [y] [] cpos => decide (nm = "count") && chkE a sc x && chkE b sc y && notStar y && (apos.endLine == cpos.line) && notSup x
  | .mt .get a (.cons b (.cons z .nil)), sc, .Call (.Attribute x nm apos) [y, w] [] cpos => decide (nm = "get") && chkE a sc x && chkE b sc y && chkE z sc w && !isB z && notStar y && notStar w && (apos.endLine == cpos.line) && notSup x
  | .dnew _, _, .Dict [] [] _ => true
  | .ddisp t a b, sc, .Dict [some x] [y] _ => !isB a && !isB b && chkE a sc x && chkE b sc y
  | .tup es, sc, .Tuple as _ _ => noB es && decide (es.len ≤ 1000) && chkEs es sc as
  | .lst es, sc, .List as _ => noB es && decide (es.len ≤ 1000) && chkEs es sc as
  | .cell es, sc, .List as _ => noB es && decide (es.len ≤ 1000) && chkEs es sc as
  | .lc e tg it, sc, .ListComp elt [⟨t, i, [], z⟩] scope _ => (!lamSc sc && (ownSc N sc || !ownSc N (relab scope sc))) && chkI it tg sc i && chkTg N scope tg t && blkC N sc scope (tgNames N tg) && decide (tg.slots.length = (tgNames N tg).length) && !isB e && chkE e (relab scope sc) elt && decide (z = 0)
  | .lcif e tg it c, sc, .ListComp elt [⟨t, i, [f], z⟩] scope _ => (!lamSc sc && (ownSc N sc || !ownSc N (relab scope sc))) && chkI it tg sc i && chkTg N scope tg t && blkC N sc scope (tgNames N tg) && decide (tg.slots.length = (tgNames N tg).length) && !isB e && chkE e (relab scope sc) elt && chkE c (relab scope sc) f && notIf f && decide (z = 0)
  | .ix a i, sc, .Subscript x y _ => chkE a sc x && chkE i sc y && plIx y
  | .slab a lo hi, sc, .Subscript x (.Slice (some l) (some h) none _) _ => chkE a sc x && chkE lo sc l && chkE hi sc h
  | .sla a lo, sc, .Subscript x (.Slice (some l) none none _) _ => chkE a sc x && chkE lo sc l
  | .slb a hi, sc, .Subscript x (.Slice none (some h) none _) _ => chkE a sc x && chkE hi sc h
  | .lrg t a b, sc, .Call (.Name f _) [z] [] _ => match rgArg z with
    | some (g, [x, y]) => isGl sc f && decide (f = (if t then "tuple" else "list")) && Γ.fr.contains f && isGl sc g && decide (g = "range") && Γ.fr.contains g && chkE a sc x && chkE b sc y && notStar x && notStar y
    | _ => false
  | .lrg1 t a, sc, .Call (.Name f _) [z] [] _ => match rgArg z with
    | some (g, [x]) => isGl sc f && decide (f = (if t then "tuple" else "list")) && Γ.fr.contains f && isGl sc g && decide (g = "range") && Γ.fr.contains g && chkE a sc x && notStar x
    | _ => false
  | .dc k v tg it, sc, .DictComp kx vx [⟨t, i, [], z⟩] scope _ => (!lamSc sc && (ownSc N sc || !ownSc N (relab scope sc))) && chkI it tg sc i && chkTg N scope tg t && blkC N sc scope (tgNames N tg) && decide (tg.slots.length = (tgNames N tg).length) && !isB k && !isB v && chkE k (relab scope sc) kx && chkE v (relab scope sc) vx && decide (z = 0)
  | .vals a, sc, .Call (.Name f _) [.Call (.Attribute x nm apos) [] [] cpos] [] _ => isGl sc f && decide (f = "list") && Γ.fr.contains f && decide (nm = "values") && chkE a sc x && notSup x && (apos.endLine == cpos.line)
  | .sset a, sc, e => match setArg e with
    | some (f, g, x) => isGl sc f && decide (f = "sorted") && Γ.fr.contains f && isGl sc g && decide (g = "set") && Γ.fr.contains g && notStar x && chkE a sc x
    | none => false
  | .mink i cap m a, sc, e => match keyArg e with
    | some (f, x, kn, params, body, scope) => isGl sc f && decide (f = "min") && decide (kn = "key") && Γ.fr.contains f && !isB a && notStar x && chkE a sc x && ownSc N sc && N.contains ("<lambda>" : Str) && lamPB sc scope (parOf params) && onePar params && !ownSc N scope && decide (N[i]? = some (parOf params)) && !isB m && chkE m scope body
    | none => false
  | .sortk i cap m a, sc, e => match keyArg e with
    | some (f, x, kn, params, body, scope) => isGl sc f && decide (f = "sorted") && decide (kn = "key") && Γ.fr.contains f && notStar x && chkE a sc x && ownSc N sc && N.contains ("<lambda>" : Str) && lamPB sc scope (parOf params) && onePar params && !ownSc N scope && decide (N[i]? = some (parOf params)) && !isB m && chkE m scope body
    | none => false
  | .heard tb e, sc, .Call (.Name x _) [.Lambda params body scope _] [] _ => isGl sc x && decide (Γ.hd = some (x, tb)) && ownSc N sc && N.contains ("<lambda>" : Str) && LamX.lamSB sc scope && lamSc scope && noPar params && !isB e && chkE e scope body
  | .rgv1 a, sc, .Call (.Name f _) [x] [] _ => isGl sc f && decide (f = "range") && Γ.fr.contains f && chkE a sc x && notStar x
  | .rgv2 a b, sc, .Call (.Name f _) [x, y] [] _ => isGl sc f && decide (f = "range") && Γ.fr.contains f && chkE a sc x && chkE b sc y && notStar x && notStar y
  | .rev a, sc, .Subscript x (.Slice none none (some (.UnaryOp .USub (.Constant (.int 1) _ _) _)) _) _ => chkE a sc x
  | _, _, _ => false
def chkEs : Es → Scope → List Expr → Bool
  | .nil, _, [] => true
  | .cons m ms, sc, e :: es => notStar e && chkE m sc e && chkEs ms sc es
  | _, _, _ => false
def chkI : It → Tg → Scope → Expr → Bool
  | .val e, _, sc, x => chkE e sc x && notSet x
  | .rng1 a, _, sc, .Call (.Name f _) [x] [] _ => isGl sc f && decide (f = "range") && Γ.fr.contains f && chkE a sc x && notStar x
  | .rng2 a b, _, sc, .Call (.Name f _) [x, y] [] _ => isGl sc f && decide (f = "range") && Γ.fr.contains f && chkE a sc x && chkE b sc y && notStar x && notStar y
  | .rngd a b, _, sc, .Call (.Name f _) [x, y, .UnaryOp .USub (.Constant (.int 1) _ _) _] [] _ => isGl sc f && decide (f = "range") && Γ.fr.contains f && chkE a sc x && chkE b sc y && notStar x && notStar y
  | .enum a, .tp _, sc, .Call (.Name f _) [x] [] _ => isGl sc f && decide (f = "enumerate") && Γ.fr.contains f && chkE a sc x && notStar x
  | .zip a b, .tp _, sc, .Call (.Name f _) [x, y] [] _ => isGl sc f && decide (f = "zip") && Γ.fr.contains f && chkE a sc x && chkE b sc y && notStar x && notStar y
  | .zipm a b, .tp _, sc, .Call (.Name f _) [x, y] [] _ => isGl sc f && decide (f = "zip") && Γ.fr.contains f && chkE a sc x && chkE b sc y && notStar x && notStar y
  | .items a, .tp _, sc, .Call (.Attribute x nm apos) [] [] cpos => decide (nm = "items") && chkE a sc x && !isB a && notSup x && (apos.endLine == cpos.line)
  | _, _, _, _ => false
end
end
end Mn

/-! An own exception of one argument: its __init__ hands it up, and keeps it in a field. -/
namespace Mn
open PySem PySem.Spec PySem.W PySem.Calls PyProof.Rows
/-- the exception with its dict -/
abbrev excD (C t d : Addr) : Obj := { cls := .ref C, dict := some d, data := .fields #[.ref t, .none, .none, .none, .bool false, .none] }
/-- the body: super().__init__(x); self.f = x -/
abbrev supBody (a x f : Str) (q : Fin 10 → Pos) : List Stmt :=
  [.Expr (.Call (.Attribute (.Call (.Name "super" (q 0)) [] [] (q 1)) "__init__" (q 2)) [.Name x (q 3)] [] (q 4)) (q 5), .Assign [.Attribute (.Name a (q 6)) f (q 7)] (.Name x (q 8)) (q 9)]
/-- what the written part says of the class at C -/
structure SupC (P : Program) (K : Frag) (C : Addr) (f : Str) : Prop where
  cls : ∃ nm q N bs bm sn sub ab col dd k0 k1 k2 k3 k5, K.lookup C = some (excClassObj nm q C N bs bm true sn sub ab col dd k0 k1 k2 k3 k5 "ValueError.__new__") ∧ HandSPX.refsVE bm = true
  sa : findIn K (.ref C) "__setattr__" = some (some (.builtin "object.__setattr__"))
  no : findIn K (.ref C) f = some none
  exC : subIn K (.ref C) (.type "BaseException") = some true
  veC : subIn K (.ref C) (.type "ValueError") = some true
  meC : mroIn K C (.ref C) = some true
  tyC : typeIn K (.ref C) = some (.type "type")
  kC : keepIn K (.ref C) = true
  up : ks_superIn K C C "__init__" = some (some (.builtin "ValueError.__init__"))
  sup : nsIn K mainGlobals "super" = some none
  opq : nsIn K cStatics "thirdparty.any" = some none
  top : (P.main.scope.names.lookup ("super" : Str)).isSome = false
  ini : ∃ (fI cc cda : Addr) (oc : Value) (od : Option Addr) (osl : Array (Option Value)) (name qual a x : Str) (qs : Fin 10 → Pos) (ps : Arguments) (scope : Scope) (kV doc pm ct : Value) (an : Option Addr),
    findIn K (.ref C) "__init__" = some (some (.ref fI)) ∧ typeIn K (.ref fI) = some (.type "function") ∧
    K.lookup fI = some ⟨oc, od, .func (fnX name qual ps (supBody a x f qs) scope [("__class__", cc)] .none kV doc pm an (.ref cda) ct), osl⟩ ∧ codeIn K (.ref cda) qual = true ∧
    (∃ (cl : Value) (cd : Option Addr) (vs : Array Value) (sl : Array (Option Value)) (file : Str) (tf : Tok), K.lookup cda = some ⟨cl, cd, .fields vs, sl⟩ ∧ vs[2]? = some (.str file tf) ∧ ((P.main.file : Str) == file) = true) ∧
    (∃ (cl : Value) (cd : Option Addr) (sl : Array (Option Value)), K.lookup cc = some ⟨cl, cd, .cell (some (.ref C)), sl⟩) ∧
    ps = parms ps.args ∧ ps.args.map (·.arg) = [a, x] ∧ a ≠ x ∧
    scope.kind = .function ∧ scope.isCoroutine = false ∧ scope.isGenerator = false ∧ (∀ y ∈ scope.names, y.2 ≠ .cell) ∧
    scope.names.lookup ("super" : Str) = some .globalImplicit ∧ scope.names.lookup ("__class__" : Str) = some .free ∧ scope.names.lookup a = some .local ∧ scope.names.lookup x = some .local ∧
    ((a == ("__debug__" : Str)) = false ∧ (x == ("__debug__" : Str)) = false) ∧ ((qs 2).endLine == (qs 4).line) = true
section
variable {prog : Program} {w : World} {A : Around} {E : Value → Shared → Prop} {h : Heap} {g : Array GenState} {d : Drawn} {t : Nat} {os : OsState}
variable {nm q : Str} {C N : Addr} {bs bm : List Value} {hdct : Bool} {sn : List Str} {sub : List Value} {ab : Bool} {col : Option Bool} {dd : Option Addr} {k0 k1 k2 k3 k5 : Option Value}
/-- the bound ValueError.__init__ called -/
theorem call_up {u e t0 : Addr} {rest : List Value} {Q : Value → Shared → Prop} (hC : h.get? C = some (excClassObj nm q C N bs bm hdct sn sub ab col dd k0 k1 k2 k3 k5 "ValueError.__new__"))
    (he : h.get? e = some (HandSPX.excO C t0)) (hu : h.get? u = some (kxs_mw "ValueError.__init__" e)) (few : rest.length ≤ sizeLine)
    (hq : ∀ h' t1, (∀ b o, b ≠ e → h.get? b = some o → h'.get? b = some o) → h'.get? e = some (HandSPX.excO C t1) → Q .none ⟨h', g, d, t, os⟩) :
    wpAny (model prog w) A (call (.ref u) rest) Q E ⟨h, g, d, t, os⟩ := by
  refine wpAny_call (codeAny_of_tree ?_)
  show wpAny _ A.in1 (callAny (.ref u) ⟨rest, []⟩) _ _ _
  simp only [callAny]
  refine wpAny_bind (wpAny_load hu ?_)
  have ty : (Value.type "method-wrapper" == Value.type "method" || Value.type "method-wrapper" == Value.type "builtin_function_or_method" || Value.type "method-wrapper" == Value.type "method-wrapper") = true := by decide
  simp only [kxs_mw, ty, if_true]
  refine KFB.if_so (by decide) ?_
  refine wpAny_bind (check_bound_init F.excBase_ValueError.toExcCallFacts hC he rfl ?_)
  refine wpAny_bind (wpAny_pure (wpAny_pure ?_))
  refine ⟨plainId_quiet F.excBase_ValueError.init.plain _, codeAny_builtin F.excBase_ValueError.initEntry ?_⟩
  rw [Around.under_plainId F.excBase_ValueError.init.plain _]
  wp_walk
  refine hq _ h.objs.size (fun b o hb ho => ?_) ?_
  · rw [Heap.get?_update_other _ _ (Ne.symm hb)]
    exact Heap.get?_push_of_some _ ho
  · rw [Heap.get?_update_self _ (Heap.get?_push_of_some _ he) rfl]
    rfl
end
end Mn

namespace Mn
open PySem PySem.Spec PySem.W PySem.Calls PyProof.Rows
section
variable {prog : Program} {w : World} {A : Around} {K : Frag} {C : Addr} {f : Str} {hp : Heap} {g : Array GenState} {d : Drawn} {t : Nat} {os : OsState} {mg mb : Str → Option Value}
/-- what __init__ leaves: the object at e with its dict, all else as before -/
def InitEnd (C e : Addr) (f : Str) (u : Value) (hp h' : Heap) : Prop := (∀ b o, b ≠ e → hp.get? b = some o → h'.get? b = some o) ∧ ∃ t1 dx : Addr, h'.get? e = some (excD C t1 dx) ∧ hp.objs.size ≤ dx ∧ dx ≠ e ∧ h'.Ns1 dx (fun y => if y = f then some u else none)
theorem spliced_one {M : Model} {E : Value → Shared → Prop} {s : Shared} {x : Sem Value} {Q : List Value → Shared → Prop} (h : wpAny M A x (fun v s₁ => Q [v] s₁) E s) : wpAny M A (spliced [(false, x)]) Q E s :=
  Calls.spliced_cons (wpAny_mono h (fun v s1 q => Calls.spliced_nil q) fun _ _ z => z)
theorem init_body (S : SupC prog K C f) {env : PySem.Env} {scope : Scope} {fI cc cda e t0 : Addr} {u : Value} {a x : Str} {qs : Fin 10 → Pos} {body : List Stmt} {of oc : Obj} {fd : FuncData} {ar : Arg} {vs : Array Value} {file : Str} {tf : Tok} {m : Str → Option Value} {E : Value → Shared → Prop} {Q : Flow → Shared → Prop}
    (es : env.scope = scope) (ek : env.cells = [(("__class__" : Str), cc)]) (ef : env.func = some fI) (ec : env.code = .ref cda) (eg : env.globals = mainGlobals) (eb : env.builtins = builtinsNs)
    (hk : scope.kind = .function) (hks : scope.names.lookup ("super" : Str) = some .globalImplicit) (hkc : scope.names.lookup ("__class__" : Str) = some .free) (hka : scope.names.lookup a = some .local) (hkx : scope.names.lookup x = some .local)
    (hda : (a == ("__debug__" : Str)) = false) (hdx : (x == ("__debug__" : Str)) = false) (hl : ((qs 2).endLine == (qs 4).line) = true)
    (X : K.In hp) (G : hp.Ns mainGlobals mg) (B : hp.Ns builtinsNs mb) (mgS : mg "super" = none) (mbS : mb "super" = some (.type "super"))
    (hof : hp.get? fI = some of) (hfd : of.data = .func fd) (har : (fd.params.posonlyargs ++ fd.params.args).head? = some ar) (harg : ar.arg = a)
    (hoc : hp.get? cda = some oc) (hocd : oc.data = .fields vs) (hvs : vs[2]? = some (.str file tf)) (hfile : ((prog.main.file : Str) == file) = true)
    (hcc : hp.IsCell cc (some (.ref C)))
    (hns : hp.Ns env.locals m) (ma : m a = some (.ref e)) (mx : m x = some u) (nL : env.locals ≠ e) (hKe : K.lookup e = none)
    (he : hp.get? e = some (HandSPX.excO C t0)) (hq : ∀ h' t', InitEnd C e f u hp h' → Q .next ⟨h', g, d, t', os⟩) :
    PySem.wpAt (model prog w) A (.func body env) (execs (supBody a x f qs) env) Q E ⟨hp, g, d, t, os⟩ := by
  obtain ⟨nm, q, N, bs, bm, sn, sub, ab, col, dd, k0, k1, k2, k3, k5, hC, hbm⟩ := S.cls
  have hcl : clsIn K C = some { name := nm, bases := bs, mro := .ref C :: bm, ns := N, qualname := q, hasDict := true, slotNames := sn, subclasses := sub, abstract := ab, collection := col, hasDel := false } := by unfold clsIn; rw [hC] <;> rfl
  have eC : e ≠ C := fun z => by
    have e1 := X _ _ hC
    rw [← z, he] at e1
    cases e1
  have kf : env.scope.kind = .function := by rw [es, hk]
  have kS : env.kindOf "super" = some .globalImplicit := by unfold Env.kindOf; rw [es, hks]
  have kC : env.kindOf "__class__" = some .free := by unfold Env.kindOf; rw [es, hkc]
  have kA : env.kindOf a = some .local := by unfold Env.kindOf; rw [es, hka]
  have kX : env.kindOf x = some .local := by unfold Env.kindOf; rw [es, hkx]
  have hint : interactive env = false := by unfold interactive; rw [kf]; rfl
  refine ks_wpAt_execs_cons (ks_wpAt_Expr_any (ks_wpAt_MethodCall (pl := L2.plainOf (.Call (.Name "super" (qs 0)) [] [] (qs 1)) env) ?_ ?_) hint (by rfl))
  · refine ks_wpAt_super_base kS kC (by decide) ef hof hfd har ec hoc hocd hvs hfile S.top ?_
    refine ks_loadName_global kf kS (loadGlobal_builtin (by rw [eg]; exact G) mgS (by rw [eb]; exact B) mbS ⟨rfl, ?_⟩)
    refine wpAny_loadName_free kf kC (by rw [ek]; rfl) hcc ?_
    rw [harg]
    refine wpAny_loadName_local kf kA hns ma ?_
    refine ks_wpAny_isType_cls (X _ _ hC) rfl ⟨rfl, ?_⟩
    refine ks_wpAny_call_super (X _ _ hC) rfl he rfl (fun c z => by cases z) (looks_mroIn X S.meC) fun h2 hso kp2 => ?_
    have X2 : K.In h2 := fun b o z => kp2 b o (X b o z)
    have he2 := kp2 _ _ he
    have I2 : InstAt h2 e (HandSPX.excO C t0) C none := ⟨he2, rfl, rfl, trivial⟩
    refine kxs_getMethod kxs_ValueError (l₀ := .ref C :: bm) (l := ((Value.ref C :: bm).dropWhile (· != .ref C)).drop 1) (K := K) hso (looks_opaque X2 S.opq) ?_ rfl X2 ?_ (I2.type.andThen (looks_subIn X2 S.veC)) eC (by decide) ?_
    · exact fun A Q E s k q => wpAny_bind ((looks_clsIn X2 hcl) A _ E s k (wpAny_pure q))
    · have z := S.up
      unfold ks_superIn at z
      rw [hcl] at z
      exact z
    have kp3 : ∀ b o, hp.get? b = some o → (h2.push (kxs_mw "ValueError.__init__" e)).get? b = some o := fun b o z => Heap.get?_push_of_some _ (kp2 b o z)
    have hu3 : (h2.push (kxs_mw "ValueError.__init__" e)).get? h2.objs.size = some (kxs_mw "ValueError.__init__" e) := Heap.get?_push_at rfl rfl
    refine kxs_callWith (i := "ValueError.__init__") (x := e) (by rfl) (evalArgs_plain (spliced_one (wpAny_Name (wpAny_loadName_local kf kX (hns.keeps kp3) mx ⟨hu3, ?_⟩) hdx)))
    refine call_up (kp3 _ _ (X _ _ hC)) (kp3 _ _ he) hu3 (by rw [sizeLine_eq]; simp) fun h4 t1 kp4 he4 => ?_
    have kp : ∀ b o, b ≠ e → hp.get? b = some o → h4.get? b = some o := fun b o nb z => kp4 b o nb (kp3 b o z)
    have X4 : K.In h4 := fun b o z => kp b o (fun y => by rw [y, hKe] at z; cases z) (X b o z)
    have hns4 : h4.Ns env.locals m := by
      obtain ⟨o, es1, ep, e1, hd, r⟩ := hns
      exact ⟨o, es1, ep, kp _ _ nL e1, hd, r⟩
    -- self.f = x
    refine ks_wpAt_execs_cons (ks_wpAt_Assign_Attr (wpAt_of_any (wpAny_Name (wpAny_loadName_local kf kX hns4 mx (wpAny_Name (wpAny_loadName_local kf kA hns4 ma ?_) hda)) hdx)) (by rfl))
    refine set_plain X4 (ox := HandSPX.excO C t1) (od := none) ⟨he4, rfl, rfl, trivial⟩ S.sa ?_
    refine HandSPX.exc_osa X4 he4 hcl (show HandSPX.refsVE (.ref C :: bm) = true from hbm) rfl S.no fun h5 tk5 dx kp5 hdx5 ndx he5 hn5 => ?_
    refine wpAt_of_any (wpAny_execs_nil ?_)
    have z1 : hp.objs.size < h2.objs.size := Heap.lt_size hso
    have z2 : h2.objs.size < h4.objs.size := Heap.lt_size (kp4 _ _ (fun z => by
      have z' : h2.objs.size = e := z
      have z3 : e < hp.objs.size := Heap.lt_size he
      rw [z'] at z1
      exact Nat.lt_asymm z1 z3) hu3)
    have sz : hp.objs.size ≤ h4.objs.size := Nat.le_of_lt (Nat.lt_trans z1 z2)
    exact hq h5 tk5 ⟨fun b o nb z => kp5 b o nb (kp b o nb z), t1, dx, he5, Nat.le_trans sz hdx5, ndx, hn5⟩
  · rw [arm_eval_Call]
    congr 1
    funext ov
    congr 1
    funext _
    exact L2.mcall_line (by rfl) hl
theorem init_run {R : Result → Shared → Prop} (S : SupC prog K C f) (X : K.In hp) (G : hp.Ns mainGlobals mg) (B : hp.Ns builtinsNs mb) (bb : ∀ x : Str, x ≠ "__name__" → mb x = bootBuiltins x) (lim : hp.NoLimit) (room : A.depth < recursionLimit)
    {e t0 : Addr} {u : Value} (he : hp.get? e = some (HandSPX.excO C t0)) (hKe : K.lookup e = none) {fI : Addr} (hI : findIn K (.ref C) "__init__" = some (some (.ref fI)))
    (hq : ∀ h' t', InitEnd C e f u hp h' → R (.ok (.ret .none)) ⟨h', g, d, t', os⟩) :
    codeAny (model prog w) A (.call (.ref fI) ⟨[.ref e, u], []⟩) R ⟨hp, g, d, t, os⟩ := by
  obtain ⟨fI', cc, cda, oc, od, osl, name, qual, a, x, qs, ps, scope, kV, doc, pm, ct, an, i1, tI, lk, hcode, ⟨cl, cd, vs, sl, file, tf, hcda, hvs, hfile⟩, ⟨cl2, cd2, sl2, hcc⟩, hps, hargs, hax, hk, hco, hgen, hnc, hks, hkc, hka, hkx, ⟨da, dx'⟩, hl⟩ := S.ini
  rw [hI] at i1
  cases i1
  have mbS : mb "super" = some (.type "super") := (bb _ (by decide +kernel)).trans (by kernel_rfl)
  have mgS : mg "super" = none := mg_none_of X G S.sup
  have hbind : ∀ s, BindsTo s (fnX name qual ps (supBody a x f qs) scope [("__class__", cc)] .none kV doc pm an (.ref cda) ct) ⟨[.ref e, u], []⟩ [(a, .ref e), (x, u)] := fun s => by
    refine .of_eq ?_
    have z := bind_plain (x := name) (qual := qual) (as := ps.args) (body := supBody a x f qs) (scope := scope) (kV := kV) (doc := doc) (pm := pm) (an := an) (cdv := .ref cda) (ct := ct) (us := [.ref e, u]) (ws := []) (ks := []) (by rw [hargs]; simpa using hax) .nil rfl (fun y hy => by cases hy) (fun y hy => by
      rw [hargs] at hy; simp at hy) (by have := congrArg List.length hargs; rw [List.length_map] at this; rw [this]; rfl)
    rw [← hps, hargs] at z
    exact z
  refine ks_codeAny_call_defAt (binds := [(a, .ref e), (x, u)]) room (X _ _ lk) rfl lim (codeRec_of X hcode) rfl (hbind _) hnc (fun y hy => ?_) (fun h₁ hns kp => ?_) hco hgen hk
  · rcases List.mem_cons.mp hy with z | hy
    · rw [z]; exact hka
    · rw [List.mem_singleton.mp hy]; exact hkx
  have X1 : K.In h₁ := fun b o z => kp b o (X b o z)
  have har : ∃ ar, (ps.posonlyargs ++ ps.args).head? = some ar ∧ ar.arg = a := by
    rw [hps]
    cases e : ps.args with
    | nil => rw [e] at hargs; cases hargs
    | cons y r => rw [e] at hargs; exact ⟨y, rfl, (List.cons.inj hargs).1⟩
  obtain ⟨ar, har, harg⟩ := har
  have sz : hp.objs.size ≤ h₁.objs.size := by
    obtain ⟨o, es1, ep, e1, _⟩ := hns
    exact Nat.le_of_lt (Heap.lt_size e1)
  refine init_body (u := u) (m := fun y => ([(a, Value.ref e), (x, u)] : List (Str × Value)).reverse.lookup y) S rfl rfl rfl rfl rfl rfl hk hks hkc hka hkx da dx' hl X1 (G.keeps kp) (B.keeps kp) mgS mbS (X1 _ _ lk) rfl har harg (X1 _ _ hcda) rfl hvs hfile ⟨_, X1 _ _ hcc, rfl⟩ hns ?_ ?_ ?_ hKe (kp _ _ he) fun h' t' q => ?_
  · show ([(x, u), (a, Value.ref e)] : List (Str × Value)).lookup a = _
    rw [List.lookup_cons, show (a == x) = false by simpa using hax, List.lookup_cons, show (a == a) = true by simp]
  · show ([(x, u), (a, Value.ref e)] : List (Str × Value)).lookup x = _
    rw [List.lookup_cons, show (x == x) = true by simp]
  · exact Nat.ne_of_gt (Heap.lt_size he)
  · obtain ⟨q1, t1, dx, q2, q3, q4, q5⟩ := q
    exact hq h' t' ⟨fun b o nb z => q1 b o nb (kp b o z), t1, dx, q2, Nat.le_trans sz q3, q4, q5⟩
end
end Mn

namespace Mn
open PySem L2 PySem.Spec PyProof.Rows
section
variable {X : Cx} {C : Addr} {f x : Str} {e : Expr} {te : TE} {p pos : Pos}
/-- x(e), an own exception that keeps its argument in its field f -/
theorem pmk_sup (S : SupC X.prog X.K C f) (hg : Gl X x) (hm : X.mg x = some (.ref C)) (hr : Room 1 X.A) (he : PE X e te) (hs : starEach [e] X.env = (false, eval e X.env) :: starEach [] X.env) (hdb : (x == ("__debug__" : Str)) = false) :
    PMk X (.Call (.Name x p) [e] [] pos) (fun σ H Q => te σ H fun v H1 => ∀ d, H1 d = none → Q (.ref C) (some d) (upd H1 d (.xd [(f, v)]))) := by
  intro pins s σ H Q I h
  obtain ⟨nm, q, N, bs, bm, sn, sub, ab, col, dd, k0, k1, k2, k3, k5, hC, hbm⟩ := S.cls
  obtain ⟨fI, _, _, _, _, _, _, _, _, _, _, _, _, _, _, _, _, _, iC, tI, _⟩ := id S.ini
  refine wpAny_Call_Name_kw (ld_glob I hg hm ?_ hdb)
  refine PySem.W.callWith_K (h₀ := X.base) I.ok.mod.kin S.kC ?_ hs (by rfl)
  rw [hs]
  show wpAny _ _ (spliced ((false, eval e X.env) :: backTo pos (starEach [] X.env))) _ _ s
  refine Calls.spliced_cons (thn (he.run pins s σ H _ I h) fun u s1 hh => Calls.spliced_nil ?_)
  obtain ⟨v, H1, I1, r1, q1⟩ := hh
  refine ⟨I1.kIn, ?_⟩
  show wpAny _ _ (call (.ref C) [u]) _ _ _
  obtain ⟨hp, g, dr, tk, os⟩ := s1
  have kk : ∀ b o, hp.get? b = some o → ((hp.push (PySem.W.kdv_tup [u])).push (HandSPX.excO C hp.objs.size)).get? b = some o := fun b o e => Heap.get?_push_of_some _ (Heap.get?_push_of_some _ e)
  have hget : ((hp.push (PySem.W.kdv_tup [u])).push (HandSPX.excO C hp.objs.size)).get? (hp.objs.size + 1) = some (HandSPX.excO C hp.objs.size) := by heap_get
  have hsz : hp.objs.size ≤ hp.objs.size + 1 := Nat.le_succ _
  have hn : H1 (hp.objs.size + 1) = none := I1.hok.fresh hsz
  have hKe : X.K.lookup (hp.objs.size + 1) = none := by
    cases z : X.K.lookup (hp.objs.size + 1) with
    | none => rfl
    | some o =>
      have z1 : hp.objs.size + 1 < hp.objs.size := Heap.lt_size (I1.kIn _ _ z)
      exact absurd z1 (Nat.not_lt_of_le hsz)
  obtain ⟨mb, nsB, bb⟩ := I1.ok.mod.blt
  have toS : ∀ b o, X.base.get? b = some o → hp.get? b = some o := fun b o e => (I1.bk b o e)
  refine wpAny_call (HandSPX.call_own F.excBase_ValueError (fun Y => HandSPX.refsVE_contains Y bm hbm) (I1.kIn _ _ hC) (PySem.W.looks_findIn I1.kIn iC) (fun self => PySem.W.bind_fn I1.kIn self tI) (by rw [sizeLine_eq]; simp)
    (init_run S (fun b o z => kk b o (I1.kIn b o z)) ((I1.ok.mod.glob.keeps toS).keeps kk) ((nsB.keeps toS).keeps kk) bb ((I1.ok.mod.nolimit.keeps toS).keeps kk) (hr.make C [u] []).depth hget hKe iC fun h' t' fin => ⟨rfl, ?_⟩))
  obtain ⟨k1', t1, dx, he', hdx, ndx, hns⟩ := fin
  obtain ⟨G, g1', g2'⟩ := restrict h' fun b => decide (b ≠ hp.objs.size + 1)
  have gk : ∀ b, b ≠ hp.objs.size + 1 → G.get? b = h'.get? b := fun b hb => g1' b (decide_eq_true hb)
  have ge : G.get? (hp.objs.size + 1) = none := g2' _ (by simp)
  have ne : ∀ {b : Addr} {o : Obj}, hp.get? b = some o → b ≠ hp.objs.size + 1 := fun {b o} z y => by
    have z1 : b < hp.objs.size := Heap.lt_size z
    rw [y] at z1
    exact absurd z1 (Nat.not_lt_of_le hsz)
  have hdx2 : hp.objs.size ≤ dx := Nat.le_trans (by simp [Heap.push]; omega) hdx
  have J := I1.laid (t' := t') (a := dx) (o := .xd [(f, v)]) (h' := G) (fun b o z => (gk b (ne z)).trans (k1' b o (ne z) (kk b o z))) hdx2 ⟨_, hns.at fun o y => (gk dx ndx).trans y, fun y => by
    rw [lookup_put]
    by_cases hy : y = f
    · rw [if_pos hy, if_pos hy]; exact r1
    · rw [if_neg hy, if_neg hy]; exact True.intro⟩
  refine ⟨hp.objs.size + 1, excD C t1 dx, _, ⟨G, g, dr, t', os⟩, _, .ref C, some dx, rfl, J, fun b o z => ?_, ge, he', ⟨rfl, rfl⟩, rfl, rfl, ?_, rfl, I1.bare, raises_own S.exC S.tyC, q1 dx (I1.hok.fresh hdx2)⟩
  · by_cases hb : b = hp.objs.size + 1
    · rw [hb, ge] at z; cases z
    · exact (gk b hb).symm.trans z
  · rw [upd_ne (Ne.symm ndx)]; exact hn
end
end Mn

namespace Mn
open PySem L2 PySem.Spec PyProof.Rows
section
variable {X : Cx}
/-- flags.count(True) -/
def rCntB (K : PySem.W.Frag) : V → List V → Hp → VK → Prop := fun x xs H Q => ∃ (p : Addr) (bs : List Bool), x = .ref p ∧ xs = [.bl true] ∧ SqL K H p (bs.map V.bl) ∧ Q (.int (bs.count true : Nat)) H
theorem count_bl {bs : List Bool} : ∀ {vs : List Value}, Vals (bs.map V.bl) vs → vs.countP (isBoolOf true) = bs.count true ∧ ∀ y ∈ vs, ∃ b, y = Value.bool b := by
  induction bs with
  | nil => intro vs r; cases r; exact ⟨rfl, fun y hy => by cases hy⟩
  | cons b bs ih =>
    intro vs r
    cases r with
    | cons h t =>
      rename_i v vs
      obtain rfl : v = Value.bool b := h
      obtain ⟨h1, h2⟩ := ih t
      refine ⟨?_, fun y hy => ?_⟩
      · rw [List.countP_cons, List.count_cons, h1]
        cases b <;> rfl
      · rcases List.mem_cons.mp hy with z | z
        · exact ⟨b, z⟩
        · exact h2 y z
theorem mt_lcountB : MtR X "list.count" (rCntB X.K) := by
  intro pins s σ H x xs v us Q I rx rxs h
  obtain ⟨p, bs, rfl, rfl, hs, q⟩ := h
  cases rx
  obtain ⟨u, rfl, ru⟩ := rxs.one
  obtain rfl : u = Value.bool true := ru
  obtain ⟨its, rv, ⟨⟨cls, dd, data, sl⟩, n, ho, hc, hdn, hd⟩, hlen⟩ := I.list hs
  simp only at hc hd
  subst hc hd
  obtain ⟨c1, c2⟩ := count_bl rv
  refine call_meets PySem.F.slot_list_count ⟨_, ho, rfl⟩ PySem.F.entry_list_count (PySem.F.args_list_count_2 _ _)
    (SeqAt.list_countAt p its.toArray n dd sl (.bool true) (isBoolOf true)) ⟨ho, fun y hy => ?_, ?_⟩
  · obtain ⟨b, rfl⟩ := c2 y (by simpa using hy)
    exact SeqAt.EqAt.bool_bool b true
  · rw [show its.toArray.toList = its from rfl, c1]
    exact ⟨.int (bs.count true : Nat), H, I.tok _, ⟨_, rfl⟩, q⟩
/-- isinstance(e, c), e the exception that the suite holds: with a dict or without -/
theorem call_isEx {a D : Addr} {d : Option Addr} {oe : Obj} {pn : List (Addr × Obj)} (C : ExcC X.K D) (hz : Zc (.ref D) d oe) (hf : ∃ vs, oe.data = .fields vs) :
    CallR (X.suite a ((a, oe) :: pn)) (.builtin "isinstance") (fun xs H Q => ∃ (c : V) (cv : Value) (b : Bool), xs = [.ref a, c] ∧ (∀ u, RelV c u → u = cv) ∧ PySem.W.kitOne X.K (.ref D) cv = some b ∧ (∀ dx, d = some dx → ∃ fs, H dx = some (.xd fs)) ∧ Q (.bl b) H) := by
  intro pins s σ H xs us Q I r h
  obtain ⟨c, cv, b, rfl, hcv, e, hd, q⟩ := h
  cases r with
  | cons rx rr =>
    cases rr with
    | cons rt rr =>
      cases rr
      cases rx
      have ec := hcv _ rt
      subst ec
      obtain ⟨hget, _⟩ := I.pin (a, oe) (List.mem_append.mpr (.inl List.mem_cons_self))
      obtain ⟨vs, hv⟩ := hf
      obtain ⟨od, J⟩ : ∃ od, PySem.W.InstAt s.heap a oe D od := by
        obtain ⟨oc, od, oda, osl⟩ := oe
        obtain ⟨h1, h2⟩ := hz
        dsimp only at h1 h2 hv
        subst h1 h2 hv
        cases od with
        | none => exact ⟨none, hget, rfl, rfl, trivial⟩
        | some dx =>
          obtain ⟨fs, hfs⟩ := hd dx rfl
          have hx : ObjOk X.prog X.w H s.heap dx (.xd fs) := I.hok dx _ hfs
          obtain ⟨mA, hns, _⟩ := hx
          obtain ⟨o, _, _, ho, _⟩ := hns
          exact ⟨some o, hget, rfl, rfl, ho⟩
      have hcl : (PySem.W.clsIn X.K D).isSome = true := by
        obtain ⟨cd, hc, _⟩ := PySem.W.any_some C.hd
        rw [hc]; rfl
      exact PySem.W.kia_one (PySem.W.kitx_exc hcl C.hg C.hk C.hs C.ha C.hn C.ht C.hm) I.kIn J e (fun z => nomatch z) fun tk => ⟨.bl b, H, I.kept (t' := tk) fun _ _ z => z, rfl, q⟩
end
end Mn

namespace Mn
open PySem L2 PySem.Spec PyProof.Rows
/-! ### shapes of the hearing def -/
/-- the hearing def: its names (the call, the error, its flags, the place, the word), the fields and where each ends, the classes with their numbers and words, the class over all -/
structure HdS where
  a : Str
  e : Str
  fl : Str
  at_ : Str
  wd : Str
  f1 : Str
  f2 : Str
  g : Nat
  i : Nat
  up : Str
  cs : List (Str × Nat × Str)
def HdS.tb (H : HdS) : List (Nat × Str × Bool) := (H.cs.zipIdx).map fun q => (q.1.2.1, q.1.2.2, decide (q.2 < H.i))
def pIs : Expr → Option (Str × Str × Str)
  | .Call (.Name f _) [.Name e _, .Name c _] [] _ => some (f, e, c)
  | _ => none
theorem pIs_eq {x : Expr} {f e c : Str} (h : pIs x = some (f, e, c)) : ∃ p1 p2 p3 p4, x = .Call (.Name f p1) [.Name e p2, .Name c p3] [] p4 := by
  unfold pIs at h
  split at h
  · cases h; exact ⟨_, _, _, _, rfl⟩
  · cases h
/-- fl = [y] -/
def pOne : Stmt → Option (Str × Expr)
  | .Assign [.Name fl _] (.List [y] _) _ => some (fl, y)
  | _ => none
theorem pOne_eq {x : Stmt} {fl : Str} {y : Expr} (h : pOne x = some (fl, y)) : ∃ p1 p2 p3, x = .Assign [.Name fl p1] (.List [y] p2) p3 := by
  unfold pOne at h
  split at h
  · cases h; exact ⟨_, _, _, rfl⟩
  · cases h
/-- fl.append(y) -/
def pApp : Stmt → Option (Str × Str × Expr × Bool)
  | .Expr (.Call (.Attribute (.Name fl _) m ap) [y] [] cp) _ => some (fl, m, y, ap.endLine == cp.line)
  | _ => none
theorem pApp_eq {x : Stmt} {fl m : Str} {y : Expr} {b : Bool} (h : pApp x = some (fl, m, y, b)) : ∃ p1 ap cp p4, x = .Expr (.Call (.Attribute (.Name fl p1) m ap) [y] [] cp) p4 ∧ (ap.endLine == cp.line) = b := by
  unfold pApp at h
  split at h
  · cases h; exact ⟨_, _, _, _, rfl, rfl⟩
  · cases h
/-- if fl.count(True) != 1: return ['another'] -/
def pIf : Stmt → Option (Str × Str × Int × Bool)
  | .If (.Compare (.Call (.Attribute (.Name fl _) m ap) [.Constant (.bool true) _ _] [] cp) [.NotEq] [.Constant (.int n) _ _] _) [.Return (some (.List [.Constant (.str _) _ _] _)) _] [] _ => some (fl, m, n, ap.endLine == cp.line)
  | _ => none
theorem pIf_eq {x : Stmt} {fl m : Str} {n : Int} {b : Bool} (h : pIf x = some (fl, m, n, b)) : ∃ p1 ap j2 p2 cp j3 p3 p4 z j5 p5 p6 p7 p8, x = .If (.Compare (.Call (.Attribute (.Name fl p1) m ap) [.Constant (.bool true) j2 p2] [] cp) [.NotEq] [.Constant (.int n) j3 p3] p4) [.Return (some (.List [.Constant (.str z) j5 p5] p6)) p7] [] p8 ∧ (ap.endLine == cp.line) = b := by
  unfold pIf at h
  split at h
  · cases h; exact ⟨_, _, _, _, _, _, _, _, _, _, _, _, _, _, rfl, rfl⟩
  · cases h
/-- at = fl.index(True) -/
def pAt : Stmt → Option (Str × Str × Str × Bool)
  | .Assign [.Name y _] (.Call (.Attribute (.Name fl _) m ap) [.Constant (.bool true) _ _] [] cp) _ => some (y, fl, m, ap.endLine == cp.line)
  | _ => none
theorem pAt_eq {x : Stmt} {y fl m : Str} {b : Bool} (h : pAt x = some (y, fl, m, b)) : ∃ p0 p1 ap j2 p2 cp p3, x = .Assign [.Name y p0] (.Call (.Attribute (.Name fl p1) m ap) [.Constant (.bool true) j2 p2] [] cp) p3 ∧ (ap.endLine == cp.line) = b := by
  unfold pAt at h
  split at h
  · cases h; exact ⟨_, _, _, _, _, _, _, rfl, rfl⟩
  · cases h
def pStr : Expr → Option Str
  | .Constant (.str x) _ _ => some x
  | _ => none
theorem pStr_eq {x : Expr} {y : Str} (h : pStr x = some y) : ∃ j p, x = .Constant (.str y) j p := by
  unfold pStr at h
  split at h
  · cases h; exact ⟨_, _, rfl⟩
  · cases h
def pStrs : List Expr → Option (List Str)
  | [] => some []
  | e :: r => (pStr e).bind fun x => (pStrs r).map (x :: ·)
/-- word = [..][at] -/
def pWd : Stmt → Option (Str × List Expr × Str)
  | .Assign [.Name w _] (.Subscript (.List es _) (.Name y _) _) _ => some (w, es, y)
  | _ => none
theorem pWd_eq {x : Stmt} {w y : Str} {es : List Expr} (h : pWd x = some (w, es, y)) : ∃ p0 p1 p2 p3 p4, x = .Assign [.Name w p0] (.Subscript (.List es p1) (.Name y p2) p3) p4 := by
  unfold pWd at h
  split at h
  · cases h; exact ⟨_, _, _, _, _, rfl⟩
  · cases h
/-- return [word] + ([e.f1] if at < g else [e.f2] if at < i else []) -/
def pRet : Stmt → Option ((Str × Str × Int × Str) × Str × Str × Int × Str × Str)
  | .Return (some (.BinOp (.List [.Name w _] _) .Add (.IfExp (.Compare (.Name y _) [.Lt] [.Constant (.int g) _ _] _) (.List [.Attribute (.Name e _) f1 _] _) (.IfExp (.Compare (.Name y2 _) [.Lt] [.Constant (.int i) _ _] _) (.List [.Attribute (.Name e2 _) f2 _] _) (.List [] _) _) _) _)) _ => some ((w, y, g, e), f1, y2, i, e2, f2)
  | _ => none
theorem pRet_eq {x : Stmt} {w y e f1 y2 e2 f2 : Str} {g i : Int} (h : pRet x = some ((w, y, g, e), f1, y2, i, e2, f2)) : ∃ p1 p2 p3 j4 p4 p5 p6 p7 p8 p9 j10 p10 p11 p12 p13 p14 p15 p16 p17 p18 p19, x = .Return (some (.BinOp (.List [.Name w p1] p2) .Add (.IfExp (.Compare (.Name y p3) [.Lt] [.Constant (.int g) j4 p4] p5) (.List [.Attribute (.Name e p6) f1 p7] p8) (.IfExp (.Compare (.Name y2 p9) [.Lt] [.Constant (.int i) j10 p10] p11) (.List [.Attribute (.Name e2 p12) f2 p13] p14) (.List [] p15) p16) p17) p18)) p19 := by
  unfold pRet at h
  split at h
  · cases h; exact ⟨_, _, _, _, _, _, _, _, _, _, _, _, _, _, _, _, _, _, _, _, _, rfl⟩
  · cases h
def chkApps (H : HdS) : List Str → List Stmt → (List Stmt → Bool) → Bool
  | [], sts, k => k sts
  | c :: cs, st :: sts, k => (match pApp st with
    | some (fl, m, y, b) => decide (fl = H.fl) && decide (m = "append") && b && decide (pIs y = some (("isinstance" : Str), H.e, c))
    | none => false) && chkApps H cs sts k
  | _ :: _, [], _ => false
def chkEnd (H : HdS) : List Stmt → Bool
  | [s1, s2, s3, s4] => decide (pIf s1 = some (H.fl, ("count" : Str), (1 : Int), true)) && decide (pAt s2 = some (H.at_, H.fl, ("index" : Str), true)) && (match pWd s3 with
    | some (w, es, y) => decide (w = H.wd) && decide (y = H.at_) && decide (pStrs es = some (H.cs.map fun q => q.2.2)) && decide (es.length ≤ 1000)
    | none => false) && decide (pRet s4 = some ((H.wd, H.at_, (H.g : Int), H.e), H.f1, H.at_, (H.i : Int), H.e, H.f2))
  | _ => false
def chkSuite (H : HdS) : List Stmt → Bool
  | st :: sts => (match H.cs with
    | c :: cs => (match pOne st with
      | some (fl, y) => decide (fl = H.fl) && decide (pIs y = some (("isinstance" : Str), H.e, c.1))
      | none => false) && chkApps H (cs.map (·.1)) sts (chkEnd H)
    | [] => false)
  | [] => false
end Mn

namespace Mn
open PySem L2 PySem.Spec PyProof.Rows
structure HxOk (X : Cx) (H : HdS) (ad : Str → Addr) (ie ifl iat iw : Nat) : Prop where
  nd : X.N.Nodup
  e : X.N[ie]? = some H.e
  fl : X.N[ifl]? = some H.fl
  at_ : X.N[iat]? = some H.at_
  wd : X.N[iw]? = some H.wd
  le : X.env.scope.names.lookup H.e = some .local
  lfl : X.env.scope.names.lookup H.fl = some .local
  lat : X.env.scope.names.lookup H.at_ = some .local
  lwd : X.env.scope.names.lookup H.wd = some .local
  de : (H.e == ("__debug__" : Str)) = false ∧ (H.e == ("__classdict__" : Str)) = false
  dfl : (H.fl == ("__debug__" : Str)) = false ∧ (H.fl == ("__classdict__" : Str)) = false
  dat : (H.at_ == ("__debug__" : Str)) = false ∧ (H.at_ == ("__classdict__" : Str)) = false
  dwd : (H.wd == ("__debug__" : Str)) = false ∧ (H.wd == ("__classdict__" : Str)) = false
  gi : Gl X "isinstance"
  mi : X.mg "isinstance" = none
  cl : ∀ c ∈ H.cs, Gl X c.1 ∧ X.mg c.1 = some (.ref (ad c.1)) ∧ (c.1 == ("__debug__" : Str)) = false
  n1 : ie ≠ ifl ∧ ie ≠ iat ∧ ie ≠ iw
  n2 : ifl ≠ iat ∧ ifl ≠ iw ∧ iat ≠ iw
structure HeOk (K : PySem.W.Frag) (H : HdS) (ad : Str → Addr) (D : Addr) (j : Nat) : Prop where
  ex : ExcC K D
  xf : XfC K D
  no : PySem.W.findIn K (.ref D) H.f1 = some none ∧ PySem.W.findIn K (.ref D) H.f2 = some none
  kit : ∀ m c, H.cs[m]? = some c → PySem.W.kitOne K (.ref D) (.ref (ad c.1)) = some (decide (m = j))
section
variable {X : Cx} {H : HdS} {ad : Str → Addr} {ie ifl iat iw : Nat} {a D : Addr} {d : Option Addr} {oe : Obj} {pn : List (Addr × Obj)} {j : Nat} {fa : FaT} {W : Wd} {H0 : Hp} {h : Hq} {v : V} {wj : Str} {cj : Str} {nj : Nat}
/-- what the error keeps -/
def HeD (H : HdS) (j : Nat) (d : Option Addr) (v : V) (H0 : Hp) : Prop := (j < H.i → ∃ dx, d = some dx ∧ H0 dx = some (.xd [((if j < H.g then H.f1 else H.f2), v)])) ∧ (¬ j < H.i → d = none)
def hres (H : HdS) (j : Nat) (wj : Str) (v : V) : List V := if j < H.i then [.str wj, v] else [.str wj]
def HFin (H : HdS) (fa : FaT) (W : Wd) (H0 : Hp) (h : Hq) (res : List V) (D : Ends) : Prop := ∀ p H', Ext W H0 W H' → Hok fa W H' h → H0 p = none → W.F p = none → p ∉ W.C → H' p = some (.lst res) → D.rt (.ref p) H'
def HS (fa : FaT) (W : Wd) (H0 : Hp) (h : Hq) (ie ifl : Nat) (a : Addr) (n : Nat) (bs : List Bool) (σ : L2.St) (Hh : Hp) : Prop := ∃ p, Ext W H0 W Hh ∧ Hok fa W Hh h ∧ H0 p = none ∧ W.F p = none ∧ p ∉ W.C ∧ Hh p = some (.lst (bs.map V.bl)) ∧ σ[ie]? = some (some (.ref a)) ∧ σ[ifl]? = some (some (.ref p)) ∧ σ.length = n
theorem Hok.notCx (k : Hok fa W H0 h) {p : Addr} {o : HO} (e : H0 p = some o) (no : ∀ vs, o ≠ .lst vs) : p ∉ W.C := fun z => by
  obtain ⟨i, hi, ei⟩ := List.getElem_of_mem z
  have hl : i < h.length := by rw [← k.len]; exact hi
  cases hh : h[i] with
  | lst ds =>
    obtain ⟨vs, e1, _⟩ := k.cell i p ds (by rw [List.getElem?_eq_getElem hi, ei]) (by rw [List.getElem?_eq_getElem hl, hh])
    rw [e] at e1
    exact no vs (Option.some.inj e1)
theorem xd_keep (k : Hok fa W H0 h) {Hh : Hp} (e : Ext W H0 W Hh) {dx : Addr} {fs : List (Str × V)} (hx : H0 dx = some (.xd fs)) : Hh dx = some (.xd fs) := e.k _ _ hx (k.notCx hx fun vs z => by cases z) fun ps z => by cases z
/-- isinstance(e, c) in the suite -/
theorem pe_is (O : HxOk X H ad ie ifl iat iw) (B : HeOk X.K H ad D j) (hz : Zc (.ref D) d oe) (hf : ∃ vs, oe.data = .fields vs) {m : Nat} {c : Str × Nat × Str} (hc : H.cs[m]? = some c) {y : Expr} (hy : pIs y = some (("isinstance" : Str), H.e, c.1)) :
    PE (X.suite a ((a, oe) :: pn)) y (fun σ Hh Q => σ[ie]? = some (some (.ref a)) ∧ (∀ dx, d = some dx → ∃ fs, Hh dx = some (.xd fs)) ∧ Q (.bl (decide (m = j))) Hh) := by
  obtain ⟨p1, p2, p3, p4, rfl⟩ := pIs_eq hy
  obtain ⟨c1, c2, c3⟩ := O.cl c (List.mem_of_getElem? hc)
  refine weakE (pe_callB (call_isEx B.ex hz hf) (show Gl (X.suite a ((a, oe) :: pn)) _ from O.gi) (show (X.suite a ((a, oe) :: pn)).mg _ = none from O.mi) (by rfl)
    (pa_cons (pe_var (show (X.suite a ((a, oe) :: pn)).N[ie]? = _ from O.e) (.inl O.le) O.de.1 O.de.2) (pa_cons (pe_glob (v := .ref (ad c.1)) (u := .ref (ad c.1)) (show Gl (X.suite a ((a, oe) :: pn)) _ from c1) (show (X.suite a ((a, oe) :: pn)).mg _ = _ from c2) rfl c3) pa_nil))) fun σ Hh Q q => ?_
  obtain ⟨q1, q2, q3⟩ := q
  exact ⟨.ref a, q1, .ref (ad c.1), .ref (ad c.1), _, rfl, fun u r => r, B.kit m c hc, q2, q3⟩
theorem flat_bl {bs : List Bool} : (bs.map V.bl).all flatV = true := by
  rw [List.all_map]; exact List.all_eq_true.mpr fun b _ => rfl
/-- the flags of the classes -/
def flags (H : HdS) (j : Nat) : List Bool := (List.range H.cs.length).map fun m => decide (m = j)
theorem pa_strs {Y : Cx} : ∀ {es : List Expr} {ws : List Str}, pStrs es = some ws → PA Y es (fun _ Hh Q => Q (ws.map V.str) Hh)
  | [], ws, e => by cases e; exact pa_nil
  | x :: es, ws, e => by
    unfold pStrs at e
    rw [Option.bind_eq_some_iff] at e
    obtain ⟨y, e1, e2⟩ := e
    rw [Option.map_eq_some_iff] at e2
    obtain ⟨ws', e3, rfl⟩ := e2
    obtain ⟨j, p, rfl⟩ := pStr_eq e1
    have := pa_cons (e := .Constant (.str y) j p) (pe_str (X := Y)) (pa_strs (Y := Y) e3)
    exact ⟨fun pos pins s σ Hh Q I q => this.run pos pins s σ Hh Q I q⟩
theorem count_flags (hj : j < H.cs.length) : (flags H j).count true = 1 := by
  unfold flags
  rw [List.count_eq_countP, List.countP_map]
  have : ∀ n, j < n → (List.range n).countP ((fun x => x == true) ∘ fun m => decide (m = j)) = 1 := by
    intro n
    induction n with
    | zero => intro h; omega
    | succ n ih =>
      intro hn
      rw [List.range_succ, List.countP_append]
      by_cases h : j = n
      · subst h
        have z : (List.range j).countP ((fun x => x == true) ∘ fun m => decide (m = j)) = 0 := by
          rw [List.countP_eq_zero]
          intro m hm
          have := List.mem_range.mp hm
          simp; omega
        rw [z]; simp
      · rw [ih (by omega)]
        simp; omega
  exact this _ hj
theorem HeD.fs (k : Hok fa W H0 h) {Hh : Hp} (e : Ext W H0 W Hh) (hd : HeD H j d v H0) : ∀ dx, d = some dx → ∃ fs, Hh dx = some (.xd fs) := fun dx z => by
  by_cases hj : j < H.i
  · obtain ⟨dx', z', hx⟩ := hd.1 hj
    rw [z] at z'; cases z'
    exact ⟨_, xd_keep k e hx⟩
  · rw [hd.2 hj] at z; cases z
theorem app_run {F : Ends → Prop} (O : HxOk X H ad ie ifl iat iw) (B : HeOk X.K H ad D j) (hz : Zc (.ref D) d oe) (hf : ∃ vs, oe.data = .fields vs) (k0 : Hok fa W H0 h) (hd : HeD H j d v H0) (few : H.cs.length ≤ 1000) {n m : Nat} {c : Str × Nat × Str} (hc : H.cs[m]? = some c) {st : Stmt} {fl mm : Str} {y : Expr} (hs : pApp st = some (fl, mm, y, true)) (e1 : fl = H.fl) (e2 : mm = "append") (hy : pIs y = some (("isinstance" : Str), H.e, c.1))
    {rest : List Stmt} {T : TS} (hr : PSs (X.suite a ((a, oe) :: pn)) rest (fun Dd σ Hh => HS fa W H0 h ie ifl a n ((List.range (m + 1)).map fun q => decide (q = j)) σ Hh ∧ F Dd)) :
    PSs (X.suite a ((a, oe) :: pn)) (st :: rest) (fun Dd σ Hh => HS fa W H0 h ie ifl a n ((List.range m).map fun q => decide (q = j)) σ Hh ∧ F Dd) := by
  subst e1 e2
  obtain ⟨p1, ap, cp, p4, rfl, hl⟩ := pApp_eq hs
  have hi := pe_is (a := a) (pn := pn) (d := d) O B hz hf hc hy
  obtain ⟨i1, i2, i3, i4, rfl⟩ := pIs_eq hy
  have s1 := ps_expr (pos := p4) (pe_bm (cpos := cp) (apos := ap) PySem.F.plainAttrs_list PySem.F.slot_list_append PySem.F.type_list_append mt_append (pe_var (pos := p1) (show (X.suite a ((a, oe) :: pn)).N[ifl]? = _ from O.fl) (.inl O.lfl) O.dfl.1 O.dfl.2) (pa_cons hi pa_nil rfl) rfl rfl hl rfl rfl) rfl
  have s2 := pss_cons s1 hr
  refine ⟨fun pins s σ Hh Dd I q => s2.run pins s σ Hh Dd I ?_⟩
  obtain ⟨⟨p, q1, q2, q3, q4, q5, q6, q7, q8, q9⟩, hF'⟩ := q
  obtain ⟨x1, x2⟩ := own_upd (o := .lst (((List.range (m + 1)).map fun q => decide (q = j)).map V.bl)) q1 q2 q3 q4 q5 q6 noT_lst
  refine ⟨.ref p, q8, .inl ⟨rfl, _, .inl (.of q6)⟩, q7, hd.fs k0 q1, p, _, _, rfl, rfl, q6, ?_, ?_⟩
  · have : m < H.cs.length := (List.getElem?_eq_some_iff.mp hc).1
    rw [List.length_map, List.length_map, List.length_range, sizeLine_eq]; omega
  · have e3 : (((List.range m).map fun q => decide (q = j)).map V.bl) ++ [V.bl (decide (m = j))] = (((List.range (m + 1)).map fun q => decide (q = j)).map V.bl) := by
      rw [List.range_succ, List.map_append, List.map_append]; rfl
    refine ⟨?_, hF'⟩
    rw [e3]
    exact ⟨p, x1, x2, q3, q4, q5, upd_same, q7, q8, q9⟩
end
end Mn

namespace Mn
open PySem L2 PySem.Spec PyProof.Rows
section
variable {X : Cx} {H : HdS} {ad : Str → Addr} {ie ifl iat iw : Nat} {a D : Addr} {d : Option Addr} {oe : Obj} {pn : List (Addr × Obj)} {j : Nat} {fa : FaT} {W : Wd} {H0 : Hp} {h : Hq} {v : V} {wj : Str} {cj : Str} {nj : Nat}
theorem flags_at (hj : j < H.cs.length) : ((flags H j).map V.bl)[j]? = some (.bl true) := by
  unfold flags
  rw [List.getElem?_map, List.getElem?_map, List.getElem?_range hj]
  simp
theorem flags_lt {m : Nat} {z : V} (hm : m < j) (e : ((flags H j).map V.bl)[m]? = some z) : eqV z (.bl true) = false := by
  unfold flags at e
  rw [List.getElem?_map, List.getElem?_map] at e
  have hl : m < H.cs.length := by
    by_cases hl : m < H.cs.length
    · exact hl
    · rw [List.getElem?_eq_none (by simpa using hl)] at e; cases e
  rw [List.getElem?_range hl] at e
  simp only [Option.map_some, Option.some.injEq] at e
  subst e
  have : decide (m = j) = false := by simp; omega
  rw [this]
  rfl
theorem len_of {α : Type} {l : List α} {i : Nat} {x : α} (h : l[i]? = some x) : i < l.length := (List.getElem?_eq_some_iff.mp h).1
theorem end_run (O : HxOk X H ad ie ifl iat iw) (B : HeOk X.K H ad D j) (hz : Zc (.ref D) d oe) (hf : ∃ vs, oe.data = .fields vs) (k0 : Hok fa W H0 h) (hd : HeD H j d v H0) (few : H.cs.length ≤ 1000) (hgi : H.g ≤ H.i) (hj : H.cs[j]? = some (cj, nj, wj)) {n : Nat} (hn : iat < n ∧ iw < n) {sts : List Stmt} (hc : chkEnd H sts = true) :
    PSs (X.suite a ((a, oe) :: pn)) sts (fun Dd σ Hh => HS fa W H0 h ie ifl a n (flags H j) σ Hh ∧ HFin H fa W H0 h (hres H j wj v) Dd) := by
  have hjl := len_of hj
  match sts, hc with
  | [s1, s2, s3, s4], hc =>
    unfold chkEnd at hc
    simp only [Bool.and_eq_true, decide_eq_true_eq] at hc
    obtain ⟨⟨⟨c1, c2⟩, c3⟩, c4⟩ := hc
    obtain ⟨a1, a2, a3, a4, a5, a6, a7, a8, a9, a10, a11, a12, a13, a14, rfl, l1⟩ := pIf_eq c1
    obtain ⟨b1, b2, b3, b4, b5, b6, b7, rfl, l2⟩ := pAt_eq c2
    cases hw : pWd s3 with
    | none => rw [hw] at c3; cases c3
    | some q =>
      obtain ⟨w, es, y⟩ := q
      rw [hw] at c3
      simp only [Bool.and_eq_true, decide_eq_true_eq] at c3
      obtain ⟨⟨⟨rfl, rfl⟩, c3⟩, c5⟩ := c3
      obtain ⟨d1, d2, d3, d4, d5, rfl⟩ := pWd_eq hw
      obtain ⟨e1, e2, e3, e4, e5, e6, e7, e8, e9, e10, e11, e12, e13, e14, e15, e16, e17, e18, e19, e20, e21, rfl⟩ := pRet_eq c4
      let Y := X.suite a ((a, oe) :: pn)
      have vfl : ∀ p, PE Y (.Name H.fl p) (tVar ifl) := fun p => pe_var (show Y.N[ifl]? = _ from O.fl) (.inl O.lfl) O.dfl.1 O.dfl.2
      have vat : ∀ p, PE Y (.Name H.at_ p) (tVar iat) := fun p => pe_var (show Y.N[iat]? = _ from O.at_) (.inl O.lat) O.dat.1 O.dat.2
      have vwd : ∀ p, PE Y (.Name H.wd p) (tVar iw) := fun p => pe_var (show Y.N[iw]? = _ from O.wd) (.inl O.lwd) O.dwd.1 O.dwd.2
      have ve : ∀ p, PE Y (.Name H.e p) (tVar ie) := fun p => pe_var (show Y.N[ie]? = _ from O.e) (.inl O.le) O.de.1 O.de.2
      have s1 := ps_if (X := Y) (pos := a14) (pt_cmpR (pos := a8) op_ne (pe_bm (cpos := a5) (apos := a2) PySem.F.plainAttrs_list PySem.F.slot_list_count PySem.F.type_list_count mt_lcountB (vfl a1) (pa_cons (pe_bl (b := true) (j := a3) (pos := a4)) pa_nil rfl) rfl rfl l1 rfl rfl) (pe_int (i := 1) (j := a6) (pos := a7)) (by rfl))
        (pss_one (ps_ret (pos := a13) (pe_lst (pos := a12) (pa_cons (pe_str (x := a9) (j := a10) (pos := a11)) pa_nil rfl)))) pss_nil
      have s2 := ps_set (X := Y) (pos' := b1) (pos := b7) O.nd O.at_ (.inl O.lat) (pe_bm (cpos := b6) (apos := b3) PySem.F.plainAttrs_list PySem.F.slot_list_index PySem.F.type_list_index mt_index (vfl b2) (pa_cons (pe_bl (b := true) (j := b4) (pos := b5)) pa_nil rfl) rfl rfl l2 rfl rfl) rfl (.inr O.lat)
      have s3 := ps_set (X := Y) (pos' := d1) (pos := d5) O.nd O.wd (.inl O.lwd) (pe_ix (pos := d4) ix_list (pe_lst (pos := d2) (pa_strs c3)) (vat d3) (fun _ _ => rfl)) rfl (.inr O.lwd)
      have x1 := pe_xf (pos := e8) B.xf B.no.1 hz hf (ve e7) (by rfl)
      have x2 := pe_xf (pos := e15) B.xf B.no.2 hz hf (ve e14) (by rfl)
      have s4 := ps_ret (X := Y) (pos := e21) (pe_op (pos := e20) op_cat (pe_lst (pos := e2) (pa_cons (vwd e1) pa_nil rfl)) (pe_ifExp (pos := e19) (pt_cmpR (pos := e6) op_lt (vat e3) (pe_int (i := H.g) (j := e4) (pos := e5)) (by rfl)) (pe_lst (pos := e9) (pa_cons x1 pa_nil rfl)) (pe_ifExp (pos := e18) (pt_cmpR (pos := e13) op_lt (vat e10) (pe_int (i := H.i) (j := e11) (pos := e12)) (by rfl)) (pe_lst (pos := e16) (pa_cons x2 pa_nil rfl)) (pe_lst (pos := e17) pa_nil))))
      have all := pss_cons s1 (pss_cons s2 (pss_cons s3 (pss_one s4)))
      refine ⟨fun pins s σ Hh Dd I q => all.run pins s σ Hh Dd I ?_⟩
      obtain ⟨⟨p, q1, q2, q3, q4, q5, q6, q7, q8, q9⟩, hF⟩ := q
      have sql : SqL X.K Hh p ((flags H j).map V.bl) := .inl (.of q6)
      -- one flag only
      refine ⟨.ref p, q8, .inl ⟨rfl, _, sql⟩, p, flags H j, rfl, rfl, sql, rfl, false, ?_, ?_⟩
      · rw [count_flags hjl]; rfl
      show ite (false = true) _ _
      rw [if_neg Bool.false_ne_true]
      -- its place
      refine ⟨.ref p, q8, .inl ⟨rfl, _, sql⟩, p, _, .bl true, j, .bl true, rfl, rfl, sql, rfl, flat_bl, flags_at hjl, rfl, fun m z hm hz => flags_lt hm hz, ?_⟩
      -- its word
      have hlw : (((H.cs.map fun q => q.2.2).map V.str)).length ≤ sizeLine := by rw [List.length_map, List.length_map, sizeLine_eq]; omega
      refine ⟨hlw, fun p1 hp1 => ?_⟩
      obtain ⟨g1, g2, g3, g4⟩ := fresh_ext (o := .lst ((H.cs.map fun q => q.2.2).map V.str)) q2 hp1
      have E1 := q1.trans g1
      have hat : (σ.set iat (some (.int (j : Nat))))[iat]? = some (some (.int (j : Nat))) := List.getElem?_set_self (by rw [q9]; exact hn.1)
      have hwj : atI ((H.cs.map fun q => q.2.2).map V.str) ((j : Nat) : Int) = some (.str wj) := by
        unfold atI L2.ixN
        have hw : H.cs[j].2.2 = wj := by
          rw [List.getElem?_eq_getElem hjl] at hj
          rw [Option.some.inj hj]
        simp [hjl, hw]
      refine ⟨.int (j : Nat), hat, p1, _, (j : Nat), .str wj, rfl, rfl, .inl (.of upd_same), hwj, ?_⟩
      -- what is told
      refine ⟨.str wj, List.getElem?_set_self (by rw [List.length_set, q9]; exact hn.2), by rw [sizeLine_eq]; simp, fun l hl => ?_⟩
      obtain ⟨r1, r2, r3, r4⟩ := fresh_ext (o := .lst [V.str wj]) g2 hl
      have E2 := E1.trans r1
      have at2 : ((σ.set iat (some (.int (j : Nat)))).set iw (some (.str wj)))[iat]? = some (some (.int (j : Nat))) := by
        rw [List.getElem?_set_ne (Ne.symm O.n2.2.2)]; exact hat
      have e2 : ((σ.set iat (some (.int (j : Nat)))).set iw (some (.str wj)))[ie]? = some (some (.ref a)) := by
        rw [List.getElem?_set_ne (Ne.symm O.n1.2.2), List.getElem?_set_ne (Ne.symm O.n1.2.1)]; exact q7
      have fin : ∀ (zs : List V) (b : Addr), hres H j wj v = .str wj :: zs → zs.length ≤ 1 → (upd (upd Hh p1 (.lst ((H.cs.map fun q => q.2.2).map V.str))) l (.lst [V.str wj])) b = none →
          rCat (.ref l) (.ref b) (upd (upd (upd Hh p1 (.lst ((H.cs.map fun q => q.2.2).map V.str))) l (.lst [V.str wj])) b (.lst zs)) Dd.rt := fun zs b hres' hzs hb => by
        obtain ⟨t1, t2, t3, t4⟩ := fresh_ext (o := .lst zs) r2 hb
        have E3 := E2.trans t1
        have hlb : l ≠ b := fun z => by rw [← z, upd_same] at hb; cases hb
        refine ⟨l, b, [.str wj], zs, rfl, rfl, by rw [upd_ne hlb, upd_same], upd_same, by rw [sizeLine_eq]; simp; omega, fun p' hp' => ?_⟩
        obtain ⟨u1, u2, u3, u4⟩ := fresh_ext (o := .lst (.str wj :: zs)) t2 hp'
        have E4 := E3.trans u1
        refine hF p' _ E4 u2 ?_ u3 u4 (by rw [hres']; exact upd_same)
        cases z : H0 p' with
        | none => rfl
        | some u => exact absurd hp' (E3.t p' (by rw [z]; simp))
      refine ⟨.int (j : Nat), at2, (j : Nat), H.g, rfl, rfl, decide ((j : Int) < H.g), rfl, ?_⟩
      by_cases hg : j < H.g
      · show ite (decide ((j : Int) < H.g) = true) _ _
        rw [if_pos (by simpa using hg)]
        obtain ⟨dx, hdx, hxd⟩ := hd.1 (Nat.lt_of_lt_of_le hg hgi)
        rw [if_pos hg] at hxd
        refine ⟨.ref a, e2, rfl, rfl, dx, _, v, hdx, xd_keep k0 E2 hxd, by simp [List.lookup], by rw [sizeLine_eq]; simp, fun b hb => ?_⟩
        exact fin [v] b (by unfold hres; rw [if_pos (Nat.lt_of_lt_of_le hg hgi)]) (by simp) hb
      · show ite (decide ((j : Int) < H.g) = true) _ _
        rw [if_neg (by simpa using hg)]
        refine ⟨.int (j : Nat), at2, (j : Nat), H.i, rfl, rfl, decide ((j : Int) < H.i), rfl, ?_⟩
        by_cases hi : j < H.i
        · show ite (decide ((j : Int) < H.i) = true) _ _
          rw [if_pos (by simpa using hi)]
          obtain ⟨dx, hdx, hxd⟩ := hd.1 hi
          rw [if_neg hg] at hxd
          refine ⟨.ref a, e2, rfl, rfl, dx, _, v, hdx, xd_keep k0 E2 hxd, by simp [List.lookup], by rw [sizeLine_eq]; simp, fun b hb => ?_⟩
          exact fin [v] b (by unfold hres; rw [if_pos hi]) (by simp) hb
        · show ite (decide ((j : Int) < H.i) = true) _ _
          rw [if_neg (by simpa using hi)]
          refine ⟨by rw [sizeLine_eq]; simp, fun b hb => ?_⟩
          exact fin [] b (by unfold hres; rw [if_neg hi]) (by simp) hb
end
end Mn

namespace Mn
open PySem L2 PySem.Spec PyProof.Rows
section
variable {X : Cx} {H : HdS} {ad : Str → Addr} {ie ifl iat iw : Nat} {a D : Addr} {d : Option Addr} {oe : Obj} {pn : List (Addr × Obj)} {j : Nat} {fa : FaT} {W : Wd} {H0 : Hp} {h : Hq} {v : V} {wj : Str} {cj : Str} {nj : Nat}
theorem apps_run (O : HxOk X H ad ie ifl iat iw) (B : HeOk X.K H ad D j) (hz : Zc (.ref D) d oe) (hf : ∃ vs, oe.data = .fields vs) (k0 : Hok fa W H0 h) (hd : HeD H j d v H0) (few : H.cs.length ≤ 1000) (hgi : H.g ≤ H.i) (hj : H.cs[j]? = some (cj, nj, wj)) {n : Nat} (hn : iat < n ∧ iw < n) :
    ∀ (cs : List (Str × Nat × Str)) (m : Nat) (sts : List Stmt), H.cs.drop m = cs → m ≤ H.cs.length → chkApps H (cs.map (·.1)) sts (chkEnd H) = true →
      PSs (X.suite a ((a, oe) :: pn)) sts (fun Dd σ Hh => HS fa W H0 h ie ifl a n ((List.range m).map fun q => decide (q = j)) σ Hh ∧ HFin H fa W H0 h (hres H j wj v) Dd)
  | [], m, sts, hm, hl, hc => by
    have e : m = H.cs.length := by
      have := congrArg List.length hm
      rw [List.length_drop] at this
      simp at this
      omega
    subst e
    exact end_run O B hz hf k0 hd few hgi hj hn hc
  | c :: cs, m, sts, hm, hl, hc => by
    have hc0 : H.cs[m]? = some c := by
      have := congrArg (fun l => l[0]?) hm
      simpa using this
    match sts, hc with
    | st :: sts, hc =>
      have hc : ((match pApp st with | some (fl, mm, y, b) => decide (fl = H.fl) && decide (mm = "append") && b && decide (pIs y = some (("isinstance" : Str), H.e, c.1)) | none => false) && chkApps H (cs.map (·.1)) sts (chkEnd H)) = true := hc
      rw [Bool.and_eq_true] at hc
      obtain ⟨c1, c2⟩ := hc
      cases hp : pApp st with
      | none => rw [hp] at c1; cases c1
      | some q =>
        obtain ⟨fl, mm, y, b⟩ := q
        rw [hp] at c1
        simp only [Bool.and_eq_true, decide_eq_true_eq] at c1
        obtain ⟨⟨⟨q1, q2⟩, rfl⟩, q4⟩ := c1
        have hm' : H.cs.drop (m + 1) = cs := by
          rw [← List.drop_drop, hm]; rfl
        refine app_run (T := fun _ _ _ => True) O B hz hf k0 hd few hc0 hp q1 q2 q4 (apps_run O B hz hf k0 hd few hgi hj hn cs (m + 1) sts hm' (len_of hc0) c2)
theorem suite_run (O : HxOk X H ad ie ifl iat iw) (B : HeOk X.K H ad D j) (hz : Zc (.ref D) d oe) (hf : ∃ vs, oe.data = .fields vs) (k0 : Hok fa W H0 h) (hd : HeD H j d v H0) (few : H.cs.length ≤ 1000) (hgi : H.g ≤ H.i) (hj : H.cs[j]? = some (cj, nj, wj)) {sts : List Stmt} (hc : chkSuite H sts = true) :
    PSs (X.suite a ((a, oe) :: pn)) sts (fun Dd σ Hh => (∃ σ0 : List (Option V), σ = σ0.set ie (some (.ref a))) ∧ Hh = H0 ∧ HFin H fa W H0 h (hres H j wj v) Dd) := by
  match sts, hc with
  | st :: sts, hc =>
    unfold chkSuite at hc
    cases hcs : H.cs with
    | nil => rw [hcs] at hc; cases hc
    | cons c cs =>
      rw [hcs] at hc
      rw [Bool.and_eq_true] at hc
      obtain ⟨c1, c2⟩ := hc
      cases hp : pOne st with
      | none => rw [hp] at c1; cases c1
      | some q =>
        obtain ⟨fl, y⟩ := q
        rw [hp] at c1
        simp only [Bool.and_eq_true, decide_eq_true_eq] at c1
        obtain ⟨rfl, q4⟩ := c1
        obtain ⟨p1, p2, p3, rfl⟩ := pOne_eq hp
        have hc0 : H.cs[0]? = some c := by rw [hcs]; rfl
        have hi := pe_is (a := a) (pn := pn) (d := d) O B hz hf hc0 q4
        obtain ⟨i1, i2, i3, i4, rfl⟩ := pIs_eq q4
        have s1 := ps_set (X := X.suite a ((a, oe) :: pn)) (pos' := p1) (pos := p3) O.nd O.fl (.inl O.lfl) (pe_lst (pos := p2) (pa_cons hi pa_nil rfl)) rfl (.inr O.lfl)
        have hn : iat < X.N.length ∧ iw < X.N.length := ⟨len_of O.at_, len_of O.wd⟩
        have r1 := apps_run (a := a) (pn := pn) (oe := oe) O B hz hf k0 hd few hgi hj hn cs 1 sts (by rw [hcs]; rfl) (by rw [hcs]; simp) c2
        have all := pss_cons s1 r1
        refine ⟨fun pins s σ Hh Dd I q => all.run pins s σ Hh Dd I ?_⟩
        obtain ⟨⟨σ0, rfl⟩, rfl, hF⟩ := q
        have hl : (σ0.set ie (some (V.ref a))).length = X.N.length := I.len
        have hlt : ie < σ0.length := by rw [List.length_set] at hl; rw [hl]; exact len_of O.e
        have he : (σ0.set ie (some (V.ref a)))[ie]? = some (some (.ref a)) := List.getElem?_set_self hlt
        refine ⟨he, hd.fs k0 (.refl W Hh), by rw [sizeLine_eq]; simp, fun p hp => ?_⟩
        obtain ⟨g1, g2, g3, g4⟩ := fresh_ext (o := .lst [V.bl (decide (0 = j))]) k0 hp
        refine ⟨⟨p, g1, g2, hp, g3, g4, upd_same, ?_, List.getElem?_set_self (by rw [hl]; exact len_of O.fl), by rw [List.length_set]; exact hl⟩, hF⟩
        rw [List.getElem?_set_ne (Ne.symm O.n1.1)]
        exact he
end
/-! ### the hearing def's body -/
def pTry : List Stmt → Option (Str × Str × Str × List Stmt)
  | [.Try [.Expr (.Call (.Name a _) [] [] _) _] [.ExceptHandler (some (.Name up _)) (some e) suite _] [] [] _, .Return (some (.List [.Constant (.str lt) _ _] _)) _] => if lt = "let" then some (a, up, e, suite) else none
  | _ => none
theorem pTry_eq {b : List Stmt} {a up e : Str} {suite : List Stmt} (h : pTry b = some (a, up, e, suite)) : ∃ p1 p2 p3 p4 p5 p6 j7 p7 p8 p9, b = [.Try [.Expr (.Call (.Name a p1) [] [] p2) p3] [.ExceptHandler (some (.Name up p4)) (some e) suite p5] [] [] p6, .Return (some (.List [.Constant (.str "let") j7 p7] p8)) p9] := by
  unfold pTry at h
  split at h
  · split at h
    · rename_i hl
      cases h
      subst hl
      exact ⟨_, _, _, _, _, _, _, _, _, _, rfl⟩
    · cases h
  · cases h
def chkHear (H : HdS) (b : List Stmt) : Bool := match pTry b with
  | some (a, up, e, suite) => decide (a = H.a) && decide (up = H.up) && decide (e = H.e) && chkSuite H suite
  | none => false
/-- what the module says of the hearing def x -/
structure HearOk (c : Cn) (x : Str) (H : HdS) (g upA : Addr) (ad : Str → Addr) (pr : Arguments) (body : List Stmt) (sg : Scope) (fd : FuncData) (Ng : List Str) (ie ifl iat iw : Nat) : Prop where
  fn : FunD c.K x x pr body sg [] [] g fd
  gl : c.mg x = some (.ref g)
  chk : chkHear H body = true
  par : pr = parms pr.args ∧ pr.args.map (·.arg) = [H.a]
  scp : FnScope Ng [H.a] sg
  sl : ∀ X : Cx, X.N = Ng → X.env.scope = sg → X.mg = c.mg → HxOk X H ad ie ifl iat iw
  va : Vis sg H.a ∧ (H.a == ("__debug__" : Str)) = false ∧ (H.a == ("__classdict__" : Str)) = false
  up : sg.names.lookup H.up = some .globalImplicit ∧ (H.up == ("__debug__" : Str)) = false ∧ c.mg H.up = some (.ref upA)
  few : H.cs.length ≤ 1000 ∧ H.g ≤ H.i
  cls : ∀ j q, H.cs[j]? = some q → c.fa.cl q.2.1 = some (ad q.1, if j < H.i then some (if j < H.g then H.f1 else H.f2) else none) ∧ HeOk c.K H ad (ad q.1) j ∧ PySem.W.exmOne c.K (.ref (ad q.1)) (.ref upA) = some true
def Hears (c : Cn) (x : Str) (tb : List (Nat × Str × Bool)) : Prop := ∃ H g upA ad pr body sg fd Ng ie ifl iat iw, HearOk c x H g upA ad pr body sg fd Ng ie ifl iat iw ∧ tb = H.tb
end Mn

namespace Mn
open PySem L2 PySem.Spec PyProof.Rows
/-! ### defs that keep what the table says -/
structure FnG (c : Cn) (k : Nat) (f : Addr) (fd : FuncData) (ps : List Str) (sp : Sp) : Prop where
  run : ∀ (A : Around) (outer : List PySem.Env) (s : Shared) (H : Hp) (args : Args) (us : List Value) (vs : List V) (Q : VK) (E : XK), Room k A → A.guards = some [] → Env0 c.P c.w c.K c.mg c.base A outer s H → BindsTo s fd args (ps.zip us) → Vals vs us → sp vs H Q E →
    codeAny (model c.P c.w) A (.call (.ref f) args) (CR c.CX outer c.P c.w H s Q E) s
def spF (c : Cn) (cf : Nat → List D → Hq → R D) (n : Nat) : Sp := fun vs H Q E => ∃ W ds h, Hok c.fa W H h ∧ RepL c.fa W vs ds ∧ Gd c E W H (cf n ds h) fun d h' => ∀ v H' W', Ext W H W' H' → Hok c.fa W' H' h' → Rep c.fa W' v d → Q v H'
/-- how arguments bind: positional ones, then keywords for all the others -/
def BindP (K : PySem.W.Frag) (fd : FuncData) (ps : List Str) : Prop := ∀ (s : Shared) (us ws : List Value) (ks : List Str), K.In s.heap → ks.Nodup → ks.length = ws.length → (∀ y ∈ ks, y ∈ ps.drop us.length) → (∀ y ∈ ps.drop us.length, y ∈ ks) → us.length + ks.length = ps.length →
  BindsTo s fd ⟨us, ks.zip ws⟩ (ps.zip (arr ps us (ks.zip ws)))
/-- an own exception class without a field, one with one -/
def BareC (K : PySem.W.Frag) (C : Addr) : Prop := PySem.W.excIn K C He.veBase "ValueError.__new__" = true ∧ PySem.W.keepIn K (.ref C) = true ∧ PySem.W.subIn K (.ref C) (.type "BaseException") = some true ∧ PySem.W.typeIn K (.ref C) = some (.type "type")
structure Gok (c : Cn) (Γ : Gam) (cf : Nat → List D → Hq → R D) (k : Nat) : Prop where
  gi : ∀ x i, Γ.gi.lookup x = some i → ∃ t, c.mg x = some (.int i t)
  fr : ∀ x, Γ.fr.contains x = true → c.mg x = none
  gf : ∀ x n, Γ.gf.lookup x = some n → ∃ a fd, c.mg x = some (.ref a) ∧ c.fa.fn n = some a ∧ PySem.W.keepIn c.K (.ref a) = true ∧ FnG c k a fd (Γ.prm n) (spF c cf n) ∧ BindP c.K fd (Γ.prm n)
  ff : ∀ n a, c.fa.fn n = some a → ∃ fd, PySem.W.keepIn c.K (.ref a) = true ∧ FnG c k a fd (Γ.prm n) (spF c cf n) ∧ BindP c.K fd (Γ.prm n)
  ar : ∀ n ds h, ds.length ≠ (Γ.prm n).length → cf n ds h = .bad
  cx : c.CX = L2.CX c.P c.w
  gc : ∀ x n b, Γ.gc.lookup x = some (n, b) → ∃ C, c.mg x = some (.ref C) ∧ ((b = true ∧ ∃ f, c.fa.cl n = some (C, some f) ∧ SupC c.P c.K C f) ∨ (b = false ∧ c.fa.cl n = some (C, none) ∧ BareC c.K C))
  hd : ∀ x tb, Γ.hd = some (x, tb) → Hears c x tb
section
variable {c : Cn} {Γ : Gam} {cf : Nat → List D → Hq → R D} {k : Nat} {E : XK} {N : List Str} {sc : Scope} {X : Cx}
structure SE (c : Cn) (cf : Nat → List D → Hq → R D) (E : XK) (X : Cx) (m : Mn.E) (e : Expr) : Prop where
  f : isB m = false → PE X e (tF c cf E m)
  n : isN m = true → PE X e (tN c cf E m)
  b : PE X e (tB c cf E m)
  t : notIf e = true → PT X e (tT c cf E m)
theorem tru {W : Wd} {H : Hp} {h : Hq} (kk : Hok c.fa W H h) {v : V} {d : D} {b : Bool} (r : Rdb c.fa W H v d) (e : truthy d = some b) : TruV X.K v H b := by
  unfold truthy at e
  split at e <;> first | cases e | skip
  · cases r.flat (fun _ => by simp); rfl
  · obtain rfl := r.bl; rfl
  · obtain rfl := r.int; rfl
  · obtain ⟨a, vs, rfl, h1, _, h3⟩ := r.tup kk
    have z := h3.length
    exact .inr (.inl ⟨vs, .of h1, by cases h3 <;> rfl⟩)
  · obtain ⟨a, vs, rfl, h1, _, h3⟩ := r.lst kk
    exact .inl ⟨vs, .of h1, by cases h3 <;> rfl⟩
/-- a test by a value's truth -/
theorem pt_tB {m : Mn.E} {e : Expr} (h : PE X e (tB c cf E m)) (he : plainTest e = true) : PT X e (tT c cf E m) := by
  refine weakT (pt_truth h (plain_test he)) fun σ H Q q => ?_
  obtain ⟨W, ρ, hq, kk, r, g⟩ := q
  refine ⟨W, ρ, hq, kk, r, (Gd.bind g).mono fun d h1 g1 v H1 W1 e1 k1 r1 => ?_⟩
  obtain ⟨b, hb, q1⟩ := g1.lift
  exact ⟨b, tru k1 r1 hb, q1 H1 W1 e1 k1⟩
theorem SE.ofN {m : Mn.E} {e : Expr} (h : PE X e (tN c cf E m)) (hb : isB m = false := by rfl) (he : plainTest e = true := by rfl) : SE c cf E X m e := by
  have hF : PE X e (tF c cf E m) := weakE h fun _ _ _ q => tF_of_tN q
  have hB : PE X e (tB c cf E m) := weakE hF fun _ _ _ q => tB_of_tF q
  exact ⟨fun _ => hF, fun _ => h, hB, fun _ => pt_tB hB he⟩
theorem SE.ofF {m : Mn.E} {e : Expr} (h : PE X e (tF c cf E m)) (hn : isN m = false := by rfl) (he : plainTest e = true := by rfl) : SE c cf E X m e := by
  have hB : PE X e (tB c cf E m) := weakE h fun _ _ _ q => tB_of_tF q
  exact ⟨fun _ => h, (fun z => by rw [hn] at z; cases z), hB, fun _ => pt_tB hB he⟩
/-- an answer that is neither list nor dict, by what it is -/
theorem s_const {m : Mn.E} {e : Expr} {v : V} {d : D} (h : PE X e (tC v)) (hm : ∀ ρ h, evE cf m ρ h = .ok d h) (r : ∀ W, Rep c.fa W v d) (hn : isN m = false := by rfl) (he : plainTest e = true := by rfl) : SE c cf E X m e := by
  refine .ofF (weakE h fun σ H Q q => ?_) hn he
  obtain ⟨W, ρ, hq, kk, _, g⟩ := q
  rw [hm] at g
  exact g v H W (.refl W H) kk (r W)
theorem s_var {i : Nat} {x : Str} {pos : Pos} (G : GX c E N k sc X) (h : isVis N sc i x = true) : SE c cf E X (.var i) (.Name x pos) := by
  simp only [isVis, Bool.and_eq_true, Bool.or_eq_true, decide_eq_true_eq, beq_iff_eq, Bool.not_eq_true'] at h
  obtain ⟨⟨⟨h1, h2⟩, h3⟩, h4⟩ := h
  have hv : Vis X.env.scope x := by rw [G.sc]; rcases h2 with (h2 | h2) | h2; exact .inl h2; exact .inr (.inl h2); exact .inr (.inr h2)
  refine .ofF (weakE (pe_var (i := i) (by rw [G.nm]; exact h1) hv h3 h4) fun σ H Q q => ?_)
  obtain ⟨W, ρ, hq, kk, r, g⟩ := q
  simp only [evE] at g
  split at g
  · rename_i d e
    obtain ⟨v, e1, r1⟩ := r.fz i d e
    exact ⟨v, e1, g v H W (.refl W H) kk r1⟩
  · exact False.elim g
theorem s_own {i : Nat} {x : Str} {pos : Pos} (G : GX c E N k sc X) (h : isVis N sc i x = true) : SE c cf E X (.own i) (.Name x pos) := by
  simp only [isVis, Bool.and_eq_true, Bool.or_eq_true, decide_eq_true_eq, beq_iff_eq, Bool.not_eq_true'] at h
  obtain ⟨⟨⟨h1, h2⟩, h3⟩, h4⟩ := h
  have hv : Vis X.env.scope x := by rw [G.sc]; rcases h2 with (h2 | h2) | h2; exact .inl h2; exact .inr (.inl h2); exact .inr (.inr h2)
  have hB : PE X (.Name x pos) (tB c cf E (.own i)) := by
    refine weakE (pe_var (i := i) (by rw [G.nm]; exact h1) hv h3 h4) fun σ H Q q => ?_
    obtain ⟨W, ρ, hq, kk, r, g⟩ := q
    simp only [evE] at g
    split at g
    · rename_i d e
      obtain ⟨p, e1, h1, h2, h3⟩ := r.ow i d e
      exact ⟨.ref p, e1, g _ H W (.refl W H) kk (.inr ⟨p, rfl, h1, h2, h3⟩)⟩
    · exact False.elim g
  exact ⟨(fun z => Bool.noConfusion z), (fun z => Bool.noConfusion z), hB, fun _ => pt_tB hB rfl⟩
theorem gl_of (G : GX c E N k sc X) {x : Str} (h : isGl sc x = true) : Gl X x ∧ (x == ("__debug__" : Str)) = false := by
  simp only [isGl, Bool.and_eq_true, beq_iff_eq, Bool.not_eq_true'] at h
  refine ⟨?_, h.2⟩
  show X.env.scope.names.lookup x = _
  rw [G.sc]; exact h.1
theorem s_gint {i : Int} {x : Str} {pos : Pos} (O : Gok c Γ cf k) (G : GX c E N k sc X) (h : isGl sc x = true) (hi : Γ.gi.lookup x = some i) : SE c cf E X (.gint i) (.Name x pos) := by
  obtain ⟨h1, h2⟩ := gl_of G h
  obtain ⟨t, ht⟩ := O.gi x i hi
  exact s_const (d := .int i) (pe_glob (v := .int i) h1 (by rw [G.mg]; exact ht) ⟨t, rfl⟩ h2) (fun _ _ => rfl) fun _ => .int i
theorem s_gfn {n : Nat} {x : Str} {pos : Pos} (O : Gok c Γ cf k) (G : GX c E N k sc X) (h : isGl sc x = true) (hi : Γ.gf.lookup x = some n) : SE c cf E X (.gfn n) (.Name x pos) := by
  obtain ⟨h1, h2⟩ := gl_of G h
  obtain ⟨a, fd, ht, hf, _⟩ := O.gf x n hi
  exact s_const (d := .fn n []) (pe_glob (v := .ref a) h1 (by rw [G.mg]; exact ht) rfl h2) (fun _ _ => rfl) fun _ => .fn hf
/-- two parts read one behind another -/
theorem two_parts {a b : Mn.E} {σ : L2.St} {H : Hp} {Q : V → V → Hp → Prop} {W : Wd} {ρ : Env} {h : Hq} {f : D → D → Hq → R D} {Qf : D → Hq → Prop} (kk : Hok c.fa W H h) (r : Sr c.fa W H σ ρ)
    (g : Gd c E W H ((evE cf a ρ h).bind fun x h => (evE cf b ρ h).bind fun y h => f x y h) Qf)
    (fin : ∀ v1 v2 d1 d2 H2 W2 h2, Ext W H W2 H2 → Hok c.fa W2 H2 h2 → Rdb c.fa W2 H2 v1 d1 → Rdb c.fa W2 H2 v2 d2 → Gd c E W2 H2 (f d1 d2 h2) Qf → Q v1 v2 H2) :
    tB c cf E a σ H fun x H1 => tB c cf E b σ H1 fun y H2 => Q x y H2 := by
  refine ⟨W, ρ, h, kk, r, (Gd.bind g).mono fun d1 h1 g1 v1 H1 W1 e1 k1 r1 => ?_⟩
  refine ⟨W1, ρ, h1, k1, r.ext e1, (Gd.bind (g1.ext e1)).mono fun d2 h2 g2 v2 H2 W2 e2 k2 r2 => ?_⟩
  exact fin v1 v2 d1 d2 H2 W2 h2 (e1.trans e2) k2 (r1.ext e2) r2 (g2.ext e2)
theorem ResN.back {W W2 W' : Wd} {H H2 H' : Hp} {v : V} {d : D} (r : ResN c.fa W2 H2 W' H' v d) (e : Ext W H W2 H2) : ResN c.fa W H W' H' v d := by
  rcases r with r | ⟨p, rfl, h1, h2, h3, h4⟩
  · exact .inl r
  · refine .inr ⟨p, rfl, ?_, h2, h3, h4⟩
    cases q : H p with
    | none => rfl
    | some u => exact absurd h1 (e.t p (by rw [q]; simp))
theorem s_bin {op : Bop} {a b : Mn.E} {l r : Expr} {pos : Pos} (ha : SE c cf E X a l) (hb : SE c cf E X b r) : SE c cf E X (.bin op a b) (.BinOp l op.op r pos) := by
  refine .ofN (weakE (pe_op (op_bin (fa := c.fa) op) ha.b hb.b) fun σ H Q q => ?_)
  obtain ⟨W, ρ, h, kk, r, g⟩ := q
  simp only [evE] at g
  refine two_parts kk r g fun v1 v2 d1 d2 H2 W2 h2 e k2 r1 r2 g2 => ?_
  obtain ⟨d, hd, q⟩ := g2.lift
  exact ⟨W2, h2, d1, d2, d, k2, r1, r2, hd, fun v H' W' e' k' n => q v H' W' (e.trans e') k' (n.back e)⟩
theorem cmp_parts {op : Cop} {a b : Mn.E} {σ : L2.St} {H : Hp} {Q : VK} {W : Wd} {ρ : Env} {h : Hq} {Qf : D → Hq → Prop} (kk : Hok c.fa W H h) (r : Sr c.fa W H σ ρ)
    (g : Gd c E W H (evE cf (.cmp op a b) ρ h) Qf) (fin : ∀ cc H2 W2 h2, Ext W H W2 H2 → Hok c.fa W2 H2 h2 → Qf (.bl cc) h2 → Q (.bl cc) H2) : tOp (rCmp c.fa op) (tB c cf E a) (tB c cf E b) σ H Q := by
  simp only [evE] at g
  refine two_parts kk r g fun v1 v2 d1 d2 H2 W2 h2 e k2 r1 r2 g2 => ?_
  obtain ⟨d, hd, q⟩ := g2.lift
  refine ⟨W2, h2, d1, d2, d, k2, r1, r2, hd, fun cc ed => ?_⟩
  subst ed
  exact fin cc H2 W2 h2 e k2 q
theorem s_cmp {op : Cop} {a b : Mn.E} {l r : Expr} {pos : Pos} (G : GX c E N k sc X) (ha : SE c cf E X a l) (hb : SE c cf E X b r) (hs : notSet r = true) : SE c cf E X (.cmp op a b) (.Compare l [op.op] [r] pos) := by
  have hu : X.A.units + 65 < cLine := by have := G.room.un; omega
  have hF : PE X (.Compare l [op.op] [r] pos) (tF c cf E (.cmp op a b)) := by
    refine weakE (pe_cmpR (op_cmp (fa := c.fa) hu op) ha.b hb.b (mark_no hs)) fun σ H Q q => ?_
    obtain ⟨W, ρ, h, kk, r, g⟩ := q
    exact cmp_parts kk r g fun cc H2 W2 h2 e k2 q => q _ H2 W2 e k2 (.bl cc)
  have hB : PE X (.Compare l [op.op] [r] pos) (tB c cf E (.cmp op a b)) := weakE hF fun _ _ _ q => tB_of_tF q
  refine ⟨fun _ => hF, (fun z => Bool.noConfusion z), hB, fun _ => ?_⟩
  refine weakT (pt_cmpR (op_cmp (fa := c.fa) hu op) ha.b hb.b (mark_no hs)) fun σ H Q q => ?_
  obtain ⟨W, ρ, h, kk, r, g⟩ := q
  refine cmp_parts kk r (Gd.bind g) fun cc H2 W2 h2 e k2 q => ?_
  obtain ⟨b, hb', q'⟩ := q.lift
  cases hb'
  exact ⟨cc, rfl, q' H2 W2 e k2⟩
theorem s_neg {a : Mn.E} {l : Expr} {pos : Pos} (ha : SE c cf E X a l) : SE c cf E X (.neg a) (.UnaryOp .USub l pos) := by
  refine .ofF (weakE (pe_un un_neg ha.b) fun σ H Q q => ?_)
  obtain ⟨W, ρ, h, kk, r, g⟩ := q
  simp only [evE] at g
  refine ⟨W, ρ, h, kk, r, (Gd.bind g).mono fun d1 h1 g1 v1 H1 W1 e1 k1 r1 => ?_⟩
  obtain ⟨d, hd, q⟩ := g1.lift
  rw [Option.map_eq_some_iff] at hd
  obtain ⟨i, hi, rfl⟩ := hd
  unfold intOf at hi
  split at hi
  · cases hi
    obtain rfl := r1.int
    exact ⟨_, rfl, q _ H1 W1 e1 k1 (.int _)⟩
  · cases hi
theorem s_not {a : Mn.E} {l : Expr} {pos : Pos} (ha : SE c cf E X a l) (hi : notIf l = true) : SE c cf E X (.not a) (.UnaryOp .Not l pos) := by
  have hF : PE X (.UnaryOp .Not l pos) (tF c cf E (.not a)) := by
    refine weakE (pe_notT ha.b) fun σ H Q q => ?_
    obtain ⟨W, ρ, h, kk, r, g⟩ := q
    simp only [evE] at g
    refine ⟨W, ρ, h, kk, r, (Gd.bind g).mono fun d1 h1 g1 v1 H1 W1 e1 k1 r1 => ?_⟩
    obtain ⟨d, hd, q⟩ := g1.lift
    rw [Option.map_eq_some_iff] at hd
    obtain ⟨b, hb, rfl⟩ := hd
    exact ⟨b, tru k1 r1 hb, q _ H1 W1 e1 k1 (.bl _)⟩
  have hB : PE X (.UnaryOp .Not l pos) (tB c cf E (.not a)) := weakE hF fun _ _ _ q => tB_of_tF q
  refine ⟨fun _ => hF, (fun z => Bool.noConfusion z), hB, fun _ => ?_⟩
  refine weakT (pt_not (ha.t hi)) fun σ H Q q => ?_
  obtain ⟨W, ρ, h, kk, r, g⟩ := q
  refine ⟨W, ρ, h, kk, r, ?_⟩
  simp only [evE] at g
  have g2 := Gd.bind g
  generalize evE cf a ρ h = y at g2 ⊢
  cases y with
  | ok d h1 =>
    obtain ⟨z, hz, q⟩ := (Gd.bind g2).lift
    rw [Option.map_eq_some_iff] at hz
    obtain ⟨b, hb, rfl⟩ := hz
    obtain ⟨b2, hb2, q2⟩ := Gd.lift q
    cases hb2
    show Gd c E W H (liftO (truthy d) h1) _
    rw [hb]
    exact q2
  | exc n d h1 => exact g2
  | bad => exact g2
end
end Mn

namespace Mn
open PySem L2 PySem.Spec PyProof.Rows
section
variable {c : Cn} {Γ : Gam} {cf : Nat → List D → Hq → R D} {k : Nat} {E : XK} {N : List Str} {sc : Scope} {X : Cx}
theorem s_chain {o p : Cop} {a b d : Mn.E} {l m r : Expr} {pos : Pos} (G : GX c E N k sc X) (ha : SE c cf E X a l) (hb : SE c cf E X b m) (hd : SE c cf E X d r) (hs : notSet r = true) : SE c cf E X (.chain o p a b d) (.Compare l [o.op, p.op] [m, r] pos) := by
  have hu : X.A.units + 65 < cLine := by have := G.room.un; omega
  have hm : lastMarks [o.op, p.op] [m, r] = false := by
    show behindInMarks p.op r = false
    exact mark_no hs
  have key : ∀ (σ : L2.St) (H : Hp) (Q : VK) (W : Wd) (ρ : Env) (h : Hq) (Qf : D → Hq → Prop), Hok c.fa W H h → Sr c.fa W H σ ρ → Gd c E W H (evE cf (.chain o p a b d) ρ h) Qf →
      (∀ cc H2 W2 h2, Ext W H W2 H2 → Hok c.fa W2 H2 h2 → Qf (.bl cc) h2 → Q (.bl cc) H2) → tChain (rCmp c.fa o) (rCmp c.fa p) (tB c cf E a) (tB c cf E b) (tB c cf E d) σ H Q := by
    intro σ H Q W ρ h Qf kk r g fin
    simp only [evE] at g
    refine two_parts (Q := fun x y H2 => rCmp c.fa o x y H2 fun z H3 => ∃ k, z = .bl k ∧ (if k = true then tB c cf E d σ H3 fun w' H4 => rCmp c.fa p y w' H4 Q else Q (.bl false) H3)) kk r g fun v1 v2 d1 d2 H2 W2 h2 e k2 r1 r2 g2 => ?_
    obtain ⟨t, ht, g3⟩ := (Gd.bind g2).lift
    rw [Option.bind_eq_some_iff] at ht
    obtain ⟨z, hz, hz2⟩ := ht
    obtain ⟨cc, rfl⟩ := cmp_bl hz
    have et : cc = t := by simpa [truthy] using hz2
    subst et
    refine ⟨W2, h2, d1, d2, _, k2, r1, r2, hz, fun c' ec => ?_⟩
    cases ec
    refine ⟨cc, rfl, ?_⟩
    cases cc with
    | false =>
      rw [if_neg Bool.false_ne_true] at g3 ⊢
      exact fin false H2 W2 h2 e k2 g3
    | true =>
      rw [if_pos rfl] at g3 ⊢
      refine ⟨W2, ρ, h2, k2, r.ext e, (Gd.bind g3).mono fun d3 h3 g4 v3 H3 W3 e3 k3 r3 => ?_⟩
      obtain ⟨z, hz, q⟩ := g4.lift
      refine ⟨W3, h3, d2, d3, z, k3, r2.ext e3, r3, hz, fun cc ec => ?_⟩
      subst ec
      exact fin cc H3 W3 h3 (e.trans e3) k3 q
  have hF : PE X (.Compare l [o.op, p.op] [m, r] pos) (tF c cf E (.chain o p a b d)) := by
    refine weakE (pe_chain (op_cmp (fa := c.fa) hu o) (op_cmp (fa := c.fa) hu p) ha.b hb.b hd.b hm) fun σ H Q q => ?_
    obtain ⟨W, ρ, h, kk, r, g⟩ := q
    exact key σ H Q W ρ h _ kk r g fun cc H2 W2 h2 e k2 q => q _ H2 W2 e k2 (.bl cc)
  have hB : PE X (.Compare l [o.op, p.op] [m, r] pos) (tB c cf E (.chain o p a b d)) := weakE hF fun _ _ _ q => tB_of_tF q
  refine ⟨fun _ => hF, (fun z => Bool.noConfusion z), hB, fun _ => ?_⟩
  refine weakT (pt_chain (op_cmp (fa := c.fa) hu o) (op_cmp (fa := c.fa) hu p) ha.b hb.b hd.b hm) fun σ H Q q => ?_
  obtain ⟨W, ρ, h, kk, r, g⟩ := q
  refine key σ H _ W ρ h _ kk r (Gd.bind g) fun cc H2 W2 h2 e k2 q => ?_
  obtain ⟨b, hb', q'⟩ := q.lift
  cases hb'
  exact ⟨cc, rfl, q' H2 W2 e k2⟩
/-- and, or: as a value, as a test -/
structure SW (c : Cn) (cf : Nat → List D → Hq → R D) (E : XK) (X : Cx) (m : Mn.E) (e : Expr) : Prop where
  f : PE X e (tF c cf E m)
  w : PW X e (tT c cf E m)
theorem SW.se {m : Mn.E} {e : Expr} (h : SW c cf E X m e) (hn : isN m = false) : SE c cf E X m e :=
  ⟨fun _ => h.f, (fun z => by rw [hn] at z; cases z), weakE h.f fun _ _ _ q => tB_of_tF q, fun _ => h.w.pt⟩
theorem sw_one {op : BoolOp} {a : Mn.E} {l : Expr} {pos : Pos} (ha : SE c cf E X a l) (hb : isB a = false) (hi : notIf l = true) : SW c cf E X a (.BoolOp op [l] pos) := by
  refine ⟨pe_one (ha.f hb), ?_⟩
  cases op
  · exact pw_and1 (ha.t hi)
  · exact pw_or1 (ha.t hi)
theorem tail {b : Mn.E} {ρ : Env} {h1 : Hq} {W W' : Wd} {H H' : Hp} {Q : Bool → Hp → Prop} (e' : Ext W H W' H') (g4 : Gd c E W H (evE cf b ρ h1) fun a h => Gd c E W H (liftO (truthy a) h) fun b h' => ∀ H' W', Ext W H W' H' → Hok c.fa W' H' h' → Q b H') :
    Gd c E W' H' ((evE cf b ρ h1).bind fun d h => liftO (truthy d) h) fun b h' => ∀ H'' W'', Ext W' H' W'' H'' → Hok c.fa W'' H'' h' → Q b H'' := by
  have g5 := g4.ext e'
  generalize evE cf b ρ h1 = y2 at g5 ⊢
  cases y2 with
  | ok d2 h2 => exact (Gd.ext (r := liftO (truthy d2) h2) g5 e').mono fun b2 h3 q H2 W2 e2 k2 => q H2 W2 (e'.trans e2) k2
  | exc n d h => exact g5
  | bad => exact g5
theorem sw_and {a b : Mn.E} {l r : Expr} {rest : List Expr} {pos : Pos} (ha : SE c cf E X a l) (hi : notIf l = true) (hab : isB a = false) (hb : SW c cf E X b (.BoolOp .And (r :: rest) pos)) : SW c cf E X (.and a b) (.BoolOp .And (l :: r :: rest) pos) := by
  refine ⟨weakE (pe_andT (ha.f hab) hb.f) fun σ H Q q => ?_, ⟨fun wh => ?_⟩⟩
  · obtain ⟨W, ρ, h, kk, r, g⟩ := q
    simp only [evE] at g
    refine ⟨W, ρ, h, kk, r, (Gd.bind g).mono fun d1 h1 g1 v1 H1 W1 e1 k1 r1 => ?_⟩
    obtain ⟨t, ht, g2⟩ := (Gd.bind g1).lift
    refine ⟨t, tru k1 (.inl r1) ht, ?_⟩
    cases t with
    | true =>
      rw [if_pos rfl] at g2 ⊢
      exact ⟨W1, ρ, h1, k1, r.ext e1, (g2.ext e1).mono fun d2 h2 q v2 H2 W2 e2 k2 r2 => q v2 H2 W2 (e1.trans e2) k2 r2⟩
    | false =>
      rw [if_neg Bool.false_ne_true] at g2 ⊢
      exact g2 v1 H1 W1 e1 k1 r1
  · intro pins s σ H Q I q
    refine (pw_and (ha.t hi) hb.w).run wh pins s σ H Q I ?_
    obtain ⟨W, ρ, h, kk, r, g⟩ := q
    simp only [evE] at g
    refine ⟨W, ρ, h, kk, r, ?_⟩
    have g2 := Gd.bind g
    generalize evE cf a ρ h = y at g2 ⊢
    cases y with
    | ok d h1 =>
      have g3 : Gd c E W H ((liftO (truthy d) h1).bind fun k h => if k = true then evE cf b ρ h else R.ok d h) _ := g2
      obtain ⟨t, ht, g4⟩ := (Gd.bind g3).lift
      show Gd c E W H (liftO (truthy d) h1) _
      rw [ht]
      intro H' W' e' k'
      cases t with
      | true =>
        rw [if_pos rfl] at g4 ⊢
        exact ⟨W', ρ, h1, k', r.ext e', tail e' g4⟩
      | false =>
        rw [if_neg Bool.false_ne_true] at g4 ⊢
        obtain ⟨b2, hb2, q⟩ := Gd.lift g4
        rw [ht] at hb2
        cases hb2
        exact q H' W' e' k'
    | exc n d h1 => exact g2
    | bad => exact g2
theorem sw_or {a b : Mn.E} {l r : Expr} {rest : List Expr} {pos : Pos} (ha : SE c cf E X a l) (hi : notIf l = true) (hab : isB a = false) (hb : SW c cf E X b (.BoolOp .Or (r :: rest) pos)) : SW c cf E X (.or a b) (.BoolOp .Or (l :: r :: rest) pos) := by
  refine ⟨weakE (pe_orT (ha.f hab) hb.f) fun σ H Q q => ?_, ⟨fun wh => ?_⟩⟩
  · obtain ⟨W, ρ, h, kk, r, g⟩ := q
    simp only [evE] at g
    refine ⟨W, ρ, h, kk, r, (Gd.bind g).mono fun d1 h1 g1 v1 H1 W1 e1 k1 r1 => ?_⟩
    obtain ⟨t, ht, g2⟩ := (Gd.bind g1).lift
    refine ⟨t, tru k1 (.inl r1) ht, ?_⟩
    cases t with
    | false =>
      rw [if_neg Bool.false_ne_true] at g2 ⊢
      exact ⟨W1, ρ, h1, k1, r.ext e1, (g2.ext e1).mono fun d2 h2 q v2 H2 W2 e2 k2 r2 => q v2 H2 W2 (e1.trans e2) k2 r2⟩
    | true =>
      rw [if_pos rfl] at g2 ⊢
      exact g2 v1 H1 W1 e1 k1 r1
  · intro pins s σ H Q I q
    refine (pw_or (ha.t hi) hb.w).run wh pins s σ H Q I ?_
    obtain ⟨W, ρ, h, kk, r, g⟩ := q
    simp only [evE] at g
    refine ⟨W, ρ, h, kk, r, ?_⟩
    have g2 := Gd.bind g
    generalize evE cf a ρ h = y at g2 ⊢
    cases y with
    | ok d h1 =>
      have g3 : Gd c E W H ((liftO (truthy d) h1).bind fun k h => if k = true then R.ok d h else evE cf b ρ h) _ := g2
      obtain ⟨t, ht, g4⟩ := (Gd.bind g3).lift
      show Gd c E W H (liftO (truthy d) h1) _
      rw [ht]
      intro H' W' e' k'
      cases t with
      | false =>
        rw [if_neg Bool.false_ne_true] at g4 ⊢
        exact ⟨W', ρ, h1, k', r.ext e', tail e' g4⟩
      | true =>
        rw [if_pos rfl] at g4 ⊢
        obtain ⟨b2, hb2, q⟩ := Gd.lift g4
        rw [ht] at hb2
        cases hb2
        exact q H' W' e' k'
    | exc n d h1 => exact g2
    | bad => exact g2
theorem s_ife {a b d : Mn.E} {t x y : Expr} {pos : Pos} (ht : SE c cf E X d t) (hi : notIf t = true) (ha : SE c cf E X a x) (hb : SE c cf E X b y) (na : isB a = false) (nb : isB b = false) : SE c cf E X (.ife d a b) (.IfExp t x y pos) := by
  have hF : PE X (.IfExp t x y pos) (tF c cf E (.ife d a b)) := by
    refine weakE (pe_ifExp (ht.t hi) (ha.f na) (hb.f nb)) fun σ H Q q => ?_
    obtain ⟨W, ρ, h, kk, r, g⟩ := q
    simp only [evE] at g
    refine ⟨W, ρ, h, kk, r, ?_⟩
    generalize evE cf d ρ h = z at g ⊢
    cases z with
    | ok dd h1 =>
      have g3 : Gd c E W H ((liftO (truthy dd) h1).bind fun k h => if k = true then evE cf a ρ h else evE cf b ρ h) _ := g
      refine (Gd.bind g3).mono fun tt h2 g4 H' W' e' k' => ?_
      cases tt with
      | true =>
        rw [if_pos rfl] at g4 ⊢
        exact ⟨W', ρ, h2, k', r.ext e', (g4.ext e').mono fun d2 h3 q v2 H2 W2 e2 k2 r2 => q v2 H2 W2 (e'.trans e2) k2 r2⟩
      | false =>
        rw [if_neg Bool.false_ne_true] at g4 ⊢
        exact ⟨W', ρ, h2, k', r.ext e', (g4.ext e').mono fun d2 h3 q v2 H2 W2 e2 k2 r2 => q v2 H2 W2 (e'.trans e2) k2 r2⟩
    | exc n d h1 => exact g
    | bad => exact g
  exact ⟨fun _ => hF, (fun z => Bool.noConfusion z), weakE hF fun _ _ _ q => tB_of_tF q, fun z => by simp [notIf] at z⟩
end
end Mn

namespace Mn
open PySem L2 PySem.Spec PyProof.Rows
section
variable {c : Cn} {Γ : Gam} {cf : Nat → List D → Hq → R D} {k : Nat} {E : XK} {N : List Str} {sc : Scope} {X : Cx}
/-- arguments -/
def tA (c : Cn) (cf : Nat → List D → Hq → R D) (E : XK) (m : Es) : TA := fun σ H Q => ∃ W ρ h, Hok c.fa W H h ∧ Sr c.fa W H σ ρ ∧ Gd c E W H (evEs cf m ρ h) fun ds h' => ∀ vs H' W', Ext W H W' H' → Hok c.fa W' H' h' → RdbL c.fa W' H' vs ds → (noB m = true → RepL c.fa W' vs ds) → ds.length = m.len → Q vs H'
theorem RdbL.length {W : Wd} {H : Hp} : ∀ {vs : List V} {ds : List D}, RdbL c.fa W H vs ds → vs.length = ds.length
  | _, _, .nil => rfl
  | _, _, .cons _ r => congrArg Nat.succ (RdbL.length r)
theorem sa_nil : PA X [] (tA c cf E .nil) := by
  refine ⟨fun pos pins s σ H Q I q => (pa_nil (X := X)).run pos pins s σ H Q I ?_⟩
  obtain ⟨W, ρ, h, kk, r, g⟩ := q
  exact g [] H W (.refl W H) kk .nil (fun _ => .nil) rfl
theorem sa_cons {m : Mn.E} {ms : Es} {e : Expr} {es : List Expr} (he : SE c cf E X m e) (hs : notStar e = true) (hr : PA X es (tA c cf E ms)) : PA X (e :: es) (tA c cf E (.cons m ms)) := by
  by_cases hb : isB m = true
  · refine ⟨fun pos pins s σ H Q I q => (pa_cons he.b hr (star_cons hs)).run pos pins s σ H Q I ?_⟩
    obtain ⟨W, ρ, h, kk, r, g⟩ := q
    simp only [evEs] at g
    refine ⟨W, ρ, h, kk, r, (Gd.bind g).mono fun d1 h1 g1 v1 H1 W1 e1 k1 r1 => ?_⟩
    refine ⟨W1, ρ, h1, k1, r.ext e1, (Gd.bind (g1.ext e1)).mono fun ds h2 g2 vs H2 W2 e2 k2 r2 n2 l2 => ?_⟩
    exact g2 _ H2 W2 (e1.trans e2) k2 (.cons (r1.ext e2) r2) (fun z => by simp [noB, hb] at z) (by simp [Es.len, l2])
  · have hb' : isB m = false := by simpa using hb
    refine ⟨fun pos pins s σ H Q I q => (pa_cons (he.f hb') hr (star_cons hs)).run pos pins s σ H Q I ?_⟩
    obtain ⟨W, ρ, h, kk, r, g⟩ := q
    simp only [evEs] at g
    refine ⟨W, ρ, h, kk, r, (Gd.bind g).mono fun d1 h1 g1 v1 H1 W1 e1 k1 r1 => ?_⟩
    refine ⟨W1, ρ, h1, k1, r.ext e1, (Gd.bind (g1.ext e1)).mono fun ds h2 g2 vs H2 W2 e2 k2 r2 n2 l2 => ?_⟩
    refine g2 _ H2 W2 (e1.trans e2) k2 (.cons (.inl (e2.rep r1)) r2) (fun z => ?_) (by simp [Es.len, l2])
    simp only [noB, Bool.and_eq_true] at z
    exact .cons (e2.rep r1) (n2 z.2)
theorem sk_nil : PK X [] (tA c cf E .nil) := by
  refine ⟨fun pos pins s σ H Q I q => (pk_nil (X := X)).run pos pins s σ H Q I ?_⟩
  obtain ⟨W, ρ, h, kk, r, g⟩ := q
  exact g [] H W (.refl W H) kk .nil (fun _ => .nil) rfl
theorem sk_cons {m : Mn.E} {ms : Es} {n : Option Str} {e : Expr} {p : Pos} {kws : List Keyword} (he : SE c cf E X m e) (hb : isB m = false) (hr : PK X kws (tA c cf E ms)) : PK X (⟨n, e, p⟩ :: kws) (tA c cf E (.cons m ms)) := by
  refine ⟨fun pos pins s σ H Q I q => (pk_cons (he.f hb) hr).run pos pins s σ H Q I ?_⟩
  obtain ⟨W, ρ, h, kk, r, g⟩ := q
  simp only [evEs] at g
  refine ⟨W, ρ, h, kk, r, (Gd.bind g).mono fun d1 h1 g1 v1 H1 W1 e1 k1 r1 => ?_⟩
  refine ⟨W1, ρ, h1, k1, r.ext e1, (Gd.bind (g1.ext e1)).mono fun ds h2 g2 vs H2 W2 e2 k2 r2 n2 l2 => ?_⟩
  refine g2 _ H2 W2 (e1.trans e2) k2 (.cons (.inl (e2.rep r1)) r2) (fun z => ?_) (by simp [Es.len, l2])
  simp only [noB, Bool.and_eq_true] at z
  exact .cons (e2.rep r1) (n2 z.2)
/-- the callee runs -/
theorem run_fnG {pins : List (Addr × Obj)} {σ : L2.St} {H : Hp} {s : Shared} {Q : VK} {us ws ps' : List Value} {ks : List Str} {vs : List V} {a : Addr} {fd : FuncData} {ps : List Str} {sp : Sp} (F : FnG c k a fd ps sp) (G : GX c E N k sc X) (I : Inv X pins σ H s)
    (hb : BindsTo s fd ⟨us, ks.zip ws⟩ (ps.zip ps')) (r : Vals vs ps') (h : sp vs H Q E) : wpAny (model X.prog X.w) X.A (call (.ref a) us (ks.zip ws)) (EP X pins σ Q) X.xe s := by
  have e0 := I.env0
  have hp := G.prog
  have hw := G.w
  rw [hp, hw, G.K, G.mg, G.base] at e0
  rw [hp, hw]
  refine wpAny_call (codeAny_mono (F.run X.A X.stack s H ⟨us, ks.zip ws⟩ ps' vs Q E G.room G.gd e0 hb r h) fun r s' hq => ?_)
  cases r with
  | error e => exact G.ps pins σ H s e s' I hq
  | ok fl =>
    cases fl with
    | ret u =>
      rw [← hp, ← hw] at hq
      exact I.after hq
    | next => exact False.elim hq
    | brk => exact False.elim hq
    | cont => exact False.elim hq
theorem s_call {n : Nat} {es : Es} {f : Str} {a : Expr} {as : List Expr} {p pos : Pos} (O : Gok c Γ cf k) (G : GX c E N k sc X) (hg : isGl sc f = true) (hf : Γ.gf.lookup f = some n) (hn : noB es = true) (hl : es.len = (Γ.prm n).length)
    (ha : PA X (a :: as) (tA c cf E es)) (hs : (a :: as).all notStar = true) : SE c cf E X (.call n es) (.Call (.Name f p) (a :: as) [] pos) := by
  obtain ⟨g1, g2⟩ := gl_of G hg
  obtain ⟨ad, fd, m1, m2, m3, F, B⟩ := O.gf f n hf
  rw [List.all_cons, Bool.and_eq_true] at hs
  refine .ofF ⟨fun pins s σ H Q I q => ?_⟩
  obtain ⟨W, ρ, h, kk, r, g⟩ := q
  simp only [evE] at g
  refine wpAny_Call_Name_kw (ld_glob I g1 (by rw [G.mg]; exact m1) ?_ g2)
  have hA : tA c cf E es σ H fun vs H1 => vs.length = (Γ.prm n).length ∧ spF c cf n vs H1 Q E := by
    refine ⟨W, ρ, h, kk, r, (Gd.bind g).mono fun ds h1 g3 vs H1 W1 e1 k1 r1 n1 l1 => ?_⟩
    have rl := n1 hn
    exact ⟨by rw [rl.length, l1, hl], W1, ds, h1, k1, rl, (g3.ext e1).mono fun d h2 q v H2 W2 e2 k2 r2 => q v H2 W2 (e1.trans e2) k2 r2⟩
  refine PySem.W.callWith_K (h₀ := X.base) I.ok.mod.kin (by rw [G.K]; exact m3) (thn (ha.run pos pins s σ H _ I hA) fun us s1 ⟨vs, H1, I1, rv, hl1, q1⟩ => ⟨I1.kIn, ?_⟩) (star_cons hs.1) (star_any hs.2)
  have hu : us.length = (Γ.prm n).length := by rw [← rv.length, hl1]
  have hb := B s1 us [] [] (by rw [← G.K]; exact I1.kIn) .nil rfl (fun y hy => by cases hy) (fun y hy => by rw [hu, List.drop_length] at hy; cases hy) (by simp [hu])
  have e0 : arr (Γ.prm n) us (([] : List Str).zip []) = us := by
    unfold arr
    rw [hu, List.drop_length]
    simp
  rw [e0] at hb
  exact run_fnG (ks := []) (ws := []) F G I1 hb rv q1
theorem s_calll {i : Nat} {es : Es} {x : Str} {a : Expr} {as : List Expr} {p pos : Pos} (O : Gok c Γ cf k) (G : GX c E N k sc X) (hv : isVis N sc i x = true) (hn : noB es = true)
    (ha : PA X (a :: as) (tA c cf E es)) (hs : (a :: as).all notStar = true) : SE c cf E X (.calll i es) (.Call (.Name x p) (a :: as) [] pos) := by
  simp only [isVis, Bool.and_eq_true, Bool.or_eq_true, decide_eq_true_eq, beq_iff_eq, Bool.not_eq_true'] at hv
  obtain ⟨⟨⟨v1, v2⟩, v3⟩, v4⟩ := hv
  have hvis : Vis X.env.scope x := by rw [G.sc]; rcases v2 with (v2 | v2) | v2; exact .inl v2; exact .inr (.inl v2); exact .inr (.inr v2)
  rw [List.all_cons, Bool.and_eq_true] at hs
  refine .ofF ⟨fun pins s σ H Q I q => ?_⟩
  obtain ⟨W, ρ, h, kk, r, g⟩ := q
  simp only [evE] at g
  split at g
  · rename_i n cs he
    obtain ⟨v, e1, rv⟩ := r.fz i _ he
    cases rv with
    | fn hf =>
      rename_i ad
      obtain ⟨fd, m3, F, B⟩ := O.ff n _ hf
      refine wpAny_Call_Name_kw (thn ((pe_var (i := i) (pos := p) (by rw [G.nm]; exact v1) hvis v3 v4).run pins s σ H (fun v H1 => v = .ref ad ∧ H1 = H) I ⟨.ref ad, e1, rfl, rfl⟩) fun u s1 ⟨v, H1, I1, r1, q1⟩ => ?_)
      obtain ⟨rfl, rfl⟩ := q1
      cases r1
      have hA : tA c cf E es σ H1 fun vs H2 => vs.length = (Γ.prm n).length ∧ spF c cf n vs H2 Q E := by
        refine ⟨W, ρ, h, kk, r, (Gd.bind g).mono fun ds h1 g3 vs H2 W1 e1 k1 r1 n1 l1 => ?_⟩
        have rl := n1 hn
        rw [List.append_nil] at g3
        have hlen : ds.length = (Γ.prm n).length := by
          rcases Classical.em (ds.length = (Γ.prm n).length) with z | z
          · exact z
          · rw [O.ar n ds h1 z] at g3
            exact False.elim g3
        exact ⟨by rw [rl.length, hlen], W1, ds, h1, k1, rl, (g3.ext e1).mono fun d h2 q v H2 W2 e2 k2 r2 => q v H2 W2 (e1.trans e2) k2 r2⟩
      refine PySem.W.callWith_K (h₀ := X.base) I1.ok.mod.kin (by rw [G.K]; exact m3) (thn (ha.run pos pins s1 σ H1 _ I1 hA) fun us s2 ⟨vs, H2, I2, rv, hl1, q1⟩ => ⟨I2.kIn, ?_⟩) (star_cons hs.1) (star_any hs.2)
      have hu : us.length = (Γ.prm n).length := by rw [← rv.length, hl1]
      have hb := B s2 us [] [] (by rw [← G.K]; exact I2.kIn) .nil rfl (fun y hy => by cases hy) (fun y hy => by rw [hu, List.drop_length] at hy; cases hy) (by simp [hu])
      have e0 : arr (Γ.prm n) us (([] : List Str).zip []) = us := by
        unfold arr
        rw [hu, List.drop_length]
        simp
      rw [e0] at hb
      exact run_fnG (ks := []) (ws := []) F G I2 hb rv q1
  · exact False.elim g
theorem kw_all {pos : Pos} {env : PySem.Env} : ∀ {kws : List Keyword} {ns : List Str}, kwNames kws = some ns → (backToKw pos (keywordEach kws env)).all (·.1.isSome) = true ∧ (backToKw pos (keywordEach kws env)).filterMap (·.1) = ns ∧ (backToKw pos (keywordEach kws env)).any (·.1.isNone) = false
  | [], ns, h => by
    simp only [kwNames, Option.some.injEq] at h
    subst h
    exact ⟨rfl, rfl, rfl⟩
  | ⟨some n, e, p⟩ :: r, ns, h => by
    simp only [kwNames, Option.map_eq_some_iff] at h
    obtain ⟨ns', h1, rfl⟩ := h
    obtain ⟨z1, z2, z3⟩ := kw_all (pos := pos) (env := env) h1
    refine ⟨?_, ?_, ?_⟩
    · show (true && (backToKw pos (keywordEach r env)).all (·.1.isSome)) = true
      rw [z1]; rfl
    · show n :: (backToKw pos (keywordEach r env)).filterMap (·.1) = _
      rw [z2]
    · show (false || (backToKw pos (keywordEach r env)).any (·.1.isNone)) = false
      rw [z3]; rfl
  | ⟨none, _, _⟩ :: _, _, h => by cases h
theorem mapM_some {α β : Type} {f : α → Option β} : ∀ {l : List α} {m : List β}, l.mapM f = some m → m.length = l.length ∧ ∀ (i : Nat) (a : α), l[i]? = some a → m[i]? = f a
  | [], m, h => by
    simp at h
    subst h
    exact ⟨rfl, fun i a h => by simp at h⟩
  | a :: l, m, h => by
    simp only [List.mapM_cons, Option.bind_eq_bind, Option.bind_eq_some_iff, Option.pure_def, Option.some.injEq] at h
    obtain ⟨b, hb, m', hm, rfl⟩ := h
    obtain ⟨z1, z2⟩ := mapM_some hm
    refine ⟨by simp [z1], fun i x hx => ?_⟩
    cases i with
    | zero => simp at hx; subst hx; simp [hb]
    | succ i => simpa using z2 i x (by simpa using hx)
theorem RepL.ofGet {W : Wd} : ∀ {vs : List V} {ds : List D}, vs.length = ds.length → (∀ (i : Nat) (v : V) (d : D), vs[i]? = some v → ds[i]? = some d → Rep c.fa W v d) → RepL c.fa W vs ds
  | [], [], _, _ => .nil
  | [], _ :: _, h, _ => by simp at h
  | _ :: _, [], h, _ => by simp at h
  | v :: vs, d :: ds, h, g => .cons (g 0 v d rfl rfl) (RepL.ofGet (by simpa using h) fun i v' d' h1 h2 => g (i + 1) v' d' (by simpa using h1) (by simpa using h2))
/-- the values by the parameters' order, as the table says -/
theorem arr_rep {W : Wd} {ps ks : List Str} {us ws : List Value} {vs zs : List V} {ds es fs : List D} (rv : Vals vs us) (rz : Vals zs ws) (rd : RepL c.fa W vs ds) (re : RepL c.fa W zs es) (hl : us.length + ks.length = ps.length) (hk : ks.length = ws.length)
    (hall : ∀ y ∈ ps.drop us.length, y ∈ ks) (hp : (permOf ps us.length ks).mapM (fun j => (ds ++ es)[j]?) = some fs) : ∃ xs, Vals xs (arr ps us (ks.zip ws)) ∧ RepL c.fa W xs fs := by
  obtain ⟨m1, m2⟩ := mapM_some hp
  have hfl : fs.length = ps.length := by rw [m1]; simp [permOf]
  have hul : us.length ≤ ps.length := by omega
  -- the value at each place
  have key : ∀ (i : Nat) (d : D), fs[i]? = some d → ∃ x u, (arr ps us (ks.zip ws))[i]? = some u ∧ RelV x u ∧ Rep c.fa W x d := by
    intro i d hd
    have hi : i < ps.length := by rw [← hfl]; exact (List.getElem?_eq_some_iff.mp hd).1
    have hpi : (permOf ps us.length ks)[i]? = some (if i < us.length then i else us.length + ks.idxOf (ps.getD i Str.empty)) := by
      unfold permOf
      rw [List.getElem?_map, List.getElem?_range hi]
      rfl
    have e := m2 i _ hpi
    rw [hd] at e
    unfold arr
    by_cases hu : i < us.length
    · rw [if_pos hu, List.getElem?_append_left (by rw [← rd.length, rv.length]; exact hu)] at e
      obtain ⟨x, h1, h2⟩ := rd.get e.symm
      obtain ⟨u, h3, h4⟩ := rv.get h1
      exact ⟨x, u, by rw [List.getElem?_append_left hu]; exact h3, h4, h2⟩
    · rw [if_neg hu] at e
      have hdl : ds.length = us.length := by rw [← rd.length, rv.length]
      rw [List.getElem?_append_right (by omega), show us.length + ks.idxOf (ps.getD i Str.empty) - ds.length = ks.idxOf (ps.getD i Str.empty) by omega] at e
      obtain ⟨x, h1, h2⟩ := re.get e.symm
      obtain ⟨u, h3, h4⟩ := rz.get h1
      refine ⟨x, u, ?_, h4, h2⟩
      have hpi' : ps[i]? = some (ps.getD i Str.empty) := by
        rw [List.getD_eq_getElem?_getD, List.getElem?_eq_getElem hi]
        rfl
      rw [List.getElem?_append_right (by omega), List.getElem?_map, List.getElem?_drop, show us.length + (i - us.length) = i by omega, hpi']
      have lk : ∀ {ks : List Str} {ws : List Value} {y : Str} {u : Value}, ws[ks.idxOf y]? = some u → ks.length = ws.length → (ks.zip ws).lookup y = some u := by
        intro ks
        induction ks with
        | nil =>
          intro ws y u h hl
          cases ws with
          | nil => simp at h
          | cons _ _ => simp at hl
        | cons a ks ih =>
          intro ws y u h hl
          cases ws with
          | nil => simp at hl
          | cons w ws =>
            rw [List.zip_cons_cons, List.lookup_cons]
            rw [List.idxOf_cons] at h
            by_cases hay : a = y
            · subst hay
              simp at h ⊢
              exact h
            · have z : (y == a) = false := by simpa using fun e => hay e.symm
              have z' : (a == y) = false := by simpa using hay
              rw [z]
              rw [z'] at h
              simp at h
              exact ih h (by simpa using hl)
      rw [Option.map_some, lk h3 hk]
      rfl
  have hal : (arr ps us (ks.zip ws)).length = fs.length := by unfold arr; rw [hfl]; simp; omega
  -- gather
  have gather : ∀ (us' : List Value) (fs' : List D), us'.length = fs'.length → (∀ (i : Nat) (d : D), fs'[i]? = some d → ∃ x u, us'[i]? = some u ∧ RelV x u ∧ Rep c.fa W x d) → ∃ xs, Vals xs us' ∧ RepL c.fa W xs fs' := by
    intro us'
    induction us' with
    | nil =>
      intro fs' hl _
      cases fs' with
      | nil => exact ⟨[], .nil, .nil⟩
      | cons _ _ => simp at hl
    | cons u us' ih =>
      intro fs' hl h
      cases fs' with
      | nil => simp at hl
      | cons f fs' =>
        obtain ⟨x, u2, h1, h2, h3⟩ := h 0 f rfl
        simp at h1
        subst h1
        obtain ⟨xs, h4, h5⟩ := ih fs' (by simpa using hl) fun i d hd => by simpa using h (i + 1) d (by simpa using hd)
        exact ⟨x :: xs, .cons h2 h4, .cons h3 h5⟩
  exact gather _ _ hal key
theorem s_callk {n : Nat} {es zs : Es} {p : List Nat} {f : Str} {as : List Expr} {kws : List Keyword} {ns : List Str} {pp pos : Pos} (O : Gok c Γ cf k) (G : GX c E N k sc X) (hg : isGl sc f = true) (hf : Γ.gf.lookup f = some n) (hn : noB es = true) (hz : noB zs = true)
    (ha : PA X as (tA c cf E es)) (hs : as.all notStar = true) (hkw : PK X kws (tA c cf E zs)) (hk : kwNames kws = some ns) (nd : ns.Nodup) (h1 : ∀ y ∈ ns, y ∈ (Γ.prm n).drop as.length) (h2 : ∀ y ∈ (Γ.prm n).drop as.length, y ∈ ns)
    (h3 : as.length + ns.length = (Γ.prm n).length) (hp : p = permOf (Γ.prm n) as.length ns) (hla : es.len = as.length) (hlz : zs.len = ns.length) : SE c cf E X (.callk n es zs p) (.Call (.Name f pp) as kws pos) := by
  obtain ⟨g1, g2⟩ := gl_of G hg
  obtain ⟨ad, fd, m1, m2, m3, F, B⟩ := O.gf f n hf
  obtain ⟨w1, w2, w3⟩ := kw_all (pos := pos) (env := X.env) hk
  refine .ofF ⟨fun pins s σ H Q I q => ?_⟩
  obtain ⟨W, ρ, h, kk, r, g⟩ := q
  simp only [evE] at g
  refine wpAny_Call_Name_kw (ld_glob I g1 (by rw [G.mg]; exact m1) ?_ g2)
  -- both lists of arguments
  have hA : tA c cf E es σ H fun vs H1 => vs.length = as.length ∧ tA c cf E zs σ H1 fun ys H2 => ys.length = ns.length ∧ ∃ W2 ds bs fs h2, Hok c.fa W2 H2 h2 ∧ RepL c.fa W2 vs ds ∧ RepL c.fa W2 ys bs ∧ p.mapM (fun j => (ds ++ bs)[j]?) = some fs ∧
      ∀ xs, RepL c.fa W2 xs fs → spF c cf n xs H2 Q E := by
    refine ⟨W, ρ, h, kk, r, (Gd.bind g).mono fun ds hh1 g3 vs H1 W1 e1 k1 r1 n1 l1 => ?_⟩
    have rl := n1 hn
    refine ⟨by rw [rl.length, l1, hla], W1, ρ, hh1, k1, r.ext e1, (Gd.bind (g3.ext e1)).mono fun bs hh2 g4 ys H2 W2 e2 k2 r2 n2 l2 => ?_⟩
    have rz := n2 hz
    obtain ⟨fs, hfs, g5⟩ := (Gd.bind g4).lift
    exact ⟨by rw [rz.length, l2, hlz], W2, ds, bs, fs, hh2, k2, e2.repL rl, rz, hfs, fun xs rx => ⟨W2, fs, hh2, k2, rx, (g5.ext e2).mono fun d h3 q v H3 W3 e3 k3 r3 => q v H3 W3 ((e1.trans e2).trans e3) k3 r3⟩⟩
  have fin : ∀ {us ws : List Value} {vs ys : List V} {H1 H2 : Hp} {s2 : Shared}, Inv X pins σ H2 s2 → Vals vs us → Vals ys ws → vs.length = as.length → (ys.length = ns.length ∧ ∃ W2 ds bs fs h2, Hok c.fa W2 H2 h2 ∧ RepL c.fa W2 vs ds ∧ RepL c.fa W2 ys bs ∧ p.mapM (fun j => (ds ++ bs)[j]?) = some fs ∧
      ∀ xs, RepL c.fa W2 xs fs → spF c cf n xs H2 Q E) → wpAny (model X.prog X.w) X.A (call (.ref ad) us (ns.zip ws)) (EP X pins σ Q) X.xe s2 := by
    intro us ws vs ys H1 H2 s2 I2 rv rz hl1 ⟨hl2, W2, ds, bs, fs, hh2, k2, rd, rb, hfs, sp⟩
    have hu : us.length = as.length := by rw [← rv.length, hl1]
    have hw : ns.length = ws.length := by rw [← rz.length, hl2]
    rw [hp, ← hu] at hfs
    obtain ⟨xs, x1, x2⟩ := arr_rep rv rz rd rb (by rw [hu]; exact h3) hw (by rw [hu]; exact h2) hfs
    exact run_fnG F G I2 (B s2 us ws ns (by rw [← G.K]; exact I2.kIn) nd hw (by rw [hu]; exact h1) (by rw [hu]; exact h2) (by rw [hu]; exact h3)) x1 (sp xs x2)
  cases as with
  | nil =>
    refine PySem.W.callWith_KW0 (h₀ := X.base) I.ok.mod.kin (by rw [G.K]; exact m3) w1 ?_ (by rw [w3]; rfl)
    obtain ⟨W', ρ', h', kk', r', g'⟩ := hA
    cases es with
    | cons _ _ => simp [Es.len] at hla
    | nil =>
      obtain ⟨_, q2⟩ := g' [] H W' (.refl _ _) kk' .nil (fun _ => .nil) rfl
      refine thn (hkw.run pos pins s σ H _ I q2) fun ws s2 ⟨ys, H2, I2, rz, q3⟩ => ⟨I2.kIn, ?_⟩
      rw [w2]
      exact fin (H1 := H) I2 .nil rz rfl q3
  | cons a as =>
    rw [List.all_cons, Bool.and_eq_true] at hs
    have hpl : ((backTo pos (starEach (a :: as) X.env)).any (·.1) || (backToKw pos (keywordEach kws X.env)).any (·.1.isNone)) = false := by
      rw [w3, star_any (by rw [List.all_cons, hs.1, hs.2]; rfl)]
      rfl
    refine PySem.W.callWith_KW (h₀ := X.base) I.ok.mod.kin (by rw [G.K]; exact m3) w1 (thn (ha.run pos pins s σ H _ I hA) fun us s1 ⟨vs, H1, I1, rv, hl1, q1⟩ => ?_) hpl (star_cons hs.1)
    refine thn (hkw.run pos pins s1 σ H1 _ I1 q1) fun ws s2 ⟨ys, H2, I2, rz, q3⟩ => ⟨I2.kIn, ?_⟩
    rw [w2]
    exact fin (H1 := H1) I2 rv rz hl1 q3
end
end Mn

namespace Mn
open PySem L2 PySem.Spec PyProof.Rows
section
variable {c : Cn} {Γ : Gam} {cf : Nat → List D → Hq → R D} {k : Nat} {E : XK} {N : List Str} {sc : Scope} {X : Cx}
theorem any_tail {pos : Pos} {env : PySem.Env} {e : Expr} {es : List Expr} (h : (e :: es).all notStar = true) : (backTo pos (starEach es env)).any (·.1) = false := by
  rw [List.all_cons, Bool.and_eq_true] at h
  exact star_any h.2
theorem s_no {e : Expr} : SE c cf E X .no e := by
  have hF : PE X e (tF c cf E .no) := ⟨fun pins s σ H Q I q => by
    obtain ⟨W, ρ, h, kk, r, g⟩ := q
    exact False.elim g⟩
  refine ⟨fun _ => hF, (fun z => Bool.noConfusion z), weakE hF fun _ _ _ q => tB_of_tF q, fun _ => ⟨fun pins s σ H Q I q => ?_⟩⟩
  obtain ⟨W, ρ, h, kk, r, g⟩ := q
  exact False.elim g
theorem s_bi {f : BI} {es : Es} {g : Str} {a : Expr} {as : List Expr} {p pos : Pos} (O : Gok c Γ cf k) (G : GX c E N k sc X) (hok : f.ok = true) (hg : isGl sc g = true) (hn : g = f.name) (hfr : Γ.fr.contains g = true)
    (ha : PA X (a :: as) (tA c cf E es)) (hs : (a :: as).all notStar = true) : SE c cf E X (.bi f es) (.Call (.Name g p) (a :: as) [] pos) := by
  have hu : X.A.units + 65 < cLine := by have := G.room.un; omega
  obtain ⟨g1, g2⟩ := gl_of G hg
  have hm : X.mg g = none := by rw [G.mg]; exact O.fr g hfr
  have hst : notStar a = true := by rw [List.all_cons, Bool.and_eq_true] at hs; exact hs.1
  have hne : f ≠ .sortedr := fun e => by rw [e] at hok; exact Bool.noConfusion hok
  have hr := bi_ok (fa := c.fa) (X := X) (by rw [G.K]; exact G.fk) G.calm G.gd hu f hne
  have fin : PE X (.Call (.Name g p) (a :: as) [] pos) (tCB (rBi c.fa f) (tA c cf E es)) := by
    cases f <;> first
      | exact absurd hok Bool.false_ne_true
      | (subst hn; exact pe_callB hr g1 hm (by decide +kernel) ha (by decide) g2 (star_cons hst) (any_tail hs))
      | (subst hn; exact pe_callTy hr g1 hm (by decide +kernel) ha (by decide) g2 (star_cons hst) (any_tail hs))
  refine .ofN (weakE fin fun σ H Q q => ?_)
  obtain ⟨W, ρ, h, kk, r, g⟩ := q
  simp only [evE] at g
  refine ⟨W, ρ, h, kk, r, (Gd.bind g).mono fun ds h1 g1 vs H1 W1 e1 k1 r1 _ _ => ?_⟩
  obtain ⟨d, hd, q⟩ := g1.lift
  exact ⟨W1, h1, ds, d, k1, r1, hd, fun v H' W' e' k' n => q v H' W' (e1.trans e') k' (n.back e1)⟩
/-! ### sorted(x, reverse=True) -/
def rSr (fa : FaT) : List V → List V → Hp → VK → Prop := fun xs zs H Q => zs = [.bl true] ∧ ∃ W h ds d, Hok fa W H h ∧ RdbL fa W H xs ds ∧ bi .sortedr ds = some d ∧ Kn fa W H h d Q
theorem cr_sr : CallRK X (.builtin "sorted") [Str.ofString "reverse"] (rSr c.fa) := by
  intro pins s σ H xs zs us ws Q I r rz hr
  obtain ⟨rfl, W, h, ds, d, kk, rs, e, q⟩ := hr
  obtain ⟨w1, rfl, e1⟩ := vals1 rz
  obtain rfl : w1 = Value.bool true := e1
  match ds, e with
  | [], e => cases e
  | _ :: _ :: _, e => cases e
  | [x], e =>
  have e : ((seqOf x).bind fun xs => (intsOf xs).map fun l => D.lst ((sortI l).reverse.map .int)) = some d := e
  rw [Option.bind_eq_some_iff] at e
  obtain ⟨ys, h1, e⟩ := e
  rw [Option.map_eq_some_iff] at e
  obtain ⟨l, h2, rfl⟩ := e
  obtain ⟨v, rfl, rv⟩ := rs.one
  obtain ⟨a, vs, rfl, rl, hq⟩ := rv.seq kk h1
  obtain rfl := rl.ints h2
  obtain rfl := Vals.ref1 r
  refine sorted_any (b := true) I hq (fun _ => rfl) (PyProof.Rows.args_sorted_rev _ _) (fun _ => PyProof.Rows.args_list_sort_rev _ _) fun p hp => ?_
  rw [if_pos rfl]
  rw [List.map_reverse] at *
  exact q.lst kk (by rw [← List.map_reverse, ← List.map_reverse]; exact repL_ints _) p hp
theorem s_sr {m : Mn.E} {g kn : Str} {a : Expr} {p p2 p3 pos : Pos} {j : Nat} (O : Gok c Γ cf k) (G : GX c E N k sc X) (hg : isGl sc g = true) (hn : g = "sorted") (hkn : kn = "reverse") (hfr : Γ.fr.contains g = true)
    (ha : SE c cf E X m a) (hs : notStar a = true) : SE c cf E X (.bi .sortedr (.cons m .nil)) (.Call (.Name g p) [a] [⟨some kn, .Constant (.bool true) j p2, p3⟩] pos) := by
  obtain ⟨g1, g2⟩ := gl_of G hg
  have hm : X.mg g = none := by rw [G.mg]; exact O.fr g hfr
  subst hn hkn
  have hA : PA X [a] (tA c cf E (.cons m .nil)) := sa_cons ha hs sa_nil
  refine .ofN (weakE (pe_callBK (ks := [Str.ofString "reverse"]) (cr_sr (c := c)) g1 hm (by decide +kernel) hA (pk_cons (nm := some (Str.ofString "reverse")) pe_bl pk_nil) (by decide) g2 (by show backTo pos (starEach [a] X.env) = _; rw [star_cons hs]; rfl) (star_any (by rw [List.all_cons, hs]; rfl))) fun σ H Q q => ?_)
  obtain ⟨W, ρ, h, kk, r, g⟩ := q
  simp only [evE] at g
  refine ⟨W, ρ, h, kk, r, (Gd.bind g).mono fun ds h1 g1 vs H1 W1 e1 k1 r1 _ _ => ?_⟩
  obtain ⟨d, hd, q⟩ := g1.lift
  exact ⟨rfl, W1, h1, ds, d, k1, r1, hd, fun v H' W' e' k' n => q v H' W' (e1.trans e') k' (n.back e1)⟩
end
end Mn

namespace HT
open PySem PySem.Spec PyProof.Rows
section
variable {prog : Program} {w : World} {A : Around} {E : Value → Shared → Prop} {s : Shared}
theorem sliceApplied_rev {sl : Addr} {u : Tok} {n : Nat} {Q : Int × Int × Nat → Shared → Prop} (hs : s.heap.IsSliceOf sl .none .none (.int (-1) u))
    (h : Q ((n : Int) - 1, -1, n) s) : wpAny (model prog w) A (Builtin.Slice.sliceApplied (.ref sl) (pure (n : Int))) Q E s := by
  obtain ⟨os, hos, hcs, hds⟩ := id hs
  unfold Builtin.Slice.sliceApplied Builtin.Slice.sliceFields
  refine wpAny_bind (wpAny_bind (wpAny_field hos hds (x := .none) rfl (wpAny_bind (wpAny_field hos hds (x := .none) rfl (wpAny_bind (wpAny_field hos hds (x := .int (-1) u) rfl (wpAny_pure ?_)))))))
  refine wpAny_bind (slicePart_int ?_)
  show wpAny _ _ (if ((-1 : Int) == 0) = true then _ else _) _ _ s
  rw [if_neg (by decide)]
  refine wpAny_bind (slicePart_none (wpAny_bind (slicePart_none (wpAny_bind (wpAny_pure ?_)))))
  show wpAny _ _ (pure ((n : Int) - 1, (-1 : Int), Builtin.Slice.slicePlaces ((n : Int) - 1) (-1) (-1))) _ _ s
  have e : Builtin.Slice.slicePlaces ((n : Int) - 1) (-1) (-1) = n := by
    unfold Builtin.Slice.slicePlaces
    rw [if_neg (by decide)]
    by_cases hn : (n : Int) - 1 > -1
    · rw [if_pos hn, show (- -1 : Int) = 1 by decide, Int.ediv_one]
      omega
    · rw [if_neg hn]
      have : n = 0 := by omega
      subst this
      rfl
  rw [e]
  exact wpAny_pure h
theorem pick_rev (xs : Array Value) : ((List.range xs.size).filterMap fun (m : Nat) => xs[((xs.size : Int) - 1 + (m : Int) * -1).toNat]?).toArray = xs.toList.reverse.toArray := by
  have e : (List.range xs.size).filterMap (fun (m : Nat) => xs[((xs.size : Int) - 1 + (m : Int) * -1).toNat]?) = ((List.range xs.size).map fun k => xs.size - 1 - k).filterMap (xs[·]?) := by
    have e2 : (List.range xs.size).map (fun k => xs.size - 1 - k) = (List.range xs.size).map (fun (m : Nat) => ((xs.size : Int) - 1 + (m : Int) * -1).toNat) := by
      refine List.map_congr_left fun m hm => ?_
      have := List.mem_range.mp hm
      omega
    rw [e2, List.filterMap_map]
    rfl
  rw [e, PySem.W.krv_range, List.filterMap_reverse, PySem.W.krv_all]
theorem getItem_tuple_rev {t sl : Addr} {items : Array Value} {u : Tok} {Q : Value → Shared → Prop} (ht : IsTup s.heap t items) (hs : s.heap.IsSliceOf sl .none .none (.int (-1) u))
    (h : Q (.ref s.heap.objs.size) { s with heap := s.heap.push { cls := .type "tuple", data := .seq items.toList.reverse.toArray } })
    (hsz : items.size ≤ sizeLine) : wpAny (model prog w) A (getItem (.ref t) (.ref sl)) Q E s := by
  have htake : sizeOk (.seq items.toList.reverse.toArray) := by
    show items.toList.reverse.toArray.size ≤ sizeLine
    rw [List.size_toArray, List.length_reverse, Array.length_toList]
    exact hsz
  obtain ⟨os, hos, hcs, hds⟩ := id hs
  have hTs : s.TypeIs (.ref sl) "slice" := ⟨os, hos, hcs⟩
  unfold getItem
  try with_reducible refine wpAny_holding ?_
  first | refine wpAny_bind (wpAny_pure ?_) | skip
  refine wpAny_bind (wpAny_sequenceKey ht.typeIs (by decide) ?_)
  refine wpAny_bind (wpAny_callSpecial?_slot (name := Str.ofString "__getitem__") ht.typeIs PyProof.Rows.slot_tuple_getitem
    (wpAny_call_entry PyProof.Rows.slot_tuple_getitem ht.typeIs entry_tuple_getitem ?_ (args_tuple_getitem _ _)))
  show wpAny _ _ (Builtin.Tuple.tupleItemsOf (.ref t) >>= _) _ _ s
  refine wpAny_bind (tupleItemsOf_ ht ?_)
  refine wpAny_bind (wpAny_typeOf hTs ?_)
  rw [if_pos (by decide)]
  refine wpAny_bind (sliceApplied_rev hs ?_)
  have hno : ¬ ((((items.size : Int) - 1) == 0 && (-1 : Int) == 1 && items.size == items.size) = true) := by
    intro q
    rw [Bool.and_eq_true, Bool.and_eq_true] at q
    exact absurd q.1.2 (by decide)
  show wpAny _ _ (if ((((items.size : Int) - 1) == 0 && (-1 : Int) == 1 && items.size == items.size) = true) then _ else _) _ _ s
  rw [if_neg hno, pick_rev]
  first
    | exact wpAny_bind (m := Builtin.Tuple.tupleExact _) (wpAny_newObj_type (wpAny_pure ⟨_, rfl, wpAny_pure h⟩) htake)
    | exact wpAny_bind (m := Builtin.Tuple.tupleExact _) (wpAny_newObj_type (wpAny_bind (wpAny_pure (wpAny_pure ⟨_, rfl, wpAny_pure h⟩))) htake)
    | exact wpAny_bind (wpAny_bind (m := Builtin.Tuple.tupleExact _) (wpAny_newObj_type (wpAny_pure (wpAny_pure ⟨_, rfl, wpAny_pure h⟩)) htake))
    | exact wpAny_bind (wpAny_bind (m := Builtin.Tuple.tupleExact _) (wpAny_newObj_type (wpAny_pure ⟨_, rfl, wpAny_pure h⟩) htake))
end
end HT
namespace Mn
open PySem L2 PySem.Spec PyProof.Rows
section
variable {X : Cx}
/-- xs[::-1], a list or a tuple -/
theorem pe_rev2 {e : Expr} {te : TE} {k : Nat} {p1 p2 p3 pos : Pos} (he : PE X e te) : PE X (.Subscript e (.Slice none none (some (.UnaryOp .USub (.Constant (.int 1) k p1) p2)) p3) pos) (fun σ H Q => te σ H fun x H1 => ∃ a xs, x = .ref a ∧
    ((SqL X.K H1 a xs ∧ ∀ p, H1 p = none → Q (.ref p) (upd H1 p (.lst xs.reverse))) ∨ (SqT X.K H1 a xs ∧ ∀ p, H1 p = none → Q (.ref p) (upd H1 p (.tup xs.reverse))))) := by
  refine ⟨fun pins s σ H Q I h => ?_⟩
  refine Subscript_ (thn (he.run pins s σ H _ I h) fun v s1 ⟨x, H1, I1, r1, q1⟩ => ?_)
  obtain ⟨a, xs, ex, q⟩ := q1
  subst ex
  cases r1
  have hst : PO X (some (.UnaryOp .USub (.Constant (.int 1) k p1) p2)) (tPart (tUn (rU fun i => .int (-i)) (tC (.int 1)))) := po_some (pe_un un_neg pe_int)
  refine wpAny_Slice (thn (po_none.run pins s1 σ H1 (fun o H2 => o = none ∧ H2 = H1) I1 ⟨rfl, rfl⟩) fun vl s2 ⟨l, H2, I2, pl, el, e2⟩ => ?_)
  subst el e2
  refine thn (po_none.run pins s2 σ H2 (fun o H3 => o = none ∧ H3 = H2) I2 ⟨rfl, rfl⟩) fun vu s3 ⟨u, H3, I3, pu, eu, e3⟩ => ?_
  subst eu e3
  refine thn (hst.run pins s3 σ H3 (fun o H4 => o = some (-1) ∧ H4 = H3) I3 ⟨1, rfl, -1, rfl, rfl, rfl⟩) fun vs s4 ⟨o, H4, I4, ps, eo, e4⟩ => ?_
  subst eo e4
  have I5 : Inv X pins σ H4 { s4 with heap := s4.heap.push { cls := .type "slice", data := .fields #[vl, vu, vs] } } := I4.kept (t' := s4.toks) fun b ob q => Heap.get?_push_of_some _ q
  show wpAny (model X.prog X.w) X.A (subscriptTail e (.Slice none none (some (.UnaryOp .USub (.Constant (.int 1) k p1) p2)) p3) (.ref a) (.ref s4.heap.objs.size)) (EP X pins σ Q) X.xe { s4 with heap := s4.heap.push { cls := .type "slice", data := .fields #[vl, vu, vs] } }
  rcases q with ⟨hx, q⟩ | ⟨hx, q⟩
  · obtain ⟨its, r, ht, hz⟩ := I5.list hx
    have hlen := r.length
    refine tail_any (ops := [.ref a, .ref s4.heap.objs.size]) ht.isList.typeIs (PySem.slot_list_getitem.lookup) ?_ (by with_unfolding_all rfl)
    refine wpAny_getItem_list_slice ht.isList (Heap.IsSliceOf.new _ vl vu vs) pl pu ps (by decide) ?_ (by rw [List.size_toArray]; omega)
    rw [PySem.W.krv_pick]
    refine ⟨.ref _, _, I5.laid (t' := s4.toks) (o := .lst xs.reverse) (fun b ob q => Heap.get?_push_of_some _ q) (Nat.le_refl _) ?_, rfl, q _ (I5.hok.fresh (Nat.le_refl _))⟩
    exact ⟨by rw [List.length_reverse]; exact hz, _, 0, r.reverse, Heap.get?_push_size _ rfl⟩
  · obtain ⟨its, r, ht, hz⟩ := I5.tuple hx
    have hlen := r.length
    cases pl
    cases pu
    cases ps with
    | int i t =>
      refine tail_any (ops := [.ref a, .ref s4.heap.objs.size]) ht.typeIs (PyProof.Rows.slot_tuple_getitem.lookup) ?_ (by with_unfolding_all rfl)
      refine HT.getItem_tuple_rev ht (Heap.IsSliceOf.new _ _ _ _) ?_ (by rw [List.size_toArray]; omega)
      refine ⟨.ref _, _, I5.laid (t' := s4.toks) (o := .tup xs.reverse) (fun b ob q => Heap.get?_push_of_some _ q) (Nat.le_refl _) ?_, rfl, q _ (I5.hok.fresh (Nat.le_refl _))⟩
      exact ⟨by rw [List.length_reverse]; exact hz, _, r.reverse, _, Heap.get?_push_size _ rfl, rfl, 0, rfl⟩
end
end Mn

namespace Mn
open PySem L2 PySem.Spec PyProof.Rows
section
variable {c : Cn} {Γ : Gam} {cf : Nat → List D → Hq → R D} {k : Nat} {E : XK} {N : List Str} {sc : Scope} {X : Cx}
/-! ### isinstance -/
def tyName : D → Option String
  | .non => some "NoneType"
  | .bl _ => some "bool"
  | .int _ => some "int"
  | .str _ => some "str"
  | .tup _ => some "tuple"
  | .lst _ => some "list"
  | _ => none
theorem isi_kit {t n : String} {d : D} {b : Bool} (ht : isiNames.contains t = true) (hn : tyName d = some n) (e : isi t d = some b) : kitB n t = some b := by
  have ht' : t = "int" ∨ t = "bool" ∨ t = "tuple" ∨ t = "str" ∨ t = "list" := by simpa [isiNames, List.contains_iff_mem] using ht
  cases d <;> first | (exfalso; simp [tyName] at hn; done) | skip
  all_goals
    simp only [tyName, Option.some.injEq] at hn
    subst hn
    rcases ht' with rfl | rfl | rfl | rfl | rfl <;> (simp only [isi, Option.some.injEq] at e; subst e; decide +kernel)
theorem ty_boot {t : String} (ht : isiNames.contains t = true) : bootBuiltins (Str.ofString t) = some (.type t) ∧ Str.ofString t ≠ "__name__" := by
  have ht' : t = "int" ∨ t = "bool" ∨ t = "tuple" ∨ t = "str" ∨ t = "list" := by simpa [isiNames, List.contains_iff_mem] using ht
  rcases ht' with rfl | rfl | rfl | rfl | rfl <;> exact ⟨by decide +kernel, by decide⟩
theorem rdb_ty {K : PySem.W.Frag} {W : Wd} {H : Hp} {h : Hq} (kk : Hok c.fa W H h) {v : V} {d : D} {n : String} (r : Rdb c.fa W H v d) (hn : tyName d = some n) : TyX K H v (.type n) := by
  cases d <;> first | (exfalso; simp [tyName] at hn; done) | skip
  all_goals simp only [tyName, Option.some.injEq] at hn; subst hn
  · cases r.flat (fun _ => by simp); exact .base .non
  · obtain rfl := r.bl; exact .base (.bl _)
  · obtain rfl := r.int; exact .base (.int _)
  · cases r.flat (fun _ => by simp); exact .base (.str _)
  · obtain ⟨a, vs, rfl, h1, _, _⟩ := r.tup kk; exact .base (.tup h1)
  · obtain ⟨a, vs, rfl, h1, _, _⟩ := r.lst kk; exact .base (.lst h1)
theorem isi_some {t : String} {d : D} {b : Bool} (e : isi t d = some b) : ∃ n, tyName d = some n := by
  cases d <;> first | exact ⟨_, rfl⟩ | (simp [isi] at e; done)
theorem s_isi {t : String} {m : Mn.E} {g t' : Str} {x : Expr} {p p2 pos : Pos} (O : Gok c Γ cf k) (G : GX c E N k sc X) (hg : isGl sc g = true) (hn : g = "isinstance") (hfr : Γ.fr.contains g = true) (ht : isiNames.contains t = true) (ht' : t' = Str.ofString t) (hg' : isGl sc t' = true)
    (hfr' : Γ.fr.contains t' = true) (ha : SE c cf E X m x) (hs : notStar x = true) : SE c cf E X (.isi t m) (.Call (.Name g p) [x, .Name t' p2] [] pos) := by
  obtain ⟨g1, g2⟩ := gl_of G hg
  obtain ⟨g3, g4⟩ := gl_of G hg'
  have hm : X.mg g = none := by rw [G.mg]; exact O.fr g hfr
  have hm' : X.mg t' = none := by rw [G.mg]; exact O.fr t' hfr'
  subst hn ht'
  obtain ⟨b1, b2⟩ := ty_boot ht
  have hA := pa_cons (es := [.Name (Str.ofString t) p2]) ha.b (pa_cons (pe_bltn (v := .ty t) (pos := p2) g3 hm' b1 rfl b2 g4) (pa_nil (X := X)) rfl) (star_cons hs)
  refine .ofF (weakE (pe_callB call_isi g1 hm PyProof.Rows.boot_isinstance hA (by decide) g2 (star_cons hs) rfl) fun σ H Q q => ?_)
  obtain ⟨W, ρ, h, kk, r, g⟩ := q
  simp only [evE] at g
  refine ⟨W, ρ, h, kk, r, (Gd.bind g).mono fun d1 h1 g1 v1 H1 W1 e1 k1 r1 => ?_⟩
  obtain ⟨d, hd, q⟩ := g1.lift
  rw [Option.map_eq_some_iff] at hd
  obtain ⟨b, hb, rfl⟩ := hd
  obtain ⟨n, hn⟩ := isi_some hb
  exact ⟨v1, .ty t, .type n, .type t, b, rfl, .ty t, rdb_ty k1 r1 hn, kit_ty (isi_kit ht hn hb), q _ H1 W1 e1 k1 (.bl _)⟩
/-! ### displays -/
theorem s_tup {es : Es} {as : List Expr} {z : _} {pos : Pos} (hn : noB es = true) (hl : es.len ≤ 1000) (ha : PA X as (tA c cf E es)) : SE c cf E X (.tup es) (.Tuple as z pos) := by
  refine .ofF (weakE (pe_tup ha) fun σ H Q q => ?_)
  obtain ⟨W, ρ, h, kk, r, g⟩ := q
  simp only [evE] at g
  refine ⟨W, ρ, h, kk, r, (Gd.bind g).mono fun ds h1 g1 vs H1 W1 e1 k1 r1 n1 l1 => ?_⟩
  have rl := n1 hn
  refine ⟨by rw [rl.length, l1, sizeLine_eq]; omega, fun p hp => ?_⟩
  obtain ⟨e2, k2⟩ := new_ext (o := .tup vs) k1 hp
  exact g1 _ _ (W1.put p (.tup vs)) (e1.trans e2) k2 (.tup (by show upd W1.F p _ p = _; rw [upd_same]) (e2.repL rl))
theorem s_lst {es : Es} {as : List Expr} {pos : Pos} (hn : noB es = true) (hl : es.len ≤ 1000) (ha : PA X as (tA c cf E es)) : SE c cf E X (.lst es) (.List as pos) := by
  refine .ofN (weakE (pe_lst ha) fun σ H Q q => ?_)
  obtain ⟨W, ρ, h, kk, r, g⟩ := q
  simp only [evE] at g
  refine ⟨W, ρ, h, kk, r, (Gd.bind g).mono fun ds h1 g1 vs H1 W1 e1 k1 r1 n1 l1 => ?_⟩
  have rl := n1 hn
  refine ⟨by rw [rl.length, l1, sizeLine_eq]; omega, fun p hp => ?_⟩
  obtain ⟨e2, k2, _, _⟩ := fresh_ext (o := .lst vs) k1 hp
  exact g1 _ _ W1 (e1.trans e2) k2 ((ResN.newLst e1 k1 hp rl))
/-- a list that is a changing object from now on -/
theorem cell_ext {W : Wd} {H : Hp} {h : Hq} {p : Addr} {vs : List V} {ds : List D} (k : Hok c.fa W H h) (hp : H p = none) (r : RepL c.fa W vs ds) : Ext W H ⟨W.F, W.C ++ [p]⟩ (upd H p (.lst vs)) ∧ Hok c.fa ⟨W.F, W.C ++ [p]⟩ (upd H p (.lst vs)) (h ++ [.lst ds]) := by
  obtain ⟨e1, k1, hn, hc⟩ := fresh_ext (o := .lst vs) k hp
  have hm : ∀ {vs : List V} {ds : List D}, RepL c.fa W vs ds → RepL c.fa ⟨W.F, W.C ++ [p]⟩ vs ds := fun r => RepL.mono (W := W) (W' := ⟨W.F, W.C ++ [p]⟩) (fun _ _ h => h) (fun n a h => by
    show (W.C ++ [p])[n]? = some a
    rw [List.getElem?_append_left (List.getElem?_eq_some_iff.mp h).1]; exact h) r
  refine ⟨⟨e1.f, ⟨[p], rfl, fun a ha => ?_⟩, e1.k, e1.n, e1.t, e1.u⟩, ⟨k1.sub, ?_, ?_, fun i a es h1 h2 => ?_, fun a ha => ?_, k1.tab, k1.nf⟩⟩
  · rw [List.mem_singleton] at ha; rw [ha]; exact hp
  · show (W.C ++ [p]).length = _
    rw [List.length_append, List.length_append, k.len]; rfl
  · show (W.C ++ [p]).Nodup
    rw [List.nodup_append]
    exact ⟨k.nd, by simp, fun a ha b hb => by rw [List.mem_singleton] at hb; subst hb; exact fun e => hc (e ▸ ha)⟩
  · have h1 : (W.C ++ [p])[i]? = some a := h1
    by_cases hi : i < W.C.length
    · rw [List.getElem?_append_left hi] at h1
      rw [List.getElem?_append_left (by rw [← k.len]; exact hi)] at h2
      obtain ⟨us, e2, r2⟩ := k1.cell i a es h1 h2
      exact ⟨us, e2, hm r2⟩
    · rw [List.getElem?_append_right (by omega)] at h1
      rw [List.getElem?_append_right (by rw [← k.len]; omega), ← k.len] at h2
      have hi0 : i - W.C.length = 0 := by
        have := (List.getElem?_eq_some_iff.mp h1).1
        simpa using this
      rw [hi0] at h1 h2
      simp at h1 h2
      subst h1 h2
      exact ⟨vs, upd_same, hm r⟩
  · have ha : a ∈ W.C ++ [p] := ha
    rcases List.mem_append.mp ha with z | z
    · exact k1.cf a z
    · rw [List.mem_singleton] at z
      subst z
      exact ⟨hn, by rw [upd_same]; simp⟩
theorem s_cell {es : Es} {as : List Expr} {pos : Pos} (hn : noB es = true) (hl : es.len ≤ 1000) (ha : PA X as (tA c cf E es)) : SE c cf E X (.cell es) (.List as pos) := by
  refine .ofF (weakE (pe_lst ha) fun σ H Q q => ?_)
  obtain ⟨W, ρ, h, kk, r, g⟩ := q
  simp only [evE] at g
  refine ⟨W, ρ, h, kk, r, (Gd.bind g).mono fun ds h1 g1 vs H1 W1 e1 k1 r1 n1 l1 => ?_⟩
  have rl := n1 hn
  refine ⟨by rw [rl.length, l1, sizeLine_eq]; omega, fun p hp => ?_⟩
  obtain ⟨e2, k2⟩ := cell_ext k1 hp rl
  refine g1 _ _ _ (e1.trans e2) k2 (.cell ?_)
  show (W1.C ++ [p])[h1.length]? = some p
  rw [← k1.len]
  simp
/-! ### items -/
theorem at_get {α : Type} {xs : List α} {i : Int} {v : α} (h : at_ xs i = some v) : ∃ j, Mn.ixN xs.length i = some j ∧ xs[j]? = some v := by
  unfold at_ at h
  rw [Option.bind_eq_some_iff] at h
  exact h
theorem ixN_eq (n : Nat) (i : Int) : Mn.ixN n i = L2.ixN n i := rfl
theorem repL_at {W : Wd} {vs : List V} {ds : List D} {i : Int} {d : D} (r : RepL c.fa W vs ds) (h : at_ ds i = some d) : ∃ v, atI vs i = some v ∧ Rep c.fa W v d := by
  obtain ⟨j, h1, h2⟩ := at_get h
  obtain ⟨v, h3, h4⟩ := r.get h2
  refine ⟨v, ?_, h4⟩
  unfold atI
  rw [← ixN_eq, r.length, h1]
  exact h3
theorem ix_rule {K : PySem.W.Frag} {W : Wd} {H : Hp} {h : Hq} {v u : V} {x i d : D} {Q : VK} (hK : c.fa.K = K) (kk : Hok c.fa W H h) (rx : Rdb c.fa W H v x) (ri : Rdb c.fa W H u i) (e : ixD x i h = some d) (q : ∀ v, Rep c.fa W v d → Q v H) : (rIxL K v u H Q ∨ rIxT K v u H Q) ∨ ∃ a w, v = .ref a ∧ DGet H a u (some w) ∧ Q w H := by
  unfold ixD at e
  split at e
  · obtain rfl := ri.int
    obtain ⟨a, vs, rfl, h1, _, h3⟩ := rx.tup kk
    obtain ⟨w, h4, h5⟩ := repL_at h3 e
    exact .inl <| .inr ⟨a, vs, _, w, rfl, rfl, .inl (.of h1), h4, q w h5⟩
  · obtain rfl := ri.int
    obtain ⟨a, vs, rfl, h1, _, h3⟩ := rx.lst kk
    obtain ⟨w, h4, h5⟩ := repL_at h3 e
    exact .inl <| .inl ⟨a, vs, _, w, rfl, rfl, .inl (.of h1), h4, q w h5⟩
  · obtain rfl := ri.int
    cases rx.flat (fun _ => by simp) with
    | frl hf r =>
      obtain ⟨w, h4, h5⟩ := repL_at r e
      exact .inl <| .inl ⟨_, _, _, w, rfl, rfl, hf.sql kk hK, h4, q w h5⟩
  · rw [Option.bind_eq_some_iff] at e
    obtain ⟨o, e1, e2⟩ := e
    have e2 : o = some d := e2
    subst e2
    obtain ⟨a, r, rfl, _, hg, h1, _⟩ := dget_of kk rx ri e1
    obtain ⟨w, rfl, rw'⟩ := h1 d rfl
    exact .inr ⟨a, w, rfl, hg, q w rw'⟩
  · rw [Option.bind_eq_some_iff] at e
    obtain ⟨o, e1, e2⟩ := e
    have e2 : o = some d := e2
    subst e2
    obtain ⟨a, r, rfl, _, hg, h1, _⟩ := dget_of kk rx ri e1
    obtain ⟨w, rfl, rw'⟩ := h1 d rfl
    exact .inr ⟨a, w, rfl, hg, q w rw'⟩
  · obtain rfl := ri.int
    cases rx.flat (fun _ => by simp) with
    | cell hc =>
      split at e
      · rename_i xs hx
        obtain ⟨vs, h1, r⟩ := kk.cell _ _ _ hc hx
        obtain ⟨w, h4, h5⟩ := repL_at r e
        exact .inl <| .inl ⟨_, vs, _, w, rfl, rfl, .inl (.of h1), h4, q w h5⟩
      · cases e
  · cases e
theorem plainIx_of {b : Expr} (h : plIx b = true) : PlainIx b := by
  cases b <;> first | (intro o i; rfl) | (exact Bool.noConfusion h)
theorem s_ix {a i : Mn.E} {x y : Expr} {pos : Pos} (G : GX c E N k sc X) (ha : SE c cf E X a x) (hi : SE c cf E X i y) (hp : plIx y = true) : SE c cf E X (.ix a i) (.Subscript x y pos) := by
  have hu : X.A.units + 1 < cLine := by have := G.room.un; omega
  refine .ofF (weakE (pe_ix ((ix_list.or ix_tup).or (ix_dct hu)) ha.b hi.b (plainIx_of hp)) fun σ H Q q => ?_)
  obtain ⟨W, ρ, h, kk, r, g⟩ := q
  simp only [evE] at g
  refine two_parts kk r g fun v1 v2 d1 d2 H2 W2 h2 e k2 r1 r2 g2 => ?_
  obtain ⟨d, hd, q⟩ := g2.lift
  exact ix_rule (by rw [G.K]; exact G.fk) k2 r1 r2 hd fun v rv => q v H2 W2 e k2 rv
/-! ### slices -/
theorem lim_eq (n d : Nat) (o : Option Int) : lim n d o = HT.sIx n d o := by
  cases o <;> rfl
theorem cut_rep {W : Wd} {vs : List V} {ds : List D} (r : RepL c.fa W vs ds) (lo hi : Option Int) : RepL c.fa W (cutV vs lo hi) (cut ds lo hi) := by
  unfold cutV cut
  rw [lim_eq, lim_eq, ← r.length]
  exact (r.drop _).take _
theorem cut_rule {K : PySem.W.Frag} {W : Wd} {H : Hp} {h : Hq} {v : V} {x d : D} {lo hi : Option Int} {Q : VK} (hK : c.fa.K = K) (kk : Hok c.fa W H h) (rx : Rdb c.fa W H v x) (e : cutD lo hi x = some d) (q : Kn c.fa W H h d Q) : rSlL K v lo hi H Q ∨ rSlA K v lo hi H Q := by
  unfold cutD at e
  split at e
  · cases e
    obtain ⟨a, vs, rfl, h1, h2, r⟩ := rx.tup kk
    refine .inr ⟨a, vs, rfl, .inl (.of h1), fun hw => ?_, fun _ p hp => q.tup kk (cut_rep r lo hi) p hp⟩
    have ec : cut ‹List D› lo hi = ‹List D› := by
      unfold cut
      rw [lim_eq, lim_eq, ← r.length, hw.1, hw.2, List.drop_zero, Nat.sub_zero, r.length, List.take_length]
    rw [ec] at q
    exact q.flat kk (.tup h2 r)
  · cases e
    obtain ⟨a, vs, rfl, h1, _, r⟩ := rx.lst kk
    exact .inl ⟨a, vs, rfl, .inl (.of h1), fun p hp => q.lst kk (cut_rep r lo hi) p hp⟩
  · cases e
    cases rx.flat (fun _ => by simp) with
    | frl hf r => exact .inl ⟨_, _, rfl, hf.sql kk hK, fun p hp => q.lst kk (cut_rep r lo hi) p hp⟩
  · cases e
theorem int_of {d : D} {i : Int} (h : intOf d = some i) : d = .int i := by
  cases d <;> simp [intOf] at h
  rw [h]
theorem s_slab {a lo hi : Mn.E} {x l u : Expr} {p2 pos : Pos} (G : GX c E N k sc X) (ha : SE c cf E X a x) (hl : SE c cf E X lo l) (hu : SE c cf E X hi u) : SE c cf E X (.slab a lo hi) (.Subscript x (.Slice (some l) (some u) none p2) pos) := by
  refine .ofN (weakE (pe_slice (sl_list.or sl_tupA) ha.b (po_some hl.b) (po_some hu.b)) fun σ H Q q => ?_)
  obtain ⟨W, ρ, h, kk, r, g⟩ := q
  simp only [evE] at g
  refine ⟨W, ρ, h, kk, r, (Gd.bind g).mono fun d1 h1 g1 v1 H1 W1 e1 k1 r1 => ?_⟩
  refine ⟨W1, ρ, h1, k1, r.ext e1, (Gd.bind (g1.ext e1)).mono fun d2 h2 g2 v2 H2 W2 e2 k2 r2 => ?_⟩
  obtain ⟨i, hi', g5⟩ := (Gd.bind g2).lift
  obtain rfl := int_of hi'
  refine ⟨i, r2.int, W2, ρ, h2, k2, (r.ext e1).ext e2, (Gd.bind (g5.ext e2)).mono fun d3 h3 g3 v3 H3 W3 e3 k3 r3 => ?_⟩
  obtain ⟨j, hj', g6⟩ := (Gd.bind g3).lift
  obtain rfl := int_of hj'
  obtain ⟨d, hd, q⟩ := g6.lift
  have ee := (e1.trans e2).trans e3
  exact ⟨j, r3.int, cut_rule (by rw [G.K]; exact G.fk) k3 ((r1.ext e2).ext e3) hd fun v H' W' e' k' n => q v H' W' (ee.trans e') k' (n.back ee)⟩
theorem s_sla {a lo : Mn.E} {x l : Expr} {p2 pos : Pos} (G : GX c E N k sc X) (ha : SE c cf E X a x) (hl : SE c cf E X lo l) : SE c cf E X (.sla a lo) (.Subscript x (.Slice (some l) none none p2) pos) := by
  refine .ofN (weakE (pe_slice (sl_list.or sl_tupA) ha.b (po_some hl.b) po_none) fun σ H Q q => ?_)
  obtain ⟨W, ρ, h, kk, r, g⟩ := q
  simp only [evE] at g
  refine ⟨W, ρ, h, kk, r, (Gd.bind g).mono fun d1 h1 g1 v1 H1 W1 e1 k1 r1 => ?_⟩
  refine ⟨W1, ρ, h1, k1, r.ext e1, (Gd.bind (g1.ext e1)).mono fun d2 h2 g2 v2 H2 W2 e2 k2 r2 => ?_⟩
  obtain ⟨i, hi', g5⟩ := (Gd.bind g2).lift
  obtain rfl := int_of hi'
  obtain ⟨d, hd, q⟩ := g5.lift
  have ee := e1.trans e2
  exact ⟨i, r2.int, cut_rule (by rw [G.K]; exact G.fk) k2 (r1.ext e2) hd fun v H' W' e' k' n => q v H' W' (ee.trans e') k' (n.back ee)⟩
theorem s_slb {a hi : Mn.E} {x u : Expr} {p2 pos : Pos} (G : GX c E N k sc X) (ha : SE c cf E X a x) (hu : SE c cf E X hi u) : SE c cf E X (.slb a hi) (.Subscript x (.Slice none (some u) none p2) pos) := by
  refine .ofN (weakE (pe_slice (sl_list.or sl_tupA) ha.b po_none (po_some hu.b)) fun σ H Q q => ?_)
  obtain ⟨W, ρ, h, kk, r, g⟩ := q
  simp only [evE] at g
  refine ⟨W, ρ, h, kk, r, (Gd.bind g).mono fun d1 h1 g1 v1 H1 W1 e1 k1 r1 => ?_⟩
  refine ⟨W1, ρ, h1, k1, r.ext e1, (Gd.bind (g1.ext e1)).mono fun d2 h2 g2 v2 H2 W2 e2 k2 r2 => ?_⟩
  obtain ⟨i, hi', g5⟩ := (Gd.bind g2).lift
  obtain rfl := int_of hi'
  obtain ⟨d, hd, q⟩ := g5.lift
  have ee := e1.trans e2
  exact ⟨i, r2.int, cut_rule (by rw [G.K]; exact G.fk) k2 (r1.ext e2) hd fun v H' W' e' k' n => q v H' W' (ee.trans e') k' (n.back ee)⟩
theorem s_rev {a : Mn.E} {x : Expr} {j : Nat} {p1 p2 p3 pos : Pos} (ha : SE c cf E X a x) : SE c cf E X (.rev a) (.Subscript x (.Slice none none (some (.UnaryOp .USub (.Constant (.int 1) j p1) p2)) p3) pos) := by
  refine .ofN (weakE (pe_rev2 ha.b) fun σ H Q q => ?_)
  obtain ⟨W, ρ, h, kk, r, g⟩ := q
  simp only [evE] at g
  refine ⟨W, ρ, h, kk, r, (Gd.bind g).mono fun d1 h1 g1 v1 H1 W1 e1 k1 r1 => ?_⟩
  split at g1
  · obtain ⟨a, vs, rfl, h2, _, rl⟩ := r1.lst k1
    refine ⟨a, vs, rfl, .inl ⟨.inl (.of h2), fun p hp => ?_⟩⟩
    obtain ⟨e2, k2, _, _⟩ := fresh_ext (o := .lst vs.reverse) k1 hp
    exact g1 _ _ W1 (e1.trans e2) k2 (ResN.newLst e1 k1 hp rl.reverse)
  · obtain ⟨a, vs, rfl, h1, h2, rl⟩ := r1.tup k1
    refine ⟨a, vs, rfl, .inr ⟨.inl (.of h1), fun p hp => ?_⟩⟩
    obtain ⟨e2, k2⟩ := new_ext (o := .tup vs.reverse) k1 hp
    have hn : W1.F p = none := by
      cases z : W1.F p with
      | none => rfl
      | some u => rw [k1.sub p u z] at hp; cases hp
    exact g1 _ _ _ (e1.trans e2) k2 (.inl ⟨.tup (by show upd W1.F p _ p = _; rw [upd_same]) (rl.reverse.put hn), rfl⟩)
  · exact False.elim g1
/-! ### list(range(..)), tuple(range(..)) -/
theorem repL_rg {W : Wd} (i j : Int) : RepL c.fa W (rgV i j) (range2 i j) := by
  unfold rgV range2
  generalize List.range (j - i).toNat = l
  induction l with
  | nil => exact .nil
  | cons n l ih => exact .cons (.int _) ih
theorem rg_ok {i j : Int} (hi : okR i = true) (hj : okR j = true) : RgOk i j := by
  simp only [okR, Bool.and_eq_true, decide_eq_true_eq] at hi hj
  exact ⟨by omega, by omega, by omega, by omega, by omega⟩
/-- a new row of ints -/
theorem lrg_fin {W1 W : Wd} {H H1 : Hp} {h1 : Hq} {t : Bool} {i j : Int} {Q : VK} (e1 : Ext W H W1 H1) (k1 : Hok c.fa W1 H1 h1) (q : ∀ v H' W', Ext W H W' H' → Hok c.fa W' H' h1 → ResN c.fa W H W' H' v (seqD t (range2 i j)) → Q v H') : ∀ p, H1 p = none → Q (.ref p) (upd H1 p (if t = true then .tup (rgV i j) else .lst (rgV i j))) := fun p hp => by
  cases t with
  | true =>
    obtain ⟨e2, k2⟩ := new_ext (o := .tup (rgV i j)) k1 hp
    exact q _ _ _ (e1.trans e2) k2 (.inl ⟨.tup (by show upd W1.F p _ p = _; rw [upd_same]) (repL_rg i j), rfl⟩)
  | false =>
    obtain ⟨e2, k2, _, _⟩ := fresh_ext (o := .lst (rgV i j)) k1 hp
    exact q _ _ W1 (e1.trans e2) k2 (ResN.newLst e1 k1 hp (repL_rg i j))
theorem s_lrg {t : Bool} {a b : Mn.E} {f g : Str} {x y : Expr} {p p2 pos pos2 : Pos} (O : Gok c Γ cf k) (G : GX c E N k sc X) (hf : isGl sc f = true) (hn : f = (if t then "tuple" else "list")) (hfr : Γ.fr.contains f = true) (hg : isGl sc g = true) (hgn : g = "range") (hgr : Γ.fr.contains g = true)
    (ha : SE c cf E X a x) (hb : SE c cf E X b y) (hx : notStar x = true) (hy : notStar y = true) : SE c cf E X (.lrg t a b) (.Call (.Name f p) [.Call (.Name g p2) [x, y] [] pos2] [] pos) := by
  obtain ⟨f1, _⟩ := gl_of G hf
  obtain ⟨g1, _⟩ := gl_of G hg
  have hmf : X.mg f = none := by rw [G.mg]; exact O.fr f hfr
  have hmg : X.mg g = none := by rw [G.mg]; exact O.fr g hgr
  subst hgn
  have hR := prg_2 (p := p2) (pos := pos2) g1 hmg ha.b hb.b (star_cons hx) (star_cons hy) (star_any (by rw [List.all_cons, hy]; rfl))
  have key : ∀ σ H Q, tN c cf E (.lrg t a b) σ H Q → tRg2 (tB c cf E a) (tB c cf E b) σ H fun i j H1 => RgOk i j ∧ ∀ q, H1 q = none → Q (.ref q) (upd H1 q (if t = true then .tup (rgV i j) else .lst (rgV i j))) := fun σ H Q q => by
    obtain ⟨W, ρ, h, kk, r, g⟩ := q
    simp only [evE] at g
    refine two_parts (Q := fun x y H2 => ∃ i j, x = .int i ∧ y = .int j ∧ _) kk r g fun v1 v2 d1 d2 H2 W2 h2 e k2 r1 r2 g2 => ?_
    obtain ⟨d, hd, q⟩ := g2.lift
    rw [Option.bind_eq_some_iff] at hd
    obtain ⟨i, hi, hd⟩ := hd
    rw [Option.bind_eq_some_iff] at hd
    obtain ⟨j, hj, hd⟩ := hd
    obtain rfl := int_of hi
    obtain rfl := int_of hj
    split at hd
    · rename_i hok
      obtain ⟨o1, o2⟩ := Bool.and_eq_true_iff.mp hok
      cases hd
      exact ⟨i, j, r1.int, r2.int, rg_ok o1 o2, lrg_fin e k2 q⟩
    · cases hd
  cases t with
  | true =>
    subst hn
    exact .ofN (weakE (pe_tupRg G.calm f1 hmf hR rfl) key)
  | false =>
    subst hn
    exact .ofN (weakE (pe_listRg G.calm f1 hmf hR rfl) key)
theorem s_lrg1 {t : Bool} {a : Mn.E} {f g : Str} {x : Expr} {p p2 pos pos2 : Pos} (O : Gok c Γ cf k) (G : GX c E N k sc X) (hf : isGl sc f = true) (hn : f = (if t then "tuple" else "list")) (hfr : Γ.fr.contains f = true) (hg : isGl sc g = true) (hgn : g = "range") (hgr : Γ.fr.contains g = true)
    (ha : SE c cf E X a x) (hx : notStar x = true) : SE c cf E X (.lrg1 t a) (.Call (.Name f p) [.Call (.Name g p2) [x] [] pos2] [] pos) := by
  obtain ⟨f1, _⟩ := gl_of G hf
  obtain ⟨g1, _⟩ := gl_of G hg
  have hmf : X.mg f = none := by rw [G.mg]; exact O.fr f hfr
  have hmg : X.mg g = none := by rw [G.mg]; exact O.fr g hgr
  subst hgn
  have hR := prg_1 (p := p2) (pos := pos2) g1 hmg ha.b (star_cons hx)
  have key : ∀ σ H Q, tN c cf E (.lrg1 t a) σ H Q → tRg1 (tB c cf E a) σ H fun i j H1 => RgOk i j ∧ ∀ q, H1 q = none → Q (.ref q) (upd H1 q (if t = true then .tup (rgV i j) else .lst (rgV i j))) := fun σ H Q q => by
    obtain ⟨W, ρ, h, kk, r, g⟩ := q
    simp only [evE] at g
    refine ⟨W, ρ, h, kk, r, (Gd.bind g).mono fun d1 h1 g1 v1 H1 W1 e1 k1 r1 => ?_⟩
    obtain ⟨d, hd, q⟩ := g1.lift
    rw [Option.bind_eq_some_iff] at hd
    obtain ⟨i, hi, hd⟩ := hd
    obtain rfl := int_of hi
    split at hd
    · rename_i hok
      cases hd
      exact ⟨i, r1.int, rg_ok (by decide) hok, lrg_fin e1 k1 q⟩
    · cases hd
  cases t with
  | true =>
    subst hn
    exact .ofN (weakE (pe_tupRg G.calm f1 hmf hR rfl) key)
  | false =>
    subst hn
    exact .ofN (weakE (pe_listRg G.calm f1 hmf hR rfl) key)
/-! ### methods of lists -/
theorem notSup_base {o : Expr} {nm : Str} {env : PySem.Env} (h : notSup o = true) : attributeBase o nm env (eval o env) = eval o env := by
  cases o with
  | Call f as ks p =>
    cases as with
    | nil => exact Bool.noConfusion h
    | cons a as => cases f <;> rfl
  | _ => rfl
theorem first_at {x : D} : ∀ {ds : List D} {n : Nat}, firstAt x ds = some n → ∃ z, ds[n]? = some z ∧ D.eqv z x = true ∧ ∀ (m : Nat) (z' : D), m < n → ds[m]? = some z' → D.eqv z' x = false
  | [], n, h => by cases h
  | y :: r, n, h => by
    unfold firstAt at h
    by_cases hy : D.eqv y x = true
    · rw [if_pos hy] at h
      cases h
      exact ⟨y, rfl, hy, fun m z' hm => absurd hm (by omega)⟩
    · rw [if_neg hy, Option.map_eq_some_iff] at h
      obtain ⟨n', h1, rfl⟩ := h
      obtain ⟨z, h2, h3, h4⟩ := first_at h1
      refine ⟨z, by simpa using h2, h3, fun m z' hm hz => ?_⟩
      cases m with
      | zero => simp at hz; subst hz; simpa using hy
      | succ m => exact h4 m z' (by omega) (by simpa using hz)
theorem s_index {a b : Mn.E} {x y : Expr} {nm : Str} {apos pos : Pos} (hn : nm = "index") (ha : SE c cf E X a x) (hb : SE c cf E X b y) (hs : notStar y = true) (hl : (apos.endLine == pos.line) = true) (hx : notSup x = true) : SE c cf E X (.mt .index a (.cons b .nil)) (.Call (.Attribute x nm apos) [y] [] pos) := by
  subst hn
  have hA : PA X [y] (tA c cf E (.cons b .nil)) := sa_cons hb hs sa_nil
  refine .ofF (weakE (pe_bm PySem.F.plainAttrs_list PySem.F.slot_list_index PySem.F.type_list_index mt_index ha.b hA (notSup_base hx) (by rw [star_cons hs]; rfl) hl (star_cons hs) rfl) fun σ H Q q => ?_)
  obtain ⟨W, ρ, h, kk, r, g⟩ := q
  simp only [evE] at g
  refine ⟨W, ρ, h, kk, r, (Gd.bind g).mono fun d1 h1 g1 v1 H1 W1 e1 k1 r1 => ?_⟩
  obtain ⟨_, hr, g1⟩ := (Gd.bind g1).lift
  have hd1 : ∃ ds, d1 = .lst ds := by
    cases d1 <;> first | exact ⟨_, rfl⟩ | cases hr
  obtain ⟨ds, rfl⟩ := hd1
  obtain ⟨p, vs, rfl, hp, hpc, rl⟩ := r1.lst k1
  refine ⟨.inl ⟨rfl, vs, .inl (.of hp)⟩, W1, ρ, h1, k1, r.ext e1, (Gd.bind (g1.ext e1)).mono fun es h2 g2 us H2 W2 e2 k2 r2 n2 l2 => ?_⟩
  match es, l2, g2, r2 with
  | [e], _, g2, r2 =>
    obtain ⟨d, hd, q⟩ := g2.lift
    have hd : (if flat e && ds.all flat then (firstAt e ds).map fun n : Nat => D.int ((n : Nat) : Int) else none) = some d := hd
    split at hd
    · rename_i hf
      rw [Bool.and_eq_true] at hf
      rw [Option.map_eq_some_iff] at hd
      obtain ⟨n, hn, rfl⟩ := hd
      obtain ⟨u, rfl, ru⟩ := r2.one
      have ru' : Rep c.fa W2 u e := ru.flat (fun ds z => by rw [z] at hf; exact Bool.noConfusion hf.1) (flat_top hf.1)
      obtain ⟨z, z1, z2, z3⟩ := first_at hn
      have rl2 := e2.repL rl
      obtain ⟨w, w1, w2⟩ := rl2.get z1
      have fz : ∀ {m : Nat} {z : D}, ds[m]? = some z → flat z = true := fun h => List.all_eq_true.mp hf.2 _ (List.mem_of_getElem? h)
      refine ⟨p, vs, u, n, w, rfl, rfl, .inl (.of (e2.k _ _ hp hpc (fun _ z => by cases z))), rep_flatV ru' hf.1, repL_flatV rl2 hf.2, w1, by rw [rep_eqV w2 ru' (fz z1) hf.1]; exact z2, fun m z' hm hz => ?_, q _ H2 W2 (e1.trans e2) k2 (.int _)⟩
      obtain ⟨y', y1, y2⟩ := rl2.getV hz
      rw [rep_eqV y2 ru' (fz y1) hf.1]
      exact z3 m y' hm y1
    · cases hd
theorem s_count {a b : Mn.E} {x y : Expr} {nm : Str} {apos pos : Pos} (hn : nm = "count") (ha : SE c cf E X a x) (hb : SE c cf E X b y) (hs : notStar y = true) (hl : (apos.endLine == pos.line) = true) (hx : notSup x = true) : SE c cf E X (.mt .count a (.cons b .nil)) (.Call (.Attribute x nm apos) [y] [] pos) := by
  subst hn
  have hA : PA X [y] (tA c cf E (.cons b .nil)) := sa_cons hb hs sa_nil
  refine .ofF (weakE (pe_bm PySem.F.plainAttrs_list PySem.F.slot_list_count PySem.F.type_list_count mt_lcount ha.b hA (notSup_base hx) (by rw [star_cons hs]; rfl) hl (star_cons hs) rfl) fun σ H Q q => ?_)
  obtain ⟨W, ρ, h, kk, r, g⟩ := q
  simp only [evE] at g
  refine ⟨W, ρ, h, kk, r, (Gd.bind g).mono fun d1 h1 g1 v1 H1 W1 e1 k1 r1 => ?_⟩
  obtain ⟨_, hr, g1⟩ := (Gd.bind g1).lift
  have hd1 : ∃ ds, d1 = .lst ds := by
    cases d1 <;> first | exact ⟨_, rfl⟩ | cases hr
  obtain ⟨ds, rfl⟩ := hd1
  obtain ⟨p, vs, rfl, hp, hpc, rl⟩ := r1.lst k1
  refine ⟨.inl ⟨rfl, vs, .inl (.of hp)⟩, W1, ρ, h1, k1, r.ext e1, (Gd.bind (g1.ext e1)).mono fun es h2 g2 us H2 W2 e2 k2 r2 n2 l2 => ?_⟩
  match es, l2, g2, r2 with
  | [e], _, g2, r2 =>
    obtain ⟨d, hd, q⟩ := g2.lift
    cases e with
    | int i =>
      have hd : ((intsOf ds).map fun l => D.int (l.count i)) = some d := hd
      rw [Option.map_eq_some_iff] at hd
      obtain ⟨l, hl, rfl⟩ := hd
      obtain ⟨u, rfl, ru⟩ := r2.one
      obtain rfl := ru.int
      obtain rfl := rl.ints hl
      exact ⟨p, l, i, rfl, rfl, .inl (.of (e2.k _ _ hp hpc (fun _ z => by cases z))), q _ H2 W2 (e1.trans e2) k2 (.int _)⟩
    | _ => cases hd
/-! ### d.get(k, z) -/
theorem isD_of {W : Wd} {H : Hp} {h : Hq} (k : Hok c.fa W H h) {v : V} {d : D} (r : Rdb c.fa W H v d) (hd : isDct d = true) : ∃ a, v = .ref a ∧ IsD H a := by
  obtain ⟨a, u, rfl, hr, o⟩ := r.dct k hd
  cases u <;> first | exact ⟨a, rfl, .inl ⟨_, hr⟩⟩ | exact ⟨a, rfl, .inr ⟨_, hr⟩⟩ | exact False.elim o
theorem s_get {a b z : Mn.E} {x y w : Expr} {nm : Str} {apos pos : Pos} (G : GX c E N k sc X) (hn : nm = "get") (ha : SE c cf E X a x) (hb : SE c cf E X b y) (hz : SE c cf E X z w) (hzb : isB z = false) (hs : notStar y = true) (hs' : notStar w = true) (hl : (apos.endLine == pos.line) = true) (hx : notSup x = true) :
    SE c cf E X (.mt .get a (.cons b (.cons z .nil))) (.Call (.Attribute x nm apos) [y, w] [] pos) := by
  subst hn
  have hu : X.A.units + 1 < cLine := by have := G.room.un; omega
  have m : M2 X x "get" apos y w pos := ⟨notSup_base hx, by rw [star_cons hs, star_cons hs']; rfl, hl, by rw [star_cons hs, star_cons hs']; rfl⟩
  refine .ofF (weakE (pe_dget2 hu ha.b hb.b (hz.f hzb) m) fun σ H Q q => ?_)
  obtain ⟨W, ρ, h, kk, r, g⟩ := q
  simp only [evE, evEs] at g
  refine ⟨W, ρ, h, kk, r, (Gd.bind g).mono fun d1 h1 g1 v1 H1 W1 e1 k1 r1 => ?_⟩
  obtain ⟨_, hr, g1⟩ := (Gd.bind g1).lift
  have hd : isDct d1 = true := by cases d1 <;> first | rfl | cases hr
  obtain ⟨ad, rfl, isd⟩ := isD_of k1 r1 hd
  refine ⟨ad, rfl, isd, W1, ρ, h1, k1, r.ext e1, (Gd.bind ((Gd.bind g1).ext e1)).mono fun d2 h2 g2 v2 H2 W2 e2 k2 r2 => ?_⟩
  refine ⟨W2, ρ, h2, k2, (r.ext e1).ext e2, (Gd.bind ((Gd.bind g2).ext e2)).mono fun d3 h3 g3 v3 H3 W3 e3 k3 r3 => ?_⟩
  have g3 : Gd c E W2 H2 (R.ok [d3] h3) _ := g3
  obtain ⟨d, hd3, q⟩ := Gd.lift (show Gd c E W H (liftO (mt .get d1 [d2, d3]) h3) _ from g3)
  have hk : ∃ o, lookD d1 d2 = some o ∧ d = o.getD d3 := by
    cases d1 <;> first | exact Bool.noConfusion hd | skip
    all_goals
      have hd3 : (lookD _ d2).map (fun o : Option D => o.getD d3) = some d := hd3
      rw [Option.map_eq_some_iff] at hd3
      obtain ⟨o, e1, e2⟩ := hd3
      exact ⟨o, e1, e2.symm⟩
  obtain ⟨o, ho, rfl⟩ := hk
  obtain ⟨a', rr, ea, _, hg, z1, z2⟩ := dget_of k3 ((r1.ext e2).ext e3) (r2.ext e3) ho
  cases ea
  refine ⟨rr, hg, ?_⟩
  have ee := (e1.trans e2).trans e3
  cases o with
  | some d =>
    obtain ⟨w, rfl, rw'⟩ := z1 d rfl
    exact q w H3 W3 ee k3 rw'
  | none =>
    obtain rfl := z2 rfl
    exact q v3 H3 W3 ee k3 r3
/-! ### new dicts -/
def tD (c : Cn) (cf : Nat → List D → Hq → R D) (E : XK) (m : Mn.E) : TE := fun σ H Q => ∃ W ρ h, Hok c.fa W H h ∧ Sr c.fa W H σ ρ ∧ Gd c E W H (evE cf m ρ h) fun d h' => ∀ v H' W', Ext W H W' H' → Hok c.fa W' H' h' → (∃ p, v = .ref p ∧ H p = none ∧ W'.F p = none ∧ p ∉ W'.C ∧ OwnD c.fa W' H' p d) → Q v H'
/-- a dict that is let be from now on: its object is locked -/
theorem lock_ext {W W' : Wd} {H H' : Hp} {h : Hq} {p : Addr} {o : Obj} {u : HO} {d : D} (e : Ext W H W' H') (k : Hok c.fa W' H' h) (hp : H p = none) (hn : W'.F p = none) (hc : p ∉ W'.C) (hu : H' p = some u) (ob : DOb c.fa W' u d) :
    Ext W H (W'.put p (.frz o u)) (upd H' p (.frz o u)) ∧ Hok c.fa (W'.put p (.frz o u)) (upd H' p (.frz o u)) h ∧ Rep c.fa (W'.put p (.frz o u)) (.ref p) d ∧ (∀ a x, W'.F a = some x → (W'.put p (.frz o u)).F a = some x) := by
  have sub : ∀ a x, W'.F a = some x → (W'.put p (.frz o u)).F a = some x := fun a x h => by show upd W'.F p (.frz o u) a = some x; rw [upd_ne (ne_of_none h hn)]; exact h
  refine ⟨⟨fun a x h => sub a x (e.f a x h), e.c, fun a x h hcc hnt => ?_, fun a y h1 h0 h2 => ?_, fun a h1 => ?_, fun a y h1 h0 vs z => e.u a y h1 h0 vs (by rw [upd_ne (ne_of_none h1 hp)] at z; exact z)⟩, ⟨fun a x h => ?_, k.len, k.nd, fun i a ds h1 h2 => ?_, fun a ha => ?_, tab_upd k.tab fun x e => by rw [hu] at e; cases e; exact ob.noT, nf_put k.nf fun _ z => by cases z⟩, ?_, sub⟩
  · rw [upd_ne (ne_of_none h hp)]; exact e.k a x h hcc hnt
  · have hne : a ≠ p := fun z => by rw [z, hp] at h1; cases h1
    show upd W'.F p _ a = none
    rw [upd_ne hne]; exact e.n a y h1 h0 h2
  · by_cases z : a = p
    · subst z; rw [upd_same]; simp
    · rw [upd_ne z]; exact e.t a h1
  · by_cases hap : a = p
    · subst hap
      have h' : upd W'.F a (.frz o u) a = some x := h
      rw [upd_same] at h' ⊢
      exact h'
    · have h' : upd W'.F p (.frz o u) a = some x := h
      rw [upd_ne hap] at h' ⊢
      exact k.sub a x h'
  · obtain ⟨vs, e1, r⟩ := k.cell i a ds h1 h2
    have hne : a ≠ p := fun z => hc (by rw [← z]; exact List.mem_of_getElem? h1)
    exact ⟨vs, by rw [upd_ne hne]; exact e1, r.put hn⟩
  · have hne : a ≠ p := fun z => hc (by rw [← z]; exact ha)
    refine ⟨?_, by rw [upd_ne hne]; exact (k.cf a ha).2⟩
    show upd W'.F p _ a = none
    rw [upd_ne hne]; exact (k.cf a ha).1
  · have at_ : (W'.put p (.frz o u)).F p = some (.frz o u) := by show upd W'.F p _ p = _; rw [upd_same]
    cases u <;> cases d <;> first | exact False.elim ob | exact .dI at_ ob.1 (ob.2.put hn) | exact .dT at_ ob.1 (ob.2.put hn)
theorem pe_frzD {m : Mn.E} {e : Expr} (h : PE X e (tD c cf E m)) : PE X e (tF c cf E m) := by
  refine ⟨fun pins s σ H Q I q => ?_⟩
  obtain ⟨W, ρ, hq, kk, r, g⟩ := q
  refine thn (h.run pins s σ H (fun v H1 => ∃ p u, v = .ref p ∧ H1 p = some u ∧ Mut (some u) ∧ ∀ o : Obj, Q v (upd H1 p (.frz o u))) I ⟨W, ρ, hq, kk, r, g.mono fun d h' z v H' W' e1 k1 n => ?_⟩) fun v s1 ⟨x, H1, I1, rx, p, u, ep, hp, mu, q⟩ => ?_
  · obtain ⟨p, rfl, h1, h2, h3, u, hu, ob⟩ := n
    refine ⟨p, u, rfl, hu, ob.mut, fun o => ?_⟩
    obtain ⟨l1, l2, l3, _⟩ := lock_ext (o := o) e1 k1 h1 h2 h3 hu ob
    exact z _ _ _ l1 l2 l3
  · obtain ⟨od, I2⟩ := I1.lock hp mu
    exact ⟨x, _, I2, rx, q od⟩
theorem SE.ofD {m : Mn.E} {e : Expr} (h : PE X e (tD c cf E m)) (hn : isN m = false := by rfl) (he : plainTest e = true := by rfl) : SE c cf E X m e := .ofF (pe_frzD h) hn he
theorem pe_dnew_t {t : Bool} {pos : Pos} : PE X (.Dict [] [] pos) (tD c cf E (.dnew t)) := by
  cases t with
  | false =>
    refine weakE pe_dnewK fun σ H Q q p hp => ?_
    obtain ⟨W, ρ, h, kk, r, g⟩ := q
    obtain ⟨e1, k1, hn, hc⟩ := fresh_ext (o := .dK []) kk hp
    exact g _ _ W e1 k1 ⟨p, rfl, hp, hn, hc, _, upd_same, rfl, .nil⟩
  | true =>
    refine weakE pe_dnewT fun σ H Q q p hp => ?_
    obtain ⟨W, ρ, h, kk, r, g⟩ := q
    obtain ⟨e1, k1, hn, hc⟩ := fresh_ext (o := .dT []) kk hp
    exact g _ _ W e1 k1 ⟨p, rfl, hp, hn, hc, _, upd_same, rfl, .nil⟩
theorem pe_ddisp_t {a b : Mn.E} {x y : Expr} {pos : Pos} (ha : SE c cf E X a x) (hb : SE c cf E X b y) (na : isB a = false) (nb : isB b = false) : PE X (.Dict [some x] [y] pos) (tD c cf E (.ddisp false a b)) := by
  refine weakE (pe_disp (pps_cons (ha.f na) (hb.f nb) pps_nil) rfl rfl (by simp) (by simp)) fun σ H Q q p hp => ?_
  obtain ⟨W, ρ, h, kk, r, g⟩ := q
  simp only [evE] at g
  obtain ⟨e0, k0, hn, hc⟩ := fresh_ext (o := .dK []) kk hp
  refine ⟨W, ρ, h, k0, r.ext e0, (Gd.bind (g.ext e0)).mono fun d1 h1 g1 v1 H1 W1 e1 k1 r1 => ?_⟩
  refine ⟨W1, ρ, h1, k1, (r.ext e0).ext e1, (Gd.bind (g1.ext e1)).mono fun d2 h2 g2 v2 H2 W2 e2 k2 r2 => ?_⟩
  obtain ⟨d, hd, q⟩ := g2.lift
  have hd : (intOf d1).map (fun k => D.dI [k] [d2]) = some d := hd
  rw [Option.map_eq_some_iff] at hd
  obtain ⟨i, hi, rfl⟩ := hd
  obtain rfl := int_of hi
  obtain rfl := r1.int_inv
  have ee := e1.trans e2
  have hp2 : H2 p = some (.dK []) := ee.k p _ upd_same hc (fun _ z => by cases z)
  have hc2 := ee.notC upd_same hc
  have hn2 : W2.F p = none := ee.n p _ upd_same (fun _ z => by cases z) hn
  obtain ⟨e3, k3⟩ := own_upd (o := .dK [(.inl i, v2)]) (e0.trans ee) k2 hp hn2 hc2 hp2 ⟨fun _ z => (by cases z), fun _ z => (by cases z), fun _ z => (by cases z)⟩
  refine ⟨hp2, [(.inl i, v2)], rfl, by simp, ?_⟩
  exact q _ _ W2 e3 k3 ⟨p, rfl, hp, hn2, hc2, _, upd_same, rfl, .cons r2 .nil⟩
end
end Mn


namespace Mn
open PySem L2 PySem.Spec PyProof.Rows PySem.AutoSeq1
/-! ### xs.extend(t), t a tuple -/
theorem ext_tup (l : Addr) (items : Array Value) (n : Nat) (b : Addr) (items2 : Array Value) (n2 : Nat) (dd : Option Addr) (sl : Array (Option Value)) (hs0 : ¬(!items.isEmpty && Builtin.List.listTooLong (items.size + items2.size)) = true) (hs1 : items.size ≤ sizeLine) (hs2 : items.size + items2.size ≤ sizeLine + 1) :
    Meets (Builtin.«list.extend» ⟨[.ref l, .ref b], []⟩) (fun _ R s => s.heap.get? l = some { cls := .type "list", dict := none, data := .seq items n, slots := #[] } ∧ s.heap.get? b = some { cls := .type "tuple", dict := dd, data := .seq items2 n2, slots := sl } ∧ R (.ok (.ret Value.none)) { s with heap := s.heap.update l (Obj.mapSeq fun x => x ++ items2), toks := s.toks }) :=
  .of_wp fun prog w A R s h => by
    obtain ⟨hp, g, d, tk, os⟩ := s
    obtain ⟨hl, hb, h⟩ := h
    have f1 := AutoSeq1.idx_int
    have f2 := AutoSeq1.sub_tuple_tuple
    have f3 := AutoSeq1.sub_list_list
    have f4 := AutoSeq1.sub_tuple_list
    have f5 := AutoSeq1.sub_list_tuple
    have hz : (items ++ items2).size ≤ sizeLine + 1 := by rw [Array.size_append]; exact hs2
    wp_walk using (wpAny_updateSeq hl rfl (hz := hs1) (_hz' := hz)), wpAny_loadPart' hb, wpAny_loadPart' hl
    exact ⟨_, rfl, h⟩
/-- xs.extend(ys), ys a list or a tuple -/
def rExtA : V → List V → Hp → VK → Prop := fun x vs H Q => ∃ l b xs zs, x = .ref l ∧ vs = [.ref b] ∧ H l = some (.lst xs) ∧ (H b = some (.lst zs) ∨ H b = some (.tup zs)) ∧ xs.length + zs.length ≤ sizeLine ∧ Q .non (upd H l (.lst (xs ++ zs)))
theorem mt_extA {X : Cx} : MtM X "list.extend" rExtA := by
  intro pins s σ H x vs v us Q I rx rv h
  obtain ⟨l, b, xs, zs, rfl, rfl, hH, hB, hz, q⟩ := h
  rcases hB with hB | hB
  · exact mt_extend pins s σ H _ _ v us Q I rx rv ⟨l, b, xs, zs, rfl, rfl, hH, hB, hz, q⟩
  cases rx
  obtain ⟨u, rfl, ru⟩ := rv.one
  cases ru
  obtain ⟨z, its, n, r, hl, e⟩ := I.lstM hH
  obtain ⟨its2, r2, p2, z2⟩ := I.tuple (.inl (.of hB))
  obtain ⟨⟨cls, dd, data, sl⟩, e2, hc, n2, hd⟩ := p2
  dsimp only at hc hd
  subst hc hd
  have hl2 := r2.length
  have hsz : its.toArray.size + its2.toArray.size ≤ sizeLine := by rw [List.size_toArray, List.size_toArray]; omega
  have hlong : ¬ (!its.toArray.isEmpty && Builtin.List.listTooLong (its.toArray.size + its2.toArray.size)) = true := by
    rw [notLongL hsz, Bool.and_false]
    exact Bool.false_ne_true
  refine call_meets F.slot_list_extend ⟨_, e, rfl⟩ F.entry_list_extend (F.args_list_extend_2 _ _)
    (ext_tup l its.toArray n b its2.toArray n2 dd sl hlong (by rw [List.size_toArray]; omega) (by omega)) ⟨e, e2, ?_⟩
  refine ⟨.non, _, I.lset (its' := its ++ its2) hH e (by simp) (r.append r2) ?_, rfl, q⟩
  rw [List.length_append]
  omega
/-! ### enumerate(t), t a tuple -/
theorem enum_newT (l : Addr) (items : Array Value) (n : Nat) (dct : Option Addr) (sl : Array (Option Value)) :
    Meets (Builtin.«enumerate.__new__» ⟨[.type "enumerate", .ref l], []⟩) (fun _ R s => s.heap.get? l = some { cls := .type "tuple", dict := dct, data := .seq items n, slots := sl } ∧
      R (.ok (.ret (.ref (s.heap.push { cls := .type "tuple_iterator", data := .fields #[.ref l, .int 0 0] }).objs.size)))
        { s with heap := (s.heap.push { cls := .type "tuple_iterator", data := .fields #[.ref l, .int 0 0] }).push { cls := .type "enumerate", data := .fields #[.none, .bool false, .ref s.heap.objs.size, rawInt 0, .none, .none] } }) :=
  .of_wp fun prog w A R s h => by
    obtain ⟨hp, g, d, tk, os⟩ := s
    obtain ⟨hl, h⟩ := h
    have hsub := sub_enumerate
    have hL : Heap.IsTuple (Shared.heap ⟨hp, g, d, tk, os⟩) l items := ⟨_, hl, rfl, n, rfl⟩
    wp_walk using wpAny_loadPart' hl
    refine wpAny_stack_any fun st => wpAny_pure ?_
    split
    · rename_i c _ _ _ _ _
      cases (c == Value.type "enumerate")
      · wp_walk using wpAny_pyIter_tuple hL, wpAny_loadPart' hl
        exact ⟨_, rfl, h⟩
      · wp_walk using wpAny_pyIter_tuple hL, wpAny_loadPart' hl
        exact ⟨_, rfl, h⟩
    · wp_walk using wpAny_pyIter_tuple hL, wpAny_loadPart' hl
      exact ⟨_, rfl, h⟩
theorem call_enumT {prog : Program} {w : World} {A : Around} {E : Value → Shared → Prop} {s : Shared} {l : Addr} {items : Array Value} {Q : Value → Shared → Prop} (hL : s.heap.IsTuple l items)
    (h : ∀ h', IsEnum h' (s.heap.objs.size + 1) s.heap.objs.size 0 .none → h'.IsTupleIter s.heap.objs.size l 0 → (∀ b o, s.heap.get? b = some o → h'.get? b = some o) → Q (.ref (s.heap.objs.size + 1)) { s with heap := h' }) :
    wpAny (model prog w) A (call (.type "enumerate") [.ref l]) Q E s := by
  obtain ⟨⟨c, dct, dt, sl⟩, hl, hc, n, hd⟩ := hL
  dsimp only at hc hd
  subst hc hd
  refine callType_new F.called_enumerate (by decide) (F.typeCall_enumerate_1 _) (F.newCall_enumerate_1 _) (fun obj => F.args_object_init_2 obj _) F.entry_enumerate_new (enum_newT l items n dct sl) ⟨hl, ?_⟩
  have hz : (s.heap.push { cls := .type "tuple_iterator", data := .fields #[.ref l, .int 0 0] }).objs.size = s.heap.objs.size + 1 := Heap.size_push ..
  show _ ∧ _
  rw [hz]
  have he : IsEnum ((s.heap.push { cls := .type "tuple_iterator", data := .fields #[.ref l, .int 0 0] }).push
      { cls := .type "enumerate", data := .fields #[.none, .bool false, .ref s.heap.objs.size, rawInt 0, .none, .none] }) (s.heap.objs.size + 1) s.heap.objs.size 0 .none := by
    have q := Heap.get?_push_size (s.heap.push { cls := .type "tuple_iterator", data := .fields #[.ref l, .int 0 0] })
      (o := { cls := .type "enumerate", data := .fields #[.none, .bool false, .ref s.heap.objs.size, rawInt 0, .none, .none] }) rfl
    rw [hz] at q
    exact q
  exact ⟨⟨_, he, rfl⟩, h _ he ⟨_, Heap.get?_push_of_some _ (Heap.get?_push_size _ rfl), rfl, rfl⟩ fun b o x => Heap.get?_push_of_some _ (Heap.get?_push_of_some _ x)⟩
/-- the tuple at a, each item in a new pair -/
def IteT (K : PySem.W.Frag) (a : Addr) : L2.It :=
  ⟨fun i H => ∃ (xs : List V) (x : V), SqT K H a xs ∧ xs[i]? = some x, fun i H v H' => ∃ T x, v = .ref T ∧ H T = none ∧ H' = upd H T (.tup [.int (i : Nat), x]) ∧ ∀ xs, SqT K H a xs → xs[i]? = some x, fun i H => ∃ xs : List V, SqT K H a xs ∧ xs.length ≤ i⟩
theorem sqt_inj {X : Cx} {pins : List (Addr × Obj)} {σ : L2.St} {H : Hp} {s : Shared} {a : Addr} {xs ys : List V} (I : Inv X pins σ H s) (h : SqT X.K H a xs) (h' : SqT X.K H a ys) : xs = ys := I.tuple_inj h h'
theorem wpAny_pyNext_enum_itemE {prog : Program} {w : World} {A : Around} {E : Value → Shared → Prop} {s : Shared} {e it t : Addr} {i : Nat} {items : Array Value} {old : Value} {Q : Option Value → Shared → Prop} (hh : A.handled = none) (he : IsEnum s.heap e it i old) (hit : s.heap.IsTupleIter it t i) (ht : s.heap.IsTuple t items) (hne : t ≠ it) (hl : items.size ≤ i)
    (hQ : ∀ h', Heap.ExtBut it s.heap h' → Q none { s with heap := h' }) : wpAny (model prog w) A (pyNext (.ref e)) Q E s := by
  have D : Draws prog w A.in1 it [it, t] i (fun _ _ => False) (fun j h => j = i ∧ h.IsTupleIter it t i ∧ h.IsTuple t items) :=
    ⟨fun j h st => ⟨_, st.2.1.choose_spec.1⟩, fun j h h' st hk => ⟨st.1, st.2.1.at fun o q => hk it (by simp) o q, st.2.2.at fun o q => hk t (by simp) o q⟩, fun j s Q E hj st _ => by
      rw [st.1] at hj; exact absurd hj (Nat.lt_irrefl _), fun s Q E st hE => wpAny_nextOf_tuple_end hh st.2.1 st.2.2 (Array.getElem?_eq_none hl) hE⟩
  exact wpAny_pyNext_enum_endD D he ⟨rfl, hit, ht⟩ hQ
theorem turn_enumT {P : Program} {w : World} {K : PySem.W.Frag} {elts : List Expr} {kk : Nat} {tpos : Pos} (a e it : Addr) :
    Turn P w K (.Tuple elts kk tpos) (IteT K a) [e, it] e (fun i h => (∃ old, IsEnum h e it ((i : Nat) : Int) old) ∧ h.IsTupleIter it a i ∧ e ≠ it ∧ a ≠ it ∧ a ≠ e) where
  mem := List.mem_cons_self
  obj := fun i h st b hb => by
    obtain ⟨⟨old, he⟩, ⟨o, ho, hc, hd⟩, _⟩ := st
    rcases (show b = e ∨ b = it by simpa using hb) with z | z <;> rw [z]
    · exact ⟨_, he, fun v q => nomatch q⟩
    · exact ⟨o, ho, fun v q => by rw [hd] at q; cases q⟩
  keep := fun i h h' ⟨⟨old, he⟩, hi, hne⟩ k => ⟨⟨old, k e (by simp) _ he⟩, hi.at fun o q => k it (by simp) o q, hne⟩
  item := by
    intro X hP hw hK hc i pins s σ H E I hf st hg
    subst hP hw hK
    obtain ⟨⟨old, he⟩, hit, hne, hai, hae⟩ := st
    obtain ⟨xs, x, hq, hx⟩ := hg
    obtain ⟨its, rv, p, hz⟩ := I.tuple hq
    obtain ⟨u, hu, ru⟩ := rv.get hx
    have hel := Heap.lt_size he
    have hil : it < s.heap.objs.size := by obtain ⟨_, q, _⟩ := hit; exact Heap.lt_size q
    have hlt : i < its.toArray.size := by
      rw [List.size_toArray]; exact (List.getElem?_eq_some_iff.mp hu).1
    refine wpAny_pyNext_enum_itemD (Draws.tuple (prog := X.prog) (w := X.w) (A := X.A.in1) (I.ok.hd hc) it a hai its.toArray) he ⟨hit, p⟩ hlt hne (by simp [hne, Ne.symm hae]) fun y h' tk hy ho hit' hT hsz hk => ?_
    have ey : y = u := by
      have hy : its.toArray[i]? = some y := hy
      rw [List.getElem?_toArray, hu] at hy
      exact (Option.some.inj hy).symm
    subst ey
    refine ⟨_, rfl, wpAny_letOwnedTupleGo_enum (s := { s with heap := h', toks := tk + 1 }) ho fun h'' he' sb => ?_⟩
    have hT2 := (sb.2 _ (Nat.ne_of_gt hel)).trans hT
    have new : ObjOk X.prog X.w (upd H s.heap.objs.size (.tup [.int (i : Nat), x])) h'' s.heap.objs.size (.tup [.int (i : Nat), x]) := ⟨by show 2 ≤ sizeLine; decide, [.int i tk, y], .cons ⟨_, rfl⟩ (.cons ru .nil), ⟨_, hT2, rfl, _, rfl⟩⟩
    have I1 : Inv X pins σ (upd H s.heap.objs.size (.tup [.int (i : Nat), x])) { s with heap := h'', toks := tk + 1 } :=
      I.turnedNew (ch := [e, it]) (fun b ob hb q => (sb.2 b (fun z => hb (by simp [z]))).trans (hk b ob (fun z => hb (by simp [z])) (fun z => hb (by simp [z])) q)) hf (Nat.le_refl _) new
    refine ⟨.ref s.heap.objs.size, _, I1, rfl, ⟨_, x, rfl, I.hok.fresh (Nat.le_refl _), rfl, fun ys hy => by rw [sqt_inj I hy hq]; exact hx⟩, ⟨⟨y, ?_⟩, hit'.1.at fun o q => (sb.2 it (Ne.symm hne)).trans q, hne, hai, hae⟩, fun b hb => ?_⟩
    · rw [Int.natCast_succ]; exact he'
    · have hb' : b < s.heap.objs.size := by
        rcases (show b = e ∨ b = it by simpa using hb) with z | z <;> rw [z]
        · exact hel
        · exact hil
      rw [upd_ne (Nat.ne_of_lt hb')]
      exact (hf b hb).1
  done := by
    intro X hP hw hK hc i pins s σ H E I hf st hg
    subst hP hw hK
    obtain ⟨⟨old, he⟩, hit, hne, hai, hae⟩ := st
    obtain ⟨xs, hq, hx⟩ := hg
    obtain ⟨its, rv, p, hz⟩ := I.tuple hq
    obtain ⟨f0, f1, f2, f3, f4, f5⟩ := hf it (by simp)
    have hl := rv.length
    refine wpAny_pyNext_enum_itemE (I.ok.hd hc) he hit p hai (by rw [List.size_toArray]; omega) fun h' eb => ⟨rfl, I.turned (t' := s.toks) (fun b o hb q => eb b o hb q) f0 f1 f3 f4 f5⟩
  self := fun A i s Q E ⟨⟨_, he⟩, _⟩ h => wpAny_pyIter_enum he h
theorem pi_enumT {X : Cx} {e : Expr} {ta : TA} {p pos tpos : Pos} {elts : List Expr} {kk : Nat} (hg : Gl X "enumerate") (hm : X.mg "enumerate" = none) (ha : PA X [e] ta) (hs : starEach [e] X.env = [(false, eval e X.env)]) :
    PI X (.Tuple elts kk tpos) (.Call (.Name "enumerate" p) [e] [] pos) (fun σ H R => ta σ H fun vs H1 => ∃ a xs, vs = [.ref a] ∧ ((SqL X.K H1 a xs ∧ R (Ite X.K a) H1) ∨ (SqT X.K H1 a xs ∧ R (IteT X.K a) H1))) := by
  refine ⟨fun pins s σ H R I h => ?_⟩
  refine Call_ (ld_blt I hg hm boot_enumerate (PyProof.Rows.callWith_type1 (thn (ha.run pos pins s σ H _ I h) fun us s1 ⟨vs, H1, I1, r1, a, xs, ex, q1⟩ => ?_) hs rfl))
  subst ex
  obtain rfl := Vals.ref1 r1
  have fp : ∀ b ∈ [s1.heap.objs.size + 1, s1.heap.objs.size], FpOk X pins H1 b := fun b hb => by
    have hle : s1.heap.objs.size ≤ b := by
      rcases (show b = s1.heap.objs.size + 1 ∨ b = s1.heap.objs.size by simpa using hb) with z | z <;> rw [z]
      · exact Nat.le_add_right _ _
      · exact Nat.le_refl _
    exact I1.fpOk hle (I1.hok.fresh hle)
  rcases q1 with ⟨hq, q⟩ | ⟨hq, q⟩
  · obtain ⟨its, rv, p', hz⟩ := I1.list hq
    refine call_enumerate_list p'.isList fun h' he hit hsz hk => wpAny_pyIter_enum he ?_
    exact ⟨s1.heap.objs.size + 1, [s1.heap.objs.size + 1, s1.heap.objs.size], _, _, H1, rfl, I1.kept (t' := s1.toks) hk, turn_enum a (s1.heap.objs.size + 1) s1.heap.objs.size, ⟨⟨.none, he⟩, hit, Nat.succ_ne_self _⟩, fp, q⟩
  · obtain ⟨its, rv, p', hz⟩ := I1.tuple hq
    have hal : a < s1.heap.objs.size := by obtain ⟨_, q, _⟩ := p'; exact Heap.lt_size q
    refine call_enumT p' fun h' he hit hk => wpAny_pyIter_enum he ?_
    exact ⟨s1.heap.objs.size + 1, [s1.heap.objs.size + 1, s1.heap.objs.size], _, _, H1, rfl, I1.kept (t' := s1.toks) hk, turn_enumT a (s1.heap.objs.size + 1) s1.heap.objs.size, ⟨⟨.none, he⟩, hit, Nat.succ_ne_self _, Nat.ne_of_lt hal, Nat.ne_of_lt (Nat.lt_succ_of_lt hal)⟩, fp, q⟩
end Mn

namespace Mn
open PySem L2 PySem.Spec PyProof.Rows
/-! ### a tuple and a list side by side -/
def ItzM (K : PySem.W.Frag) (a b : Addr) (n : Nat) : L2.It :=
  ⟨fun i H => ∃ (xs ys : List V) (x y : V), SqT K H a xs ∧ SqL K H b ys ∧ min xs.length ys.length = n ∧ xs[i]? = some x ∧ ys[i]? = some y,
   fun i H v H' => ∃ T x y, v = .ref T ∧ H T = none ∧ H' = upd H T (.tup [x, y]) ∧ (∀ xs, SqT K H a xs → xs[i]? = some x) ∧ ∀ ys, SqL K H b ys → ys[i]? = some y,
   fun i H => ∃ xs ys : List V, SqT K H a xs ∧ SqL K H b ys ∧ min xs.length ys.length = n ∧ n ≤ i⟩
theorem turn_zipM {P : Program} {w : World} {K : PySem.W.Frag} {elts : List Expr} {kk n : Nat} {tpos : Pos} {a b z TI TO i1 i2 : Addr} (S : ZipSep2 z TI TO i1 i2 [i1, a] [i2, b]) (ha : a ≠ i1) (hb : b ≠ i2) :
    Turn P w K (.Tuple elts kk tpos) (ItzM K a b n) [z, TI, TO, i1, i2] z (fun i h => IsZip h z TI TO .none ∧ IsTupOf2 h TI (.ref i1) (.ref i2) ∧ (∃ x y, IsTupOf2 h TO x y) ∧ h.IsTupleIter i1 a i ∧ h.IsListIter i2 b i ∧ i ≤ n) := by
  refine ⟨by simp, fun i h st c hc => ?_, fun i h h' st k => ?_, ?_, ?_, fun A i s Q E st h => wpAny_pyIter_zip st.1 h⟩
  · obtain ⟨hz, hTI, ⟨x, y, hTO⟩, ⟨o1, e1, _, d1⟩, ⟨o2, e2, _, d2⟩, _⟩ := st
    simp only [List.mem_cons, List.not_mem_nil, or_false] at hc
    rcases hc with rfl | rfl | rfl | rfl | rfl
    · exact ⟨_, hz, fun v q => by cases q⟩
    · exact ⟨_, hTI, fun v q => by cases q⟩
    · exact ⟨_, hTO, fun v q => by cases q⟩
    · exact ⟨_, e1, fun v q => by rw [d1] at q; cases q⟩
    · exact ⟨_, e2, fun v q => by rw [d2] at q; cases q⟩
  · obtain ⟨hz, hTI, ⟨x, y, hTO⟩, h1, h2, hn⟩ := st
    exact ⟨k z (by simp) _ hz, k TI (by simp) _ hTI, ⟨x, y, k TO (by simp) _ hTO⟩, h1.at fun o q => k i1 (by simp) o q, h2.at fun o q => k i2 (by simp) o q, hn⟩
  · intro X hP hw hK hc i pins s σ H E I hf st hg
    subst hP hw hK
    obtain ⟨hz, hTI, ⟨x0, y0, hTO⟩, h1, h2, hn⟩ := st
    obtain ⟨xs, ys, x, y, hqx, hqy, hmin, hx, hy⟩ := hg
    obtain ⟨its, rv, p, _⟩ := I.tuple hqx
    obtain ⟨its2, rv2, p2, _⟩ := I.list hqy
    have p1 : s.heap.IsTuple a its.toArray := p
    have hlx := (List.getElem?_eq_some_iff.mp hx).1
    have hly := (List.getElem?_eq_some_iff.mp hy).1
    have D1 := Draws.tuple (prog := X.prog) (w := X.w) (A := X.A.in1) (I.ok.hd hc) i1 a ha its.toArray
    have D2 := Draws.list (prog := X.prog) (w := X.w) (A := X.A.in1) (I.ok.hd hc) i2 b hb its2.toArray
    have hzl : z < s.heap.objs.size := Heap.lt_size hz
    refine wpAny_pyNext_zipD2_item S D1 D2 hz hTI hTO ⟨h1, p1⟩ ⟨h2, p2.isList⟩ (by rw [List.size_toArray, ← rv.length]; exact hlx) (by rw [List.size_toArray, ← rv2.length]; exact hly) fun u u2 h' tk hu hu2 z' TO' s1' s2' hT hsz hk => ?_
    obtain ⟨v1, hv1, ru⟩ := rv.get hx
    obtain ⟨v2, hv2, ru2⟩ := rv2.get hy
    obtain rfl : v1 = u := by
      have hu : its.toArray[i]? = some u := hu
      rw [List.getElem?_toArray, hv1] at hu
      exact Option.some.inj hu
    obtain rfl : v2 = u2 := by
      have hu2 : its2.toArray[i]? = some u2 := hu2
      rw [List.getElem?_toArray, hv2] at hu2
      exact Option.some.inj hu2
    refine ⟨_, rfl, wpAny_letOwnedTupleGo_zip (s := { s with heap := h', toks := tk }) z' fun h'' z'' sb => ?_⟩
    have ne : ∀ {c : Addr} {o : Obj}, s.heap.get? c = some o → s.heap.objs.size ≠ c := fun e => Nat.ne_of_gt (Heap.lt_size e)
    have hT2 : h''.get? s.heap.objs.size = some { cls := .type "tuple", data := .seq #[v1, v2] } := (sb.2 _ (ne hz)).trans hT
    have new : ObjOk X.prog X.w (upd H s.heap.objs.size (.tup [x, y])) h'' s.heap.objs.size (.tup [x, y]) := ⟨by show 2 ≤ sizeLine; decide, [v1, v2], .cons ru (.cons ru2 .nil), ⟨_, hT2, rfl, _, rfl⟩⟩
    have I1 : Inv X pins σ (upd H s.heap.objs.size (.tup [x, y])) { s with heap := h'', toks := tk } := I.turnedNew (t' := tk) (ch := [z, TI, TO, i1, i2]) (fun c o nc q => by
      simp only [List.mem_cons, List.not_mem_nil, or_false, not_or] at nc
      exact (sb.2 c nc.1).trans (hk c o nc.1 nc.2.2.1 nc.2.2.2.1 nc.2.2.2.2 q)) hf (Nat.le_refl _) new
    refine ⟨.ref s.heap.objs.size, _, I1, rfl, ⟨_, x, y, rfl, I.hok.fresh (Nat.le_refl _), rfl, fun l hl => by rw [I.tuple_inj hl hqx]; exact hx, fun l hl => by rw [I.list_inj hl hqy]; exact hy⟩, ⟨z'', ?_, ⟨v1, v2, ?_⟩, ?_, ?_, by omega⟩, fun c hcm => ?_⟩
    · exact (sb.2 _ S.TIz).trans (hk _ _ S.TIz S.TITO S.TIi1 S.TIi2 hTI)
    · exact (sb.2 _ S.TOz).trans TO'
    · exact s1'.1.at fun o q => (sb.2 _ (Ne.symm S.zi1)).trans q
    · exact s2'.1.at fun o q => (sb.2 _ (Ne.symm S.zi2)).trans q
    · have hlt : c ≠ s.heap.objs.size := by
        simp only [List.mem_cons, List.not_mem_nil, or_false] at hcm
        obtain ⟨_, e1, _⟩ := h1
        obtain ⟨_, e2, _⟩ := h2
        rcases hcm with rfl | rfl | rfl | rfl | rfl
        · exact Ne.symm (ne hz)
        · exact Ne.symm (ne hTI)
        · exact Ne.symm (ne hTO)
        · exact Ne.symm (ne e1)
        · exact Ne.symm (ne e2)
      rw [upd_ne hlt]
      exact (hf c hcm).1
  · intro X hP hw hK hc i pins s σ H E I hf st hg
    subst hP hw hK
    obtain ⟨hz, hTI, ⟨x0, y0, hTO⟩, h1, h2, hn⟩ := st
    obtain ⟨xs, ys, hqx, hqy, hmin, hend⟩ := hg
    obtain ⟨its, rv, p, _⟩ := I.tuple hqx
    obtain ⟨its2, rv2, p2, _⟩ := I.list hqy
    have p1 : s.heap.IsTuple a its.toArray := p
    have l1 := rv.length
    have l2 := rv2.length
    have D1 := Draws.tuple (prog := X.prog) (w := X.w) (A := X.A.in1) (I.ok.hd hc) i1 a ha its.toArray
    have D2 := Draws.list (prog := X.prog) (w := X.w) (A := X.A.in1) (I.ok.hd hc) i2 b hb its2.toArray
    refine wpAny_pyNext_zipD2_end S D1 D2 hz hTI hTO ⟨h1, p1⟩ ⟨h2, p2.isList⟩ (by rw [List.size_toArray]; omega) (by rw [List.size_toArray]; omega) (by rw [List.size_toArray, List.size_toArray]; omega) fun h' tk hk => ⟨rfl, I.turnedL (t' := tk) (ch := [z, TI, TO, i1, i2]) (fun c o nc q => ?_) hf⟩
    simp only [List.mem_cons, List.not_mem_nil, or_false, not_or] at nc
    exact hk c o nc.1 nc.2.2.1 nc.2.2.2.1 nc.2.2.2.2 q
def iZipM (K : PySem.W.Frag) (ta : TA) : TI := fun σ H R => ta σ H fun vs H1 => ∃ (a b : Addr) (xs ys : List V), vs = [V.ref a, V.ref b] ∧ SqT K H1 a xs ∧ SqL K H1 b ys ∧ R (ItzM K a b (min xs.length ys.length)) H1
theorem pi_zipM {X : Cx} {e e2 : Expr} {ta : TA} {p pos tpos : Pos} {elts : List Expr} {kk : Nat} (hg : Gl X "zip") (hm : X.mg "zip" = none) (ha : PA X [e, e2] ta) (hs : starEach [e, e2] X.env = (false, eval e X.env) :: starEach [e2] X.env) (hpl : (backTo pos (starEach [e2] X.env)).any (·.1) = false) :
    PI X (.Tuple elts kk tpos) (.Call (.Name "zip" p) [e, e2] [] pos) (iZipM X.K ta) := by
  refine ⟨fun pins s σ H R I h => ?_⟩
  refine Call_ (ld_blt I hg hm PyProof.Rows.boot_zip (PyProof.Rows.callWith_type1 (thn (ha.run pos pins s σ H _ I h) fun us s1 got => ?_) hs hpl))
  obtain ⟨vs, H1, I1, r1, a, b, xs, ys, rfl, hqx, hqy, q⟩ := got
  obtain ⟨u1, u2, rfl, rfl, rfl⟩ : ∃ u1 u2, us = [u1, u2] ∧ u1 = Value.ref a ∧ u2 = Value.ref b := by
    cases r1 with
    | cons r rr => cases rr with
      | cons r' rr => cases rr; exact ⟨_, _, rfl, r, r'⟩
  obtain ⟨its, rv, p1, _⟩ := I1.tuple hqx
  obtain ⟨its2, rv2, p2, _⟩ := I1.list hqy
  have p1 : s1.heap.IsTuple a its.toArray := p1
  obtain ⟨o1, ho1, _⟩ := id p1
  have la := Heap.lt_size ho1
  have lb := p2.lt
  refine zip_begins2 (begins_tuple a its.toArray) (begins_list b its2.toArray) p1 p2.isList fun h' hz hTI hTO h1 h2 hsz hk => wpAny_pyIter_zip hz ?_
  have I2 : Inv X pins σ H1 { s1 with heap := h' } := I1.kept (t' := s1.toks) hk
  have S : ZipSep2 (s1.heap.objs.size + 4) (s1.heap.objs.size + 2) (s1.heap.objs.size + 3) s1.heap.objs.size (s1.heap.objs.size + 1) [s1.heap.objs.size, a] [s1.heap.objs.size + 1, b] :=
    zip_sep2 (fp1 := [a]) (fp2 := [b]) (fun c hc => by rw [List.mem_singleton.mp hc]; exact la) fun c hc => by rw [List.mem_singleton.mp hc]; exact lb
  refine ⟨s1.heap.objs.size + 4, [s1.heap.objs.size + 4, s1.heap.objs.size + 2, s1.heap.objs.size + 3, s1.heap.objs.size, s1.heap.objs.size + 1], _, _, H1, rfl, I2, turn_zipM S (Nat.ne_of_lt la) (Nat.ne_of_lt (Nat.lt_succ_of_lt lb)), ⟨hz, hTI, ⟨_, _, hTO⟩, ⟨_, h1, rfl, rfl⟩, ⟨_, h2, rfl, rfl⟩, Nat.zero_le _⟩, fun c hcm => ?_, q⟩
  have hle : s1.heap.objs.size ≤ c := by
    simp only [List.mem_cons, List.not_mem_nil, or_false] at hcm
    rcases hcm with e | e | e | e | e <;> (rw [e]; first | exact Nat.le_add_right _ _ | exact Nat.le_refl _)
  exact I1.fpOk hle (I1.hok.fresh hle)
end Mn

namespace Mn
open PySem L2 PySem.Spec PyProof.Rows
section
variable {c : Cn} {Γ : Gam} {cf : Nat → List D → Hq → R D} {k : Nat} {E : XK} {N : List Str} {sc : Scope} {X : Cx} {tg : Expr}
/-! ### walks -/
/-- a world that knows as much at least -/
def LeW (W W' : Wd) : Prop := (∀ a o, W.F a = some o → W'.F a = some o) ∧ ∃ new, W'.C = W.C ++ new
theorem LeW.refl (W : Wd) : LeW W W := ⟨fun _ _ h => h, [], by simp⟩
theorem LeW.trans {W W1 W2 : Wd} (a : LeW W W1) (b : LeW W1 W2) : LeW W W2 := by
  obtain ⟨n1, q1⟩ := a.2
  obtain ⟨n2, q2⟩ := b.2
  exact ⟨fun x o h => b.1 x o (a.1 x o h), n1 ++ n2, by rw [q2, q1, List.append_assoc]⟩
theorem Ext.le {W W' : Wd} {H H' : Hp} (e : Ext W H W' H') : LeW W W' := ⟨e.f, let ⟨n, q, _⟩ := e.c; ⟨n, q⟩⟩
theorem LeW.cells {W W' : Wd} (e : LeW W W') : ∀ (n : Nat) (a : Addr), W.C[n]? = some a → W'.C[n]? = some a := fun n a h => by
  obtain ⟨new, q⟩ := e.2
  rw [q, List.getElem?_append_left (List.getElem?_eq_some_iff.mp h).1]
  exact h
theorem LeW.rep {W W' : Wd} (e : LeW W W') {v : V} {d : D} (r : Rep c.fa W v d) : Rep c.fa W' v d := r.mono e.1 e.cells
theorem LeW.repL {W W' : Wd} (e : LeW W W') {v : List V} {d : List D} (r : RepL c.fa W v d) : RepL c.fa W' v d := r.mono e.1 e.cells
/-- the worlds in which a walk goes on: fz, where the walked one stays as it is for ever -/
def Pw (fz : Bool) (W1 : Wd) (H1 : Hp) (W : Wd) (H : Hp) : Prop := if fz = true then LeW W1 W else Ext W1 H1 W H
theorem Pw.le {fz : Bool} {W1 W : Wd} {H1 H : Hp} (p : Pw fz W1 H1 W H) : LeW W1 W := by
  cases fz with
  | true => exact p
  | false => exact Ext.le p
/-- the iterator gives the data, one by one -/
structure Jw (fa : FaT) (fz : Bool) (W0 : Wd) (H0 : Hp) (J : L2.It) (ds : List D) : Prop where
  stop : ∀ W H h i, Pw fz W0 H0 W H → Hok fa W H h → ds.length ≤ i → J.stop i H
  go : ∀ W H h i, Pw fz W0 H0 W H → Hok fa W H h → i < ds.length → J.go i H
  yld : ∀ W H h i d x H', Pw fz W0 H0 W H → Hok fa W H h → ds[i]? = some d → J.yld i H x H' → ∃ W', Ext W H W' H' ∧ Hok fa W' H' h ∧ Rep fa W' x d
def tI (c : Cn) (cf : Nat → List D → Hq → R D) (E : XK) (fz : Bool) (m : Mn.It) : TI := fun σ H R => ∃ W ρ h, Hok c.fa W H h ∧ Sr c.fa W H σ ρ ∧ Gd c E W H (evI cf m ρ h) fun ds h' => ∀ J H' W', Ext W H W' H' → Hok c.fa W' H' h' → Jw c.fa fz W' H' J ds → R J H'
theorem lst_at {fz : Bool} {W : Wd} {H : Hp} {h : Hq} {v : V} {ds : List D} (kk : Hok c.fa W H h) (rb : Rdb c.fa W H v (.lst ds)) (rf : fz = true → Rep c.fa W v (.lst ds)) : ∃ a vs, v = .ref a ∧ H a = some (.lst vs) ∧ RepL c.fa W vs ds ∧ ∀ W' H' h', Pw fz W H W' H' → Hok c.fa W' H' h' → H' a = some (.lst vs) := by
  cases fz with
  | true => cases rf rfl with
    | lst hr r => exact ⟨_, _, rfl, kk.sub _ _ hr, r, fun W' H' h' p k => k.sub _ _ (Pw.le p |>.1 _ _ hr)⟩
  | false =>
    obtain ⟨a, vs, rfl, h1, h2, r⟩ := rb.lst kk
    exact ⟨a, vs, rfl, h1, r, fun W' H' h' p k => Ext.k p _ _ h1 h2 fun _ z => by cases z⟩
theorem weakI {e : Expr} {t t' : TI} (h : PI X tg e t) (i : ∀ σ H R, t' σ H R → t σ H R) : PI X tg e t' := ⟨fun pins s σ H R I q => h.run pins s σ H R I (i σ H R q)⟩
theorem sqL_inj {K : PySem.W.Frag} {H : Hp} {a : Addr} {xs ys : List V} (h : H a = some (.lst xs)) (q : ∀ zs, SqL K H a zs → zs[0]? = ys[0]?) : xs[0]? = ys[0]? := q _ (.inl (.of h))
theorem jw_list {K : PySem.W.Frag} {fz : Bool} {W : Wd} {H : Hp} {a : Addr} {vs : List V} {ds : List D} (hp : ∀ W' H' h', Pw fz W H W' H' → Hok c.fa W' H' h' → H' a = some (.lst vs)) (r : RepL c.fa W vs ds) : Jw c.fa fz W H (Itl K a) ds := by
  refine ⟨fun W' H' h i e k hi => ⟨vs, .inl (.of (hp _ _ _ e k)), by rw [r.length]; exact hi⟩, fun W' H' h i e k hi => ?_, fun W' H' h i d x H2 e k hd y => ?_⟩
  · have hi' : i < vs.length := by rw [r.length]; exact hi
    exact ⟨vs, vs[i], .inl (.of (hp _ _ _ e k)), List.getElem?_eq_getElem hi'⟩
  · obtain ⟨e2, y⟩ := y
    subst e2
    have hx := y vs (.inl (.of (hp _ _ _ e k)))
    obtain ⟨d', hd', rv⟩ := (e.le.repL r).getV hx
    rw [hd] at hd'
    cases hd'
    exact ⟨W', .refl _ _, k, rv⟩
theorem jw_tup {K : PySem.W.Frag} {fz : Bool} {W : Wd} {H : Hp} {a : Addr} {vs : List V} {ds : List D} (hp : W.F a = some (.tup vs)) (r : RepL c.fa W vs ds) : Jw c.fa fz W H (Itt K a) ds := by
  refine ⟨fun W' H' h i e k hi => ⟨vs, .inl (.of (k.sub _ _ (e.le.1 _ _ hp))), by rw [r.length]; exact hi⟩, fun W' H' h i e k hi => ?_, fun W' H' h i d x H2 e k hd y => ?_⟩
  · have hi' : i < vs.length := by rw [r.length]; exact hi
    exact ⟨vs, vs[i], .inl (.of (k.sub _ _ (e.le.1 _ _ hp))), List.getElem?_eq_getElem hi'⟩
  · obtain ⟨e2, y⟩ := y
    subst e2
    have hx := y vs (.inl (.of (k.sub _ _ (e.le.1 _ _ hp))))
    obtain ⟨d', hd', rv⟩ := (e.le.repL r).getV hx
    rw [hd] at hd'
    cases hd'
    exact ⟨W', .refl _ _, k, rv⟩
theorem jw_range {fz : Bool} {W : Wd} {H : Hp} {lo : Int} {n : Nat} : Jw c.fa fz W H (Itr lo n) ((List.range n).map fun k => D.int (lo + (k : Nat))) := by
  refine ⟨fun W' H' h i e k hi => ?_, fun W' H' h i e k hi => ?_, fun W' H' h i d x H2 e k hd y => ?_⟩
  · have hi : n ≤ i := by simpa using hi
    exact hi
  · have hi : i < n := by simpa using hi
    exact hi
  · obtain ⟨e1, e2⟩ := y
    subst e1 e2
    rw [List.getElem?_map, Option.map_eq_some_iff] at hd
    obtain ⟨j, hj, rfl⟩ := hd
    obtain ⟨hlt, hj⟩ := List.getElem?_eq_some_iff.mp hj
    rw [List.getElem_range] at hj
    subst hj
    exact ⟨W', .refl _ _, k, .int _⟩
/-- what may be walked -/
def WkA (X : Cx) (R : L2.It → Hp → Prop) (a : Addr) (xs : List V) (H1 : Hp) : Prop := (SqL X.K H1 a xs ∧ R (Itl X.K a) H1) ∨ (SqT X.K H1 a xs ∧ R (Itt X.K a) H1) ∨ (∃ o kvs, H1 a = some (.frz o (.dK kvs)) ∧ R (Itk a o kvs) H1) ∨ (∃ o kvs, H1 a = some (.frz o (.dT kvs)) ∧ R (Itkt a o kvs) H1) ∨ ∃ lo hi : Int, H1 a = some (.rng lo hi) ∧ (-(2 ^ 62) ≤ lo ∧ lo < 2 ^ 62 ∧ -(2 ^ 62) ≤ hi ∧ hi < 2 ^ 62) ∧ R (Itr lo (hi - lo).toNat) H1
/-- a list, a tuple walked -/
theorem pi_any {l : Expr} {tl : TE} (hl : PE X l tl) : PI X tg l (fun σ H R => tl σ H fun x H1 => ∃ a xs, x = .ref a ∧ WkA X R a xs H1) := by
  refine ⟨fun pins s σ H R I h => ?_⟩
  refine thn (hl.run pins s σ H _ I h) fun v s1 ⟨x, H1, I1, r1, q1⟩ => ?_
  obtain ⟨a, xs, e, q⟩ := q1
  subst e
  cases r1
  rcases q with ⟨hq, q⟩ | ⟨hq, q⟩ | ⟨o, kvs, hd, q⟩ | ⟨o, kvs, hd, q⟩ | ⟨lo, hi, hd, ⟨b1, b2, b3, b4⟩, q⟩
  · obtain ⟨its, rv, p, hz⟩ := I1.list hq
    refine wpAny_pyIter_list p.isList ?_
    refine ⟨s1.heap.objs.size, [s1.heap.objs.size], _, _, H1, rfl, I1.kept (t' := s1.toks) fun b o e => Heap.get?_push_of_some _ e, turn_list a _, ⟨_, Heap.get?_push_size _ rfl, rfl, rfl⟩, fun b hb => ?_, q⟩
    have e : b = s1.heap.objs.size := by simpa using hb
    subst e
    exact I1.fpOk (Nat.le_refl _) (I1.hok.fresh (Nat.le_refl _))
  · obtain ⟨its, rv, p, hz⟩ := I1.tuple hq
    refine wpAny_pyIter_tuple (show s1.heap.IsTuple a its.toArray from p) ?_
    refine ⟨s1.heap.objs.size, [s1.heap.objs.size], _, _, H1, rfl, I1.kept (t' := s1.toks) fun b o e => Heap.get?_push_of_some _ e, turn_tuple a _, ⟨_, Heap.get?_push_size _ rfl, rfl, rfl⟩, fun b hb => ?_, q⟩
    have e : b = s1.heap.objs.size := by simpa using hb
    subst e
    exact I1.fpOk (Nat.le_refl _) (I1.hok.fresh (Nat.le_refl _))
  · obtain ⟨hs, hgd, hx, es, ep, vs, hdt, hsz, kv, hm⟩ := I1.frzK hd
    refine iter_keys hs hgd hx hdt (pi_one (tk := s1.toks) I1 _ (turn_keys _ hdt) ⟨_, Heap.get?_push_size _ rfl, rfl, ?_⟩ q)
    rw [hsz] <;> rfl
  · obtain ⟨hs, hgd, hx, es, ep, hdt, hsz, ent⟩ := I1.frzT hd
    refine iter_keys hs hgd hx hdt (pi_one (tk := s1.toks) I1 _ (turn_keysT _ hdt) ⟨_, Heap.get?_push_size _ rfl, rfl, ?_⟩ q)
    rw [hsz] <;> rfl
  · obtain ⟨t, u, v, ho⟩ := I1.hok a _ hd
    refine wpAny_pyIter_range (show IsRange s1.heap a lo hi 1 t u v from ho) (small_one b1 b2 b3 b4) ?_
    refine pi_one (tk := s1.toks) I1 _ (turn_range _ lo (hi - lo).toNat) ?_ q
    have e1 : lo + ((0 : Nat) : Int) * 1 = lo := by simp
    have e2 : (((hi - lo).toNat : Nat) : Int) - ((0 : Nat) : Int) = Builtin.Range.rangeSize lo hi 1 := by rw [rangeSize_one]; split <;> omega
    show IsRangeIter _ _ (lo + ((0 : Nat) : Int) * 1) ((((hi - lo).toNat : Nat) : Int) - ((0 : Nat) : Int)) 1
    rw [e1, e2]
    exact Heap.get?_push_size _ rfl
theorem jw_keysT {fz : Bool} {W : Wd} {H : Hp} {d : Addr} {o : Obj} {kvs : List (List L2.Key × V)} {ks : List (List Int)} (hp : W.F d = some (.frz o (.dT kvs))) (he : kvs.map (·.1) = ks.map (List.map Sum.inl)) : Jw c.fa fz W H (Itkt d o kvs) (ks.map fun k => .tup (k.map .int)) := by
  have hlen : kvs.length = ks.length := by have := congrArg List.length he; simpa using this
  have l1 : ∀ {W' : Wd} {H' : Hp} {h : Hq}, Pw fz W H W' H' → Hok c.fa W' H' h → H' d = some (.frz o (.dT kvs)) := fun e k => k.sub _ _ (e.le.1 _ _ hp)
  refine ⟨fun W' H' h i e k hi => ⟨l1 e k, ?_⟩, fun W' H' h i e k hi => ⟨l1 e k, ?_⟩, fun W' H' h i x v H2 e k hd y => ?_⟩
  · rw [List.length_map] at hi; omega
  · rw [List.length_map] at hi; omega
  · obtain ⟨rfl, kk, v', q, h1, rfl, hq⟩ := y
    have h2 : (kvs.map (·.1))[i]? = some kk := by rw [List.getElem?_map, h1]; rfl
    rw [he, List.getElem?_map] at h2
    rw [List.getElem?_map] at hd
    cases h3 : ks[i]? with
    | none => rw [h3] at hd; cases hd
    | some j =>
      rw [h3] at hd h2
      cases hd
      cases h2
      have hq : H2 q = some (.tup (j.map V.int)) := by rw [← kV_ints]; exact hq
      cases hf : W'.F q with
      | some u =>
        have z := k.sub q u hf
        rw [hq] at z
        cases z
        exact ⟨W', .refl _ _, k, .tup hf (repL_ints j)⟩
      | none =>
        have hc : q ∉ W'.C := fun z => by
          obtain ⟨n, hn⟩ := List.mem_iff_getElem?.mp z
          have hl : n < h.length := by rw [← k.len]; exact (List.getElem?_eq_some_iff.mp hn).1
          obtain ⟨ds, hds⟩ : ∃ ds, h[n]? = some (.lst ds) := by
            rw [List.getElem?_eq_getElem hl]
            cases h[n] with
            | lst ds => exact ⟨ds, rfl⟩
          obtain ⟨vs, e1, _⟩ := k.cell n q ds hn hds
          rw [hq] at e1
          cases e1
        obtain ⟨e1, k1⟩ := tup_ext (.refl W' H2) k hf hc hq
        exact ⟨_, e1, k1, .tup (by show upd W'.F q _ q = _; rw [upd_same]) (repL_ints j)⟩
theorem jw_keys {fz : Bool} {W : Wd} {H : Hp} {d : Addr} {o : Obj} {kvs : List (L2.Key × V)} {ks : List Int} (hp : W.F d = some (.frz o (.dK kvs))) (he : kvs.map (·.1) = ks.map Sum.inl) : Jw c.fa fz W H (Itk d o kvs) (ks.map .int) := by
  have hlen : kvs.length = ks.length := by have := congrArg List.length he; simpa using this
  have l1 : ∀ {W' : Wd} {H' : Hp} {h : Hq}, Pw fz W H W' H' → Hok c.fa W' H' h → H' d = some (.frz o (.dK kvs)) := fun e k => k.sub _ _ (e.le.1 _ _ hp)
  refine ⟨fun W' H' h i e k hi => ⟨l1 e k, ?_⟩, fun W' H' h i e k hi => ⟨l1 e k, ?_⟩, fun W' H' h i x v H2 e k hd y => ?_⟩
  · rw [List.length_map] at hi; omega
  · rw [List.length_map] at hi; omega
  · obtain ⟨rfl, kk, v', h1, rfl⟩ := y
    have h2 : (kvs.map (·.1))[i]? = some kk := by rw [List.getElem?_map, h1]; rfl
    rw [he, List.getElem?_map] at h2
    rw [List.getElem?_map] at hd
    cases h3 : ks[i]? with
    | none => rw [h3] at hd; cases hd
    | some j =>
      rw [h3] at hd h2
      cases hd
      cases h2
      exact ⟨W', .refl _ _, k, .int _⟩
theorem jw_items {fz : Bool} {W : Wd} {H : Hp} {d : Addr} {o : Obj} {kvs : List (L2.Key × V)} {ks : List Int} {ds : List D} (hp : W.F d = some (.frz o (.dK kvs))) (he : kvs.map (·.1) = ks.map Sum.inl) (r : RepL c.fa W (kvs.map (·.2)) ds) :
    Jw c.fa fz W H (Iti d o kvs) ((ks.zip ds).map fun p => .tup [.int p.1, p.2]) := by
  have hlen : kvs.length = ks.length := by have := congrArg List.length he; simpa using this
  have hlen2 : kvs.length = ds.length := by have := r.length; simpa using this
  have l1 : ∀ {W' : Wd} {H' : Hp} {h : Hq}, Pw fz W H W' H' → Hok c.fa W' H' h → H' d = some (.frz o (.dK kvs)) := fun e k => k.sub _ _ (e.le.1 _ _ hp)
  refine ⟨fun W' H' h i e k hi => ⟨l1 e k, ?_⟩, fun W' H' h i e k hi => ⟨l1 e k, ?_⟩, fun W' H' h i x v H2 e k hd y => ?_⟩
  · rw [List.length_map, List.length_zip] at hi; omega
  · rw [List.length_map, List.length_zip] at hi; omega
  · obtain ⟨T, kk, v', h1, rfl, hT, rfl⟩ := y
    have h2 : (kvs.map (·.1))[i]? = some kk := by rw [List.getElem?_map, h1]; rfl
    have h4 : (kvs.map (·.2))[i]? = some v' := by rw [List.getElem?_map, h1]; rfl
    rw [he, List.getElem?_map] at h2
    obtain ⟨d1, hd1, rv⟩ := (e.le.repL r).getV h4
    rw [List.getElem?_map, List.zip, List.getElem?_zipWith, hd1] at hd
    cases h3 : ks[i]? with
    | none => rw [h3] at hd; cases hd
    | some j =>
      rw [h3] at hd h2
      cases hd
      cases h2
      obtain ⟨e2, k2⟩ := new_ext (o := .tup [L2.kV (.inl j), v']) k hT
      exact ⟨_, e2, k2, .tup (by show upd W'.F T _ T = _; rw [upd_same]; rfl) (.cons (.int _) (.cons (e2.rep rv) .nil))⟩
theorem si_items {fz : Bool} {m : Mn.E} {e : Expr} {nm : Str} {apos cpos tpos : Pos} {elts : List Expr} {kk : Nat} (hn : nm = "items") (h : SE c cf E X m e) (hb : isB m = false) (hs : notSup e = true) (hl : (apos.endLine == cpos.line) = true) :
    PI X (.Tuple elts kk tpos) (.Call (.Attribute e nm apos) [] [] cpos) (tI c cf E fz (.items m)) := by
  subst hn
  refine weakI (pi_items (h.f hb) (notSup_base hs) hl) fun σ H R q => ?_
  obtain ⟨W, ρ, h, kk, r, g⟩ := q
  simp only [evI] at g
  refine ⟨W, ρ, h, kk, r, (Gd.bind g).mono fun d h1 g1 v H1 W1 e1 k1 r1 => ?_⟩
  split at g1
  · cases r1 with
    | dI hp he rl => exact ⟨_, _, _, rfl, k1.sub _ _ hp, g1 _ H1 W1 e1 k1 (jw_items hp he rl)⟩
  · exact False.elim g1
theorem okR_of {i : Int} (h : okR i = true) : -(2 ^ 62) ≤ i ∧ i < 2 ^ 62 := by
  simp only [okR, Bool.and_eq_true, decide_eq_true_eq] at h
  omega
theorem walk_isB (m : Mn.E) (x : D) : m.walk x = if isB m = true then seqOf x else itOf x := by
  cases m <;> rfl
theorem si_val {fz : Bool} {m : Mn.E} {e : Expr} (h : SE c cf E X m e) (hz : fz = true → isB m = false) : PI X tg e (tI c cf E fz (.val m)) := by
  have hR : PE X e (fun σ H Q => ∃ W ρ h, Hok c.fa W H h ∧ Sr c.fa W H σ ρ ∧ Gd c E W H (evE cf m ρ h) fun d h' => ∀ v H' W', Ext W H W' H' → Hok c.fa W' H' h' → Rdb c.fa W' H' v d → (isB m = false → Rep c.fa W' v d) → Q v H') := by
    cases hm : isB m with
    | false =>
      refine weakE (h.f hm) fun σ H Q q => ?_
      obtain ⟨W, ρ, h, kk, r, g⟩ := q
      exact ⟨W, ρ, h, kk, r, g.mono fun d h' z v H' W' e k r => z v H' W' e k (.inl r) fun _ => r⟩
    | true =>
      refine weakE h.b fun σ H Q q => ?_
      obtain ⟨W, ρ, h, kk, r, g⟩ := q
      exact ⟨W, ρ, h, kk, r, g.mono fun d h' z v H' W' e k r => z v H' W' e k r fun z => by cases z⟩
  refine weakI (pi_any hR) fun σ H R q => ?_
  obtain ⟨W, ρ, h, kk, r, g⟩ := q
  simp only [evI] at g
  refine ⟨W, ρ, h, kk, r, (Gd.bind g).mono fun d h1 g1 v H1 W1 e1 k1 r1 rf => ?_⟩
  obtain ⟨ds, hd, q⟩ := g1.lift
  rw [walk_isB] at hd
  have tups : ∀ xs, d = .tup xs → ds = xs → ∃ a vs, v = .ref a ∧ WkA X R a vs H1 := fun xs e1' e2' => by
    subst e1' e2'
    obtain ⟨a, vs, rfl, h1, h2, rl⟩ := r1.tup k1
    exact ⟨a, vs, rfl, .inr (.inl ⟨.inl (.of h1), q _ H1 W1 e1 k1 (jw_tup h2 rl)⟩)⟩
  have lsts : ∀ xs, d = .lst xs → ds = xs → ∃ a vs, v = .ref a ∧ WkA X R a vs H1 := fun xs e1' e2' => by
    subst e1' e2'
    obtain ⟨a, vs, rfl, h1, rl, h2⟩ := lst_at k1 r1 (fun z => rf (hz z))
    exact ⟨a, vs, rfl, .inl ⟨.inl (.of h1), q _ H1 W1 e1 k1 (jw_list h2 rl)⟩⟩
  by_cases hm : isB m = true
  · rw [if_pos hm] at hd
    unfold seqOf at hd
    split at hd
    · cases hd; exact tups _ rfl rfl
    · cases hd; exact lsts _ rfl rfl
    · cases hd
  · rw [if_neg hm] at hd
    unfold itOf at hd
    split at hd
    · cases hd; exact tups _ rfl rfl
    · cases hd; exact lsts _ rfl rfl
    · cases hd
      cases rf ((Bool.not_eq_true _).mp hm) with
      | dI hp he rl => exact ⟨_, [], rfl, .inr (.inr (.inl ⟨_, _, k1.sub _ _ hp, q _ H1 W1 e1 k1 (jw_keys hp he)⟩))⟩
    · cases hd
      cases rf ((Bool.not_eq_true _).mp hm) with
      | dT hp he rl => exact ⟨_, [], rfl, .inr (.inr (.inr (.inl ⟨_, _, k1.sub _ _ hp, q _ H1 W1 e1 k1 (jw_keysT hp he)⟩)))⟩
    · cases hd
      cases rf ((Bool.not_eq_true _).mp hm) with
      | rng hp b1 b2 => exact ⟨_, [], rfl, .inr (.inr (.inr (.inr ⟨_, _, k1.sub _ _ hp, ⟨(okR_of b1).1, (okR_of b1).2, (okR_of b2).1, (okR_of b2).2⟩, q _ H1 W1 e1 k1 jw_range⟩)))⟩
    · cases hd
theorem Gd.two {W : Wd} {H : Hp} {a b : Mn.E} {ρ : Env} {h : Hq} {α : Type} {F : D → D → Hq → R α} {Q : α → Hq → Prop} (g : Gd c E W H ((evE cf a ρ h).bind fun x h => (evE cf b ρ h).bind fun y h => F x y h) Q) :
    Gd c E W H (evEs cf (.cons a (.cons b .nil)) ρ h) fun ds h => ∃ x y, ds = [x, y] ∧ Gd c E W H (F x y h) Q := by
  simp only [evEs]
  generalize evE cf a ρ h = y at g ⊢
  cases y with
  | ok d h1 =>
    have g : Gd c E W H ((evE cf b ρ h1).bind fun y h => F d y h) Q := g
    show Gd c E W H (((evE cf b ρ h1).bind fun d h => (R.ok [] h).bind fun ds h => R.ok (d :: ds) h).bind fun ds h => R.ok (d :: ds) h) _
    generalize evE cf b ρ h1 = z at g ⊢
    cases z with
    | ok d2 h2 => exact ⟨d, d2, rfl, g⟩
    | exc n d h => exact g
    | bad => exact g
  | exc n d h => exact g
  | bad => exact g
theorem Gd.one {W : Wd} {H : Hp} {a : Mn.E} {ρ : Env} {h : Hq} {α : Type} {F : D → Hq → R α} {Q : α → Hq → Prop} (g : Gd c E W H ((evE cf a ρ h).bind fun x h => F x h) Q) :
    Gd c E W H (evEs cf (.cons a .nil) ρ h) fun ds h => ∃ x, ds = [x] ∧ Gd c E W H (F x h) Q := by
  simp only [evEs]
  generalize evE cf a ρ h = y at g ⊢
  cases y with
  | ok d h1 => exact ⟨d, rfl, g⟩
  | exc n d h => exact g
  | bad => exact g
theorem si_rng1 {fz : Bool} {m : Mn.E} {x : Expr} {f : Str} {p pos : Pos} (O : Gok c Γ cf k) (G : GX c E N k sc X) (hg : isGl sc f = true) (hn : f = "range") (hfr : Γ.fr.contains f = true) (h : SE c cf E X m x) (hs : notStar x = true) : PI X tg (.Call (.Name f p) [x] [] pos) (tI c cf E fz (.rng1 m)) := by
  obtain ⟨g1, g2⟩ := gl_of G hg
  have hm : X.mg f = none := by rw [G.mg]; exact O.fr f hfr
  subst hn
  refine weakI (pi_range1 g1 hm (sa_cons h hs sa_nil) (star_cons hs)) fun σ H R q => ?_
  obtain ⟨W, ρ, h, kk, r, g⟩ := q
  simp only [evI] at g
  refine ⟨W, ρ, h, kk, r, (Gd.one g).mono fun ds h1 g1 vs H1 W1 e1 k1 r1 _ _ => ?_⟩
  obtain ⟨d, rfl, g1⟩ := g1
  obtain ⟨ds, hd, q⟩ := g1.lift
  rw [Option.bind_eq_some_iff] at hd
  obtain ⟨i, hi, hd⟩ := hd
  obtain rfl := int_of hi
  split at hd
  · rename_i hok
    cases hd
    obtain ⟨v, rfl, rv⟩ := r1.one
    obtain rfl := rv.int
    refine ⟨i, rfl, (okR_of hok).1, (okR_of hok).2, q _ H1 W1 e1 k1 ?_⟩
    have z := jw_range (c := c) (fz := fz) (W := W1) (H := H1) (lo := 0) (n := i.toNat)
    simp only [Int.zero_add] at z
    exact z
  · cases hd
theorem si_rng2 {fz : Bool} {m n : Mn.E} {x y : Expr} {f : Str} {p pos : Pos} (O : Gok c Γ cf k) (G : GX c E N k sc X) (hg : isGl sc f = true) (hn : f = "range") (hfr : Γ.fr.contains f = true) (h : SE c cf E X m x) (h' : SE c cf E X n y) (hs : notStar x = true) (hs' : notStar y = true) :
    PI X tg (.Call (.Name f p) [x, y] [] pos) (tI c cf E fz (.rng2 m n)) := by
  obtain ⟨g1, g2⟩ := gl_of G hg
  have hm : X.mg f = none := by rw [G.mg]; exact O.fr f hfr
  subst hn
  refine weakI (pi_range2 g1 hm (sa_cons h hs (sa_cons h' hs' sa_nil)) (by rw [star_cons hs, star_cons hs']; rfl) (star_cons hs')) fun σ H R q => ?_
  obtain ⟨W, ρ, h, kk, r, g⟩ := q
  simp only [evI] at g
  refine ⟨W, ρ, h, kk, r, (Gd.two g).mono fun ds h1 g1 vs H1 W1 e1 k1 r1 _ _ => ?_⟩
  obtain ⟨d, d2, rfl, g1⟩ := g1
  obtain ⟨ds, hd, q⟩ := g1.lift
  rw [Option.bind_eq_some_iff] at hd
  obtain ⟨i, hi, hd⟩ := hd
  rw [Option.bind_eq_some_iff] at hd
  obtain ⟨j, hj, hd⟩ := hd
  obtain rfl := int_of hi
  obtain rfl := int_of hj
  split at hd
  · rename_i hok
    rw [Bool.and_eq_true] at hok
    cases hd
    obtain ⟨v, u, rfl, rv, ru⟩ := r1.two
    obtain rfl := rv.int
    obtain rfl := ru.int
    exact ⟨i, j, rfl, ⟨(okR_of hok.1).1, (okR_of hok.1).2, (okR_of hok.2).1, (okR_of hok.2).2⟩, q _ H1 W1 e1 k1 jw_range⟩
  · cases hd
theorem jw_down {fz : Bool} {W : Wd} {H : Hp} {lo : Int} {n : Nat} : Jw c.fa fz W H (Itc lo (-1) n) ((List.range n).map fun k => D.int (lo + (k : Nat) * (-1))) := by
  refine ⟨fun W' H' h i e k hi => ?_, fun W' H' h i e k hi => ?_, fun W' H' h i d x H2 e k hd y => ?_⟩
  · have hi : n ≤ i := by simpa using hi
    exact hi
  · have hi : i < n := by simpa using hi
    exact hi
  · obtain ⟨e1, e2⟩ := y
    subst e1 e2
    rw [List.getElem?_map, Option.map_eq_some_iff] at hd
    obtain ⟨j, hj, rfl⟩ := hd
    obtain ⟨hlt, hj⟩ := List.getElem?_eq_some_iff.mp hj
    rw [List.getElem_range] at hj
    subst hj
    exact ⟨W', .refl _ _, k, .int _⟩
theorem si_rngd {fz : Bool} {m n : Mn.E} {x y : Expr} {f : Str} {j : Nat} {p p1 p2 pos : Pos} (O : Gok c Γ cf k) (G : GX c E N k sc X) (hg : isGl sc f = true) (hn : f = "range") (hfr : Γ.fr.contains f = true) (h : SE c cf E X m x) (h' : SE c cf E X n y) (hs : notStar x = true) (hs' : notStar y = true) :
    PI X tg (.Call (.Name f p) [x, y, .UnaryOp .USub (.Constant (.int 1) j p1) p2] [] pos) (tI c cf E fz (.rngd m n)) := by
  obtain ⟨g1, g2⟩ := gl_of G hg
  have hm : X.mg f = none := by rw [G.mg]; exact O.fr f hfr
  subst hn
  have hneg : PE X (.UnaryOp .USub (.Constant (.int 1) j p1) p2) (tC (.int (-1))) := weakE (pe_un un_neg pe_int) fun σ H Q q => ⟨1, rfl, q⟩
  refine weakI (pi_range3 g1 hm (pa_cons h.b (pa_cons h'.b (pa_cons hneg (pa_nil (X := X)) rfl) (star_cons hs')) (star_cons hs)) (star_cons hs) (by rw [star_cons hs']; rfl)) fun σ H R q => ?_
  obtain ⟨W, ρ, h, kk, r, g⟩ := q
  simp only [evI] at g
  refine ⟨W, ρ, h, kk, r, (Gd.bind g).mono fun d1 h1 g1 v1 H1 W1 e1 k1 r1 => ?_⟩
  refine ⟨W1, ρ, h1, k1, r.ext e1, (Gd.bind (g1.ext e1)).mono fun d2 h2 g2 v2 H2 W2 e2 k2 r2 => ?_⟩
  obtain ⟨ds, hd, q⟩ := g2.lift
  rw [Option.bind_eq_some_iff] at hd
  obtain ⟨i, hi, hd⟩ := hd
  rw [Option.bind_eq_some_iff] at hd
  obtain ⟨l, hj, hd⟩ := hd
  obtain rfl := int_of hi
  obtain rfl := int_of hj
  split at hd
  · rename_i hok
    rw [Bool.and_eq_true] at hok
    cases hd
    obtain rfl := (r1.ext e2).int
    obtain rfl := r2.int
    exact ⟨i, l, -1, _, rfl, RgC.neg (okR_of hok.1).1 (okR_of hok.1).2 (okR_of hok.2).1 (okR_of hok.2).2, q _ H2 W2 (e1.trans e2) k2 jw_down⟩
  · cases hd
/-- two walks side by side -/
theorem jw_zipL {K : PySem.W.Frag} {fz : Bool} {W : Wd} {H : Hp} {a b : Addr} {vs us : List V} {ds es : List D} (hp : ∀ W' H' h', Pw fz W H W' H' → Hok c.fa W' H' h' → H' a = some (.lst vs)) (r : RepL c.fa W vs ds)
    (hp' : ∀ W' H' h', Pw fz W H W' H' → Hok c.fa W' H' h' → H' b = some (.lst us)) (r' : RepL c.fa W us es) : Jw c.fa fz W H (Itz K a b) ((ds.zip es).map fun p => .tup [p.1, p.2]) := by
  refine ⟨fun W' H' h i e k hi => ⟨vs, us, .inl (.of (hp _ _ _ e k)), .inl (.of (hp' _ _ _ e k)), ?_⟩, fun W' H' h i e k hi => ?_, fun W' H' h i d x H2 e k hd y => ?_⟩
  · rw [List.length_map, List.length_zip] at hi
    rw [r.length, r'.length]; omega
  · rw [List.length_map, List.length_zip] at hi
    have h1 : i < vs.length := by rw [r.length]; omega
    have h2 : i < us.length := by rw [r'.length]; omega
    exact ⟨vs, us, vs[i], us[i], .inl (.of (hp _ _ _ e k)), .inl (.of (hp' _ _ _ e k)), List.getElem?_eq_getElem h1, List.getElem?_eq_getElem h2⟩
  · obtain ⟨T, x1, y1, rfl, hT, rfl, q1, q2⟩ := y
    have hx := q1 vs (.inl (.of (hp _ _ _ e k)))
    have hy := q2 us (.inl (.of (hp' _ _ _ e k)))
    obtain ⟨d1, hd1, rv⟩ := (e.le.repL r).getV hx
    obtain ⟨d2, hd2, ru⟩ := (e.le.repL r').getV hy
    rw [List.getElem?_map, List.zip, List.getElem?_zipWith, hd1, hd2] at hd
    cases hd
    obtain ⟨e2, k2⟩ := new_ext (o := .tup [x1, y1]) k hT
    exact ⟨_, e2, k2, .tup (by show upd W'.F T _ T = _; rw [upd_same]) (.cons (e2.rep rv) (.cons (e2.rep ru) .nil))⟩
theorem jw_zipT {K : PySem.W.Frag} {fz : Bool} {W : Wd} {H : Hp} {a b : Addr} {vs us : List V} {ds es : List D} (hp : W.F a = some (.tup vs)) (r : RepL c.fa W vs ds) (hp' : W.F b = some (.tup us)) (r' : RepL c.fa W us es) :
    Jw c.fa fz W H (RZ.ItzT K a b) ((ds.zip es).map fun p => .tup [p.1, p.2]) := by
  have l1 : ∀ {W' : Wd} {H' : Hp} {h : Hq}, Pw fz W H W' H' → Hok c.fa W' H' h → SqT K H' a vs ∧ SqT K H' b us := fun e k => ⟨.inl (.of (k.sub _ _ (e.le.1 _ _ hp))), .inl (.of (k.sub _ _ (e.le.1 _ _ hp')))⟩
  refine ⟨fun W' H' h i e k hi => ⟨vs, us, (l1 e k).1, (l1 e k).2, ?_⟩, fun W' H' h i e k hi => ?_, fun W' H' h i d x H2 e k hd y => ?_⟩
  · rw [List.length_map, List.length_zip] at hi
    rw [r.length, r'.length]; omega
  · rw [List.length_map, List.length_zip] at hi
    have h1 : i < vs.length := by rw [r.length]; omega
    have h2 : i < us.length := by rw [r'.length]; omega
    exact ⟨vs, us, vs[i], us[i], (l1 e k).1, (l1 e k).2, List.getElem?_eq_getElem h1, List.getElem?_eq_getElem h2⟩
  · obtain ⟨T, x1, y1, rfl, hT, rfl, q1, q2⟩ := y
    have hx := q1 vs (l1 e k).1
    have hy := q2 us (l1 e k).2
    obtain ⟨d1, hd1, rv⟩ := (e.le.repL r).getV hx
    obtain ⟨d2, hd2, ru⟩ := (e.le.repL r').getV hy
    rw [List.getElem?_map, List.zip, List.getElem?_zipWith, hd1, hd2] at hd
    cases hd
    obtain ⟨e2, k2⟩ := new_ext (o := .tup [x1, y1]) k hT
    exact ⟨_, e2, k2, .tup (by show upd W'.F T _ T = _; rw [upd_same]) (.cons (e2.rep rv) (.cons (e2.rep ru) .nil))⟩
theorem jw_zipM {K : PySem.W.Frag} {fz : Bool} {W : Wd} {H : Hp} {a b : Addr} {vs us : List V} {ds es : List D} (hp : W.F a = some (.tup vs)) (r : RepL c.fa W vs ds) (hp' : ∀ W' H' h', Pw fz W H W' H' → Hok c.fa W' H' h' → H' b = some (.lst us)) (r' : RepL c.fa W us es) :
    Jw c.fa fz W H (ItzM K a b (min vs.length us.length)) ((ds.zip es).map fun p => .tup [p.1, p.2]) := by
  have l1 : ∀ {W' : Wd} {H' : Hp} {h : Hq}, Pw fz W H W' H' → Hok c.fa W' H' h → SqT K H' a vs ∧ SqL K H' b us := fun e k => ⟨.inl (.of (k.sub _ _ (e.le.1 _ _ hp))), .inl (.of (hp' _ _ _ e k))⟩
  refine ⟨fun W' H' h i e k hi => ⟨vs, us, (l1 e k).1, (l1 e k).2, rfl, ?_⟩, fun W' H' h i e k hi => ?_, fun W' H' h i d x H2 e k hd y => ?_⟩
  · rw [List.length_map, List.length_zip] at hi
    rw [r.length, r'.length]; omega
  · rw [List.length_map, List.length_zip] at hi
    have h1 : i < vs.length := by rw [r.length]; omega
    have h2 : i < us.length := by rw [r'.length]; omega
    exact ⟨vs, us, vs[i], us[i], (l1 e k).1, (l1 e k).2, rfl, List.getElem?_eq_getElem h1, List.getElem?_eq_getElem h2⟩
  · obtain ⟨T, x1, y1, rfl, hT, rfl, q1, q2⟩ := y
    have hx := q1 vs (l1 e k).1
    have hy := q2 us (l1 e k).2
    obtain ⟨d1, hd1, rv⟩ := (e.le.repL r).getV hx
    obtain ⟨d2, hd2, ru⟩ := (e.le.repL r').getV hy
    rw [List.getElem?_map, List.zip, List.getElem?_zipWith, hd1, hd2] at hd
    cases hd
    obtain ⟨e2, k2⟩ := new_ext (o := .tup [x1, y1]) k hT
    exact ⟨_, e2, k2, .tup (by show upd W'.F T _ T = _; rw [upd_same]) (.cons (e2.rep rv) (.cons (e2.rep ru) .nil))⟩
theorem RepL.one {W : Wd} {vs : List V} {d : D} (r : RepL c.fa W vs [d]) : ∃ v, vs = [v] ∧ Rep c.fa W v d := by
  cases r with
  | cons r t => cases t; exact ⟨_, rfl, r⟩
theorem RepL.two {W : Wd} {vs : List V} {d e : D} (r : RepL c.fa W vs [d, e]) : ∃ v u, vs = [v, u] ∧ Rep c.fa W v d ∧ Rep c.fa W u e := by
  cases r with
  | cons r t =>
    obtain ⟨u, rfl, q⟩ := RepL.one t
    exact ⟨_, _, rfl, r, q⟩
theorem si_zip {fz : Bool} {m n : Mn.E} {x y : Expr} {f : Str} {p pos tpos : Pos} {elts : List Expr} {kk : Nat} (O : Gok c Γ cf k) (G : GX c E N k sc X) (hg : isGl sc f = true) (hn : f = "zip") (hfr : Γ.fr.contains f = true) (h : SE c cf E X m x) (h' : SE c cf E X n y) (hs : notStar x = true) (hs' : notStar y = true) (hz : fz = true → isB m = false ∧ isB n = false) :
    PI X (.Tuple elts kk tpos) (.Call (.Name f p) [x, y] [] pos) (tI c cf E fz (.zip m n)) := by
  obtain ⟨g1, g2⟩ := gl_of G hg
  have hm : X.mg f = none := by rw [G.mg]; exact O.fr f hfr
  subst hn
  refine weakI (RZ.pi_zipA g1 hm (sa_cons h hs (sa_cons h' hs' sa_nil)) (star_cons hs) (any_tail (e := x) (by rw [List.all_cons, List.all_cons, hs, hs']; rfl))) fun σ H R q => ?_
  obtain ⟨W, ρ, h, kk, r, g⟩ := q
  simp only [evI] at g
  refine ⟨W, ρ, h, kk, r, (Gd.two g).mono fun ds h1 g1 vs H1 W1 e1 k1 r1 n1 _ => ?_⟩
  obtain ⟨d, d2, rfl, g1⟩ := g1
  obtain ⟨ds, hd, q⟩ := g1.lift
  obtain ⟨v, u, rfl, rv, ru⟩ := r1.two
  have nf : fz = true → Rep c.fa W1 v d ∧ Rep c.fa W1 u d2 := fun z => by
    obtain ⟨h1, h2⟩ := hz z
    obtain ⟨v', u', e, q1, q2⟩ := (n1 (by simp [noB, h1, h2])).two
    cases e
    exact ⟨q1, q2⟩
  unfold zipOf at hd
  split at hd
  · cases hd
    obtain ⟨a, xs, rfl, h1, rl, h2⟩ := lst_at (fz := fz) k1 rv (fun z => (nf z).1)
    obtain ⟨b, ys, rfl, h3, rl', h4⟩ := lst_at (fz := fz) k1 ru (fun z => (nf z).2)
    exact ⟨a, b, xs, ys, rfl, .inl ⟨.inl (.of h1), .inl (.of h3), q _ H1 W1 e1 k1 (jw_zipL h2 rl h4 rl')⟩⟩
  · cases hd
    obtain ⟨a, xs, rfl, h1, h2, rl⟩ := rv.tup k1
    obtain ⟨b, ys, rfl, h3, h4, rl'⟩ := ru.tup k1
    exact ⟨a, b, xs, ys, rfl, .inr ⟨.inl (.of h1), .inl (.of h3), q _ H1 W1 e1 k1 (jw_zipT h2 rl h4 rl')⟩⟩
  · cases hd
theorem si_zipm {fz : Bool} {m n : Mn.E} {x y : Expr} {f : Str} {p pos tpos : Pos} {elts : List Expr} {kk : Nat} (O : Gok c Γ cf k) (G : GX c E N k sc X) (hg : isGl sc f = true) (hn : f = "zip") (hfr : Γ.fr.contains f = true) (h : SE c cf E X m x) (h' : SE c cf E X n y) (hs : notStar x = true) (hs' : notStar y = true) (hz : fz = true → isB m = false ∧ isB n = false) :
    PI X (.Tuple elts kk tpos) (.Call (.Name f p) [x, y] [] pos) (tI c cf E fz (.zipm m n)) := by
  obtain ⟨g1, g2⟩ := gl_of G hg
  have hm : X.mg f = none := by rw [G.mg]; exact O.fr f hfr
  subst hn
  refine weakI (pi_zipM g1 hm (sa_cons h hs (sa_cons h' hs' sa_nil)) (star_cons hs) (any_tail (e := x) (by rw [List.all_cons, List.all_cons, hs, hs']; rfl))) fun σ H R q => ?_
  obtain ⟨W, ρ, h, kk, r, g⟩ := q
  simp only [evI] at g
  refine ⟨W, ρ, h, kk, r, (Gd.two g).mono fun ds h1 g1 vs H1 W1 e1 k1 r1 n1 _ => ?_⟩
  obtain ⟨d, d2, rfl, g1⟩ := g1
  obtain ⟨ds, hd, q⟩ := g1.lift
  obtain ⟨v, u, rfl, rv, ru⟩ := r1.two
  have nf : fz = true → Rep c.fa W1 v d ∧ Rep c.fa W1 u d2 := fun z => by
    obtain ⟨h1, h2⟩ := hz z
    obtain ⟨v', u', e, q1, q2⟩ := (n1 (by simp [noB, h1, h2])).two
    cases e
    exact ⟨q1, q2⟩
  unfold zipmOf at hd
  split at hd
  · cases hd
    obtain ⟨a, xs, rfl, h1, h2, rl⟩ := rv.tup k1
    obtain ⟨b, ys, rfl, h3, rl', h4⟩ := lst_at (fz := fz) k1 ru (fun z => (nf z).2)
    exact ⟨a, b, xs, ys, rfl, .inl (.of h1), .inl (.of h3), q _ H1 W1 e1 k1 (jw_zipM h2 rl h4 rl')⟩
  · cases hd
theorem zipIdx_get {α : Type} {xs : List α} {i : Nat} {p : α × Nat} (h : xs.zipIdx[i]? = some p) : xs[i]? = some p.1 ∧ p.2 = i := by
  rw [List.getElem?_zipIdx, Option.map_eq_some_iff] at h
  obtain ⟨a, ha, rfl⟩ := h
  exact ⟨ha, by simp⟩
theorem jw_enum {K : PySem.W.Frag} {fz : Bool} {W : Wd} {H : Hp} {a : Addr} {vs : List V} {ds : List D} (hp : ∀ W' H' h', Pw fz W H W' H' → Hok c.fa W' H' h' → H' a = some (.lst vs)) (r : RepL c.fa W vs ds) : Jw c.fa fz W H (Ite K a) (ds.zipIdx.map fun p => .tup [.int (p.2 : Nat), p.1]) := by
  refine ⟨fun W' H' h i e k hi => ⟨vs, .inl (.of (hp _ _ _ e k)), ?_⟩, fun W' H' h i e k hi => ?_, fun W' H' h i d x H2 e k hd y => ?_⟩
  · rw [List.length_map, List.length_zipIdx] at hi
    rw [r.length]; exact hi
  · rw [List.length_map, List.length_zipIdx] at hi
    have hi' : i < vs.length := by rw [r.length]; exact hi
    exact ⟨vs, vs[i], .inl (.of (hp _ _ _ e k)), List.getElem?_eq_getElem hi'⟩
  · obtain ⟨T, x1, rfl, hT, rfl, q1⟩ := y
    have hx := q1 vs (.inl (.of (hp _ _ _ e k)))
    obtain ⟨d1, hd1, rv⟩ := (e.le.repL r).getV hx
    rw [List.getElem?_map, Option.map_eq_some_iff] at hd
    obtain ⟨p, hp2, rfl⟩ := hd
    obtain ⟨z1, z2⟩ := zipIdx_get hp2
    rw [hd1] at z1
    cases z1
    rw [z2]
    obtain ⟨e2, k2⟩ := new_ext (o := .tup [.int (i : Nat), x1]) k hT
    exact ⟨_, e2, k2, .tup (by show upd W'.F T _ T = _; rw [upd_same]) (.cons (.int _) (.cons (e2.rep rv) .nil))⟩
theorem jw_enumT {K : PySem.W.Frag} {fz : Bool} {W : Wd} {H : Hp} {a : Addr} {vs : List V} {ds : List D} (hp : W.F a = some (.tup vs)) (r : RepL c.fa W vs ds) : Jw c.fa fz W H (IteT K a) (ds.zipIdx.map fun p => .tup [.int (p.2 : Nat), p.1]) := by
  have l1 : ∀ {W' : Wd} {H' : Hp} {h : Hq}, Pw fz W H W' H' → Hok c.fa W' H' h → SqT K H' a vs := fun e k => .inl (.of (k.sub _ _ (e.le.1 _ _ hp)))
  refine ⟨fun W' H' h i e k hi => ⟨vs, l1 e k, ?_⟩, fun W' H' h i e k hi => ?_, fun W' H' h i d x H2 e k hd y => ?_⟩
  · rw [List.length_map, List.length_zipIdx] at hi
    rw [r.length]; exact hi
  · rw [List.length_map, List.length_zipIdx] at hi
    have hi' : i < vs.length := by rw [r.length]; exact hi
    exact ⟨vs, vs[i], l1 e k, List.getElem?_eq_getElem hi'⟩
  · obtain ⟨T, x1, rfl, hT, rfl, q1⟩ := y
    have hx := q1 vs (l1 e k)
    obtain ⟨d1, hd1, rv⟩ := (e.le.repL r).getV hx
    rw [List.getElem?_map, Option.map_eq_some_iff] at hd
    obtain ⟨p, hp2, rfl⟩ := hd
    obtain ⟨z1, z2⟩ := zipIdx_get hp2
    rw [hd1] at z1
    cases z1
    rw [z2]
    obtain ⟨e2, k2⟩ := new_ext (o := .tup [.int (i : Nat), x1]) k hT
    exact ⟨_, e2, k2, .tup (by show upd W'.F T _ T = _; rw [upd_same]) (.cons (.int _) (.cons (e2.rep rv) .nil))⟩
theorem si_enum {fz : Bool} {m : Mn.E} {x : Expr} {f : Str} {p pos tpos : Pos} {elts : List Expr} {kk : Nat} (O : Gok c Γ cf k) (G : GX c E N k sc X) (hg : isGl sc f = true) (hn : f = "enumerate") (hfr : Γ.fr.contains f = true) (h : SE c cf E X m x) (hs : notStar x = true) (hz : fz = true → isB m = false) :
    PI X (.Tuple elts kk tpos) (.Call (.Name f p) [x] [] pos) (tI c cf E fz (.enum m)) := by
  obtain ⟨g1, g2⟩ := gl_of G hg
  have hm : X.mg f = none := by rw [G.mg]; exact O.fr f hfr
  subst hn
  refine weakI (pi_enumT g1 hm (sa_cons h hs sa_nil) (star_cons hs)) fun σ H R q => ?_
  obtain ⟨W, ρ, h, kk, r, g⟩ := q
  simp only [evI] at g
  refine ⟨W, ρ, h, kk, r, (Gd.one g).mono fun ds h1 g1 vs H1 W1 e1 k1 r1 n1 _ => ?_⟩
  obtain ⟨d, rfl, g1⟩ := g1
  obtain ⟨ds, hd, q⟩ := g1.lift
  obtain ⟨v, rfl, rv⟩ := r1.one
  have nf : fz = true → Rep c.fa W1 v d := fun z => by
    obtain ⟨v', e, q1⟩ := (n1 (by simp [noB, hz z])).one
    cases e
    exact q1
  unfold enumOf at hd
  split at hd
  · cases hd
    obtain ⟨a, xs, rfl, h1, rl, h2⟩ := lst_at (fz := fz) k1 rv nf
    exact ⟨a, xs, rfl, .inl ⟨.inl (.of h1), q _ H1 W1 e1 k1 (jw_enum h2 rl)⟩⟩
  · cases hd
    obtain ⟨a, xs, rfl, h1, h2, rl⟩ := rv.tup k1
    exact ⟨a, xs, rfl, .inr ⟨.inl (.of h1), q _ H1 W1 e1 k1 (jw_enumT h2 rl)⟩⟩
  · cases hd
end
end Mn

namespace Mn
open PySem L2 PySem.Spec PyProof.Rows
section
variable {c : Cn} {Γ : Gam} {cf : Nat → List D → Hq → R D} {k : Nat} {E : XK} {N : List Str} {sc : Scope} {X : Cx}
/-! ### slots set, forgotten -/
theorem Sr.set {W : Wd} {H : Hp} {σ : L2.St} {ρ : Env} {v : V} {d : D} (r : Sr c.fa W H σ ρ) (rv : Rep c.fa W v d) (i : Nat) : Sr c.fa W H (σ.set i (some v)) (ρ.set i (.fz d)) := by
  refine ⟨by rw [List.length_set, List.length_set]; exact r.len, fun j e h => ?_, fun j e h => ?_, fun j l p e f h1 h2 h3 h4 => ?_⟩
  · by_cases hj : i = j
    · subst hj
      have hl : i < ρ.length := by
        have := (List.getElem?_eq_some_iff.mp h).1
        rwa [List.length_set] at this
      rw [List.getElem?_set_self hl] at h
      cases h
      exact ⟨v, List.getElem?_set_self (by rw [r.len]; exact hl), rv⟩
    · rw [List.getElem?_set_ne hj] at h ⊢
      exact r.fz j e h
  · by_cases hj : i = j
    · subst hj
      have hl : i < ρ.length := by
        have := (List.getElem?_eq_some_iff.mp h).1
        rwa [List.length_set] at this
      rw [List.getElem?_set_self hl] at h
      cases h
    · rw [List.getElem?_set_ne hj] at h ⊢
      exact r.ow j e h
  · have ne : ∀ {j : Nat} {e : D}, (ρ.set i (.fz d))[j]? = some (.ow e) → i ≠ j := fun {j e} h hj => by
      subst hj
      have hl : i < ρ.length := by
        have := (List.getElem?_eq_some_iff.mp h).1
        rwa [List.length_set] at this
      rw [List.getElem?_set_self hl] at h
      cases h
    have n1 := ne h1
    have n2 := ne h2
    rw [List.getElem?_set_ne n1] at h1 h3
    rw [List.getElem?_set_ne n2] at h2 h4
    exact r.ne j l p e f h1 h2 h3 h4
theorem Sr.no {W : Wd} {H : Hp} {σ : L2.St} {ρ : Env} (r : Sr c.fa W H σ ρ) (i : Nat) (x : Option V) : Sr c.fa W H (σ.set i x) (ρ.set i .no) := by
  have ne : ∀ {j : Nat} {s : Sl}, (ρ.set i .no)[j]? = some s → s ≠ .no → i ≠ j := fun {j s} h hs hj => by
    subst hj
    have hl : i < ρ.length := by
      have := (List.getElem?_eq_some_iff.mp h).1
      rwa [List.length_set] at this
    rw [List.getElem?_set_self hl] at h
    cases h
    exact hs rfl
  refine ⟨by rw [List.length_set, List.length_set]; exact r.len, fun j e h => ?_, fun j e h => ?_, fun j l p e f h1 h2 h3 h4 => ?_⟩
  · have hj := ne h (by simp)
    rw [List.getElem?_set_ne hj] at h ⊢
    exact r.fz j e h
  · have hj := ne h (by simp)
    rw [List.getElem?_set_ne hj] at h ⊢
    exact r.ow j e h
  · have n1 := ne h1 (by simp)
    have n2 := ne h2 (by simp)
    rw [List.getElem?_set_ne n1] at h1 h3
    rw [List.getElem?_set_ne n2] at h2 h4
    exact r.ne j l p e f h1 h2 h3 h4
theorem Sr.wipe {W : Wd} {H : Hp} {σ : L2.St} {ρ : Env} (r : Sr c.fa W H σ ρ) : ∀ vs : List Nat, Sr c.fa W H (L2.wipe σ vs) (wipeE ρ vs)
  | [] => r
  | v :: vs => (Sr.wipe r vs).no v none
theorem wipe_get (σ : L2.St) (j : Nat) : ∀ vs : List Nat, (L2.wipe σ vs)[j]? = if j ∈ vs then σ[j]?.map (fun _ => none) else σ[j]?
  | [] => by simp [L2.wipe]
  | v :: vs => by
    have ih := wipe_get σ j vs
    show ((L2.wipe σ vs).set v none)[j]? = _
    rw [List.getElem?_set]
    by_cases hv : v = j
    · subst hv
      rw [if_pos rfl, if_pos List.mem_cons_self, wipe_length]
      by_cases hl : v < σ.length
      · rw [if_pos hl, List.getElem?_eq_getElem hl]; rfl
      · rw [if_neg hl, List.getElem?_eq_none (by omega)]; rfl
    · rw [if_neg hv, ih]
      by_cases hm : j ∈ vs
      · rw [if_pos hm, if_pos (List.mem_cons_of_mem _ hm)]
      · rw [if_neg hm, if_neg (by simp only [List.mem_cons, not_or]; exact ⟨fun e => hv e.symm, hm⟩)]
theorem wipe_set {σ τ : L2.St} {i : Nat} {x : Option V} {vs : List Nat} (hi : i ∈ vs) (h : L2.wipe τ vs = L2.wipe σ vs) : L2.wipe (τ.set i x) vs = L2.wipe σ vs := by
  rw [← h]
  refine List.ext_getElem? fun j => ?_
  rw [wipe_get, wipe_get]
  by_cases hj : j ∈ vs
  · rw [if_pos hj, if_pos hj, List.getElem?_set]
    by_cases e : i = j
    · subst e
      rw [if_pos rfl]
      by_cases hl : i < τ.length
      · rw [if_pos hl, List.getElem?_eq_getElem hl]; rfl
      · rw [if_neg hl, List.getElem?_eq_none (by omega)]
    · rw [if_neg e]
  · rw [if_neg hj, if_neg hj, List.getElem?_set_ne (fun e : i = j => hj (e ▸ hi))]
theorem wipe_wipe (σ : L2.St) (vs : List Nat) : L2.wipe (L2.wipe σ vs) vs = L2.wipe σ vs := by
  refine List.ext_getElem? fun j => ?_
  rw [wipe_get, wipe_get]
  by_cases hj : j ∈ vs
  · rw [if_pos hj, if_pos hj]; cases σ[j]? <;> rfl
  · rw [if_neg hj, if_neg hj]
/-! ### targets -/
/-- a target as the table's one -/
def gT (c : Cn) (tg : Tg) : TG := fun v σ H Q => ∃ W h d ρ ρ', Hok c.fa W H h ∧ Sr c.fa W H σ ρ ∧ Rep c.fa W v d ∧ bindTg tg d ρ = some ρ' ∧ ∀ σ', Sr c.fa W H σ' ρ' → L2.wipe σ' tg.slots = L2.wipe σ tg.slots → σ'.length = σ.length → (∀ j, j ∉ tg.slots → σ'[j]? = σ[j]?) → Q σ' H
theorem weakG {e : Expr} {t t' : TG} (h : PG X e t) (i : ∀ v σ H Q, t' v σ H Q → t v σ H Q) : PG X e t' := ⟨fun pins s σ H v u Q I r q => h.run pins s σ H v u Q I r (i v σ H Q q)⟩
/-- names may be stored to in a def's body, in a block -/
def FnT (X : Cx) (sc : Scope) : Prop := ∀ x, (sc.names.lookup x == some .local || sc.names.lookup x == some .cell) = true → Loc X.env.scope x ∧ (X.fn x = true ∨ X.env.scope.names.lookup x = some .local)
section
variable {sc' : Scope}
theorem sg_name {i : Nat} {x : Str} {pos : Pos} (G : GX c E N k sc X) (hf : FnT X sc') (h : chkTg N sc' (.nm i) (.Name x pos) = true) : PG X (.Name x pos) (gT c (.nm i)) := by
  simp only [chkTg, Bool.and_eq_true, decide_eq_true_eq] at h
  have hl := (hf x h.2).1
  refine weakG (pg_name (by rw [G.nm]; exact G.nd) (by rw [G.nm]; exact h.1) hl (hf x h.2).2) fun v σ H Q q => ?_
  obtain ⟨W, hh, d, ρ, ρ', kk, r, rv, hb, q⟩ := q
  simp only [bindTg, Option.some.injEq] at hb
  subst hb
  exact q _ (r.set rv i) (wipe_set (by simp [Tg.slots]) rfl) (List.length_set ..) fun j hj => List.getElem?_set_ne (fun e => hj (by simp [Tg.slots, e]))
def gN : List Nat → TGs
  | [] => gNil
  | i :: is => gCons (gName i) (gN is)
def isNm (N : List Str) (sc : Scope) (i : Nat) : Expr → Bool
  | .Name x _ => decide (N[i]? = some x) && (sc.names.lookup x == some .local || sc.names.lookup x == some .cell)
  | _ => false
theorem isNm_name {i : Nat} {e : Expr} (h : isNm N sc' i e = true) : ∃ x pos, e = .Name x pos ∧ N[i]? = some x ∧ (sc'.names.lookup x == some .local || sc'.names.lookup x == some .cell) = true := by
  cases e <;> first | (simp only [isNm, Bool.and_eq_true, decide_eq_true_eq] at h; exact ⟨_, _, rfl, h.1, h.2⟩) | (exact Bool.noConfusion h)
theorem sg_names (G : GX c E N k sc X) (hf : FnT X sc') : ∀ {is : List Nat} {es : List Expr}, is.length = es.length → ((is.zip es).all fun p => isNm N sc' p.1 p.2) = true → PGs X es (gN is) ∧ (assignEach es X.env).length = es.length ∧ (assignEach es X.env).findIdx? (·.1) = none
  | [], [], _, _ => ⟨pgs_nil, rfl, rfl⟩
  | [], _ :: _, h, _ => by simp at h
  | _ :: _, [], h, _ => by simp at h
  | i :: is, e :: es, hl, h => by
    rw [List.zip_cons_cons, List.all_cons, Bool.and_eq_true] at h
    obtain ⟨x, pos, rfl, h1, h2⟩ := isNm_name h.1
    obtain ⟨z1, z2, z3⟩ := sg_names G hf (is := is) (es := es) (by simpa using hl) h.2
    have hlx := (hf x h2).1
    refine ⟨pgs_cons (pg_name (by rw [G.nm]; exact G.nd) (by rw [G.nm]; exact h1) hlx (hf x h2).2) z1 rfl, ?_, ?_⟩
    · show (assignEach es X.env).length + 1 = _
      rw [z2]; rfl
    · show List.findIdx? (·.1) ((false, _) :: assignEach es X.env) = none
      rw [List.findIdx?_cons, z3]
      rfl
theorem gN_run {W : Wd} {H : Hp} {Q : L2.St → Hp → Prop} {vs0 : List Nat} {σ0 : L2.St} : ∀ {is : List Nat} {vs : List V} {ds : List D} {σ : L2.St} {ρ : Env}, RepL c.fa W vs ds → is.length = ds.length → Sr c.fa W H σ ρ → (∀ i ∈ is, i ∈ vs0) → L2.wipe σ vs0 = L2.wipe σ0 vs0 → σ.length = σ0.length → (∀ j, j ∉ vs0 → σ[j]? = σ0[j]?) →
    (∀ σ', Sr c.fa W H σ' ((is.zip ds).foldl (fun r p => r.set p.1 (.fz p.2)) ρ) → L2.wipe σ' vs0 = L2.wipe σ0 vs0 → σ'.length = σ0.length → (∀ j, j ∉ vs0 → σ'[j]? = σ0[j]?) → Q σ' H) → gN is vs σ H Q
  | [], _, _, σ, ρ, .nil, _, r, _, hw, hl, hj, q => ⟨rfl, q σ r hw hl hj⟩
  | [], _, _, _, _, .cons _ _, h, _, _, _, _, _, _ => by simp at h
  | _ :: _, _, _, _, _, .nil, h, _, _, _, _, _, _ => by simp at h
  | i :: is, _, _, σ, ρ, .cons (v := v) (d := d) rv rt, h, r, hm, hw, hl, hj, q => by
    refine ⟨_, _, rfl, ?_⟩
    refine gN_run rt (by simpa using h) (r.set rv i) (fun j hj => hm j (List.mem_cons_of_mem _ hj)) (wipe_set (hm i List.mem_cons_self) hw) (by rw [List.length_set]; exact hl) (fun j hn => ?_) q
    rw [List.getElem?_set_ne (fun e : i = j => hn (e ▸ hm i List.mem_cons_self))]
    exact hj j hn
theorem chkTg_tp {is : List Nat} {es : List Expr} {z : _} {pos : Pos} (h : chkTg N sc' (.tp is) (.Tuple es z pos) = true) : is.length = es.length ∧ ((is.zip es).all fun p => isNm N sc' p.1 p.2) = true := by
  simp only [chkTg, Bool.and_eq_true, decide_eq_true_eq] at h
  refine ⟨h.1.1, ?_⟩
  have h2 := h.1.2
  rw [List.all_eq_true] at h2 ⊢
  intro p hp
  have := h2 p hp
  obtain ⟨i, e⟩ := p
  cases e <;> first | exact this | (exact absurd this (by simp))
theorem sg_tup {is : List Nat} {es : List Expr} {z : _} {pos : Pos} (G : GX c E N k sc X) (hf : FnT X sc') (h : chkTg N sc' (.tp is) (.Tuple es z pos) = true) : PG X (.Tuple es z pos) (gT c (.tp is)) := by
  obtain ⟨hl, ha⟩ := chkTg_tp h
  obtain ⟨z1, z2, z3⟩ := sg_names G hf hl ha
  refine weakG (pg_tup G.calm z1 z2 z3) fun v σ H Q q => ?_
  obtain ⟨W, hh, d, ρ, ρ', kk, r, rv, hb, q⟩ := q
  cases d with
  | tup ds =>
    simp only [bindTg] at hb
    split at hb
    · rename_i hlen
      cases hb
      cases rv with
      | tup hp rl =>
        refine ⟨_, _, rfl, .inl (.of (kk.sub _ _ hp)), by rw [rl.length, ← hlen, hl], ?_⟩
        exact gN_run (vs0 := is) rl hlen r (fun _ h => h) rfl rfl (fun _ _ => rfl) fun σ' s1 s2 s3 s4 => q σ' s1 s2 s3 s4
    · cases hb
  | _ => exact absurd hb (by simp [bindTg])
theorem sg_of {tg : Tg} {e : Expr} (G : GX c E N k sc X) (hf : FnT X sc') (h : chkTg N sc' tg e = true) : PG X e (gT c tg) := by
  cases tg with
  | nm i => cases e <;> first | exact sg_name G hf h | (exact Bool.noConfusion h)
  | tp is => cases e <;> first | exact sg_tup G hf h | (exact Bool.noConfusion h)
end
/-! ### comprehensions -/
def E0 : XK := fun _ _ _ => False
theorem own_blk {N : List Str} {sc sc2 : Scope} (hw : (ownSc N sc || !ownSc N sc2) = true) (z : ownSc N sc2 = true) : ownSc N sc = true := by
  rw [z] at hw; simpa using hw
theorem GX.blk (G : GX c E N k sc X) (hn : lamSc sc = false) {scope : Scope} (hw : (ownSc N sc || !ownSc N (relab scope sc)) = true) {s : Shared} {H : Hp} {cl : List (Str × Addr)} {C : Addr} {fp : List Addr} : GX c E0 N k (relab scope sc) (X.blk s H scope (compEnvC scope cl C X.env) fp) :=
  ⟨G.prog, G.w, G.K, G.mg, G.base, G.calm, G.nm, G.nd, by show relabel scope X.env = _; rw [relab_eq, G.sc], G.room, G.gd, fun pins σ H s e s' I h => (G.cx _ _ _ _ _ h).elim, G.fk, G.cx, fun _ => G.r1 (by rw [G.sc]; exact hn), fun z => G.r2 (by rw [G.sc]; exact own_blk hw (by rw [← G.sc]; exact z)), fun z => G.lm (by rw [G.sc]; exact own_blk hw (by rw [← G.sc]; exact z))⟩
theorem tgSlots {N : List Str} {tg : Tg} (h : tg.slots.length = (tgNames N tg).length) : (tgNames N tg).map (·.2) = tg.slots := by
  unfold tgNames at h ⊢
  generalize tg.slots = l at h ⊢
  induction l with
  | nil => rfl
  | cons i l ih =>
    rw [List.filterMap_cons] at h ⊢
    have hle : (l.filterMap fun i => N[i]?.map (·, i)).length ≤ l.length := List.length_filterMap_le ..
    cases hN : N[i]? with
    | none =>
      rw [hN] at h
      simp only [Option.map_none, List.length_cons] at h
      omega
    | some x =>
      rw [hN] at h
      simp only [Option.map_some, List.length_cons, Nat.add_right_cancel_iff] at h
      simp only [Option.map_some, List.map_cons]
      rw [ih h]
/-- a list of one's own grows -/
theorem relab_look {scope o : Scope} {x : Str} {kd : NameKind} (h : scope.names.lookup x = some kd) (hk : kd = .local ∨ kd = .cell) : (relab scope o).names.lookup x = some kd := by
  unfold relab
  show List.lookup x (scope.names.map _) = _
  generalize scope.names = l at h
  induction l with
  | nil => cases h
  | cons p l ih =>
    obtain ⟨n, k2⟩ := p
    rw [List.lookup_cons] at h
    rw [List.map_cons]
    by_cases hx : (x == n) = true
    · rw [hx] at h
      cases h
      have e : (kd == NameKind.free) = false := by rcases hk with rfl | rfl <;> decide
      simp only [e, Bool.false_and, Bool.false_eq_true, if_false, List.lookup_cons, hx]
    · have hx' : (x == n) = false := by simpa using hx
      rw [hx'] at h
      have ih := ih h
      by_cases hc : (k2 == NameKind.free && o.kind == ScopeKind.function && o.names.lookup n == some NameKind.cell) = true
      · simp only [hc, if_true, List.lookup_cons, hx']
        exact ih
      · have hc' : (k2 == NameKind.free && o.kind == ScopeKind.function && o.names.lookup n == some NameKind.cell) = false := by simpa using hc
        simp only [hc', Bool.false_eq_true, if_false, List.lookup_cons, hx']
        exact ih
theorem fnT_blk {s : Shared} {H : Hp} {scope : Scope} {cl : List (Str × Addr)} {C : Addr} {fp : List Addr} : FnT (X.blk s H scope (compEnvC scope cl C X.env) fp) scope := fun x hx => by
  simp only [Bool.or_eq_true, beq_iff_eq] at hx
  rcases hx with q | q
  · have z := relab_look (o := X.env.scope) q (.inl rfl)
    exact ⟨.inl z, .inr z⟩
  · have z := relab_look (o := X.env.scope) q (.inr rfl)
    exact ⟨.inr z, .inl (by show (scope.names.lookup x == some NameKind.cell) = true; rw [q]; decide)⟩
end
end Mn

namespace Mn
open PySem L2 PySem.Spec PyProof.Rows
section
variable {c : Cn} {Γ : Gam} {cf : Nat → List D → Hq → R D} {k : Nat} {E : XK} {N : List Str} {sc : Scope} {X : Cx}
/-- the test of a comprehension -/
def tC? (c : Cn) (cf : Nat → List D → Hq → R D) (cond : Env → Hq → R D) : TT := fun σ H Q => ∃ W ρ h b bb h2, Hok c.fa W H h ∧ Sr c.fa W H σ ρ ∧ cond ρ h = .ok b h2 ∧ truthy b = some bb ∧ ∀ H' W', Ext W H W' H' → Hok c.fa W' H' h2 → Q bb H'
theorem weakTs {es : List Expr} {t t' : TT} (h : PTs X es t) (i : ∀ σ H Q, t' σ H Q → t σ H Q) : PTs X es t' := ⟨fun pins s σ H Q I q => h.run pins s σ H Q I (i σ H Q q)⟩
theorem st_nil : PTs X [] (tC? c cf fun _ h => .ok (.bl true) h) := by
  refine weakTs pts_nil fun σ H Q q => ?_
  obtain ⟨W, ρ, h, b, bb, h2, kk, r, e1, e2, q⟩ := q
  cases e1
  cases e2
  exact q H W (.refl W H) kk
theorem st_one {m : Mn.E} {e : Expr} (h : PT X e (tT c cf E0 m)) : PTs X [e] (tC? c cf (evE cf m)) := by
  refine weakTs (pts_one h) fun σ H Q q => ?_
  obtain ⟨W, ρ, h, b, bb, h2, kk, r, e1, e2, q⟩ := q
  refine ⟨W, ρ, h, kk, r, ?_⟩
  rw [e1]
  show Gd c E0 W H (liftO (truthy b) h2) _
  rw [e2]
  exact q
/-- what a comprehension gives -/
def tL (c : Cn) (cf : Nat → List D → Hq → R D) (E : XK) (me : Mn.E) (cond : Env → Hq → R D) (tg : Tg) (it : Mn.It) : TE := fun σ H Q => ∃ W ρ h, Hok c.fa W H h ∧ Sr c.fa W H σ ρ ∧ Gd c E W H ((evI cf it ρ h).bind fun ds h => if ds.length ≤ 16777216 then (lcF (evE cf me) cond tg (wipeE ρ tg.slots) ds h).nox.bind fun r h => .ok (.lst r) h else .bad) fun d h' => ∀ v H' W', Ext W H W' H' → Hok c.fa W' H' h' → ResN c.fa W H W' H' v d → Q v H'
theorem lc_t {me : Mn.E} {cond : Env → Hq → R D} {tg : Tg} {it : Mn.It} {σ : L2.St} {H : Hp} {Q : VK} (q : tL c cf E me cond tg it σ H Q) : tLc (tI c cf E false it) (gT c tg) (tC? c cf cond) (tF c cf E0 me) tg.slots σ H Q := by
  obtain ⟨W, ρ, h, kk, r, g⟩ := q
  refine ⟨W, ρ, h, kk, r, (Gd.bind g).mono fun ds h1 g1 J H1 W1 e1 k1 jw D hD => ?_⟩
  by_cases hlen : ds.length ≤ 16777216
  case neg => rw [if_neg hlen] at g1; exact False.elim g1
  rw [if_pos hlen] at g1
  obtain ⟨res, h9, hres, q⟩ := (Gd.bind g1).nox
  obtain ⟨f1, f2, f3, f4⟩ := fresh_ext (o := .lst []) k1 hD
  have hD0 : H D = none := by
    cases e : H D with
    | none => rfl
    | some u => exact absurd hD (e1.t D (by rw [e]; simp))
  refine ⟨fun i m H2 => m = ds.length - i ∧ i ≤ ds.length ∧ ∃ W2 h2 av ad rest, Ext W1 H1 W2 H2 ∧ Hok c.fa W2 H2 h2 ∧ W2.F D = none ∧ D ∉ W2.C ∧ H2 D = some (.lst av) ∧ RepL c.fa W2 av ad ∧ ad.length ≤ i ∧ lcF (evE cf me) cond tg (wipeE ρ tg.slots) (ds.drop i) h2 = .ok rest h9 ∧ ad ++ rest = res, ?_, ?_⟩
  · exact ⟨_, rfl, Nat.zero_le _, W1, h1, [], [], res, f1, f2, f3, f4, upd_same, .nil, Nat.le_refl _, hres, rfl⟩
  · rintro i m H2 ⟨rfl, hi2, W2, h2, av, ad, rest, x1, x2, x3, x4, x5, x6, x7, x8, x9⟩
    by_cases hlt : i < ds.length
    · refine .inr ⟨jw.go W2 H2 h2 i x1 x2 hlt, fun H3 => ∃ W2 h2 av ad rest, Ext W1 H1 W2 H3 ∧ Hok c.fa W2 H3 h2 ∧ W2.F D = none ∧ D ∉ W2.C ∧ H3 D = some (.lst av) ∧ RepL c.fa W2 av ad ∧ ad.length ≤ i + 1 ∧ lcF (evE cf me) cond tg (wipeE ρ tg.slots) (ds.drop (i + 1)) h2 = .ok rest h9 ∧ ad ++ rest = res, fun H' z => ⟨_, by omega, rfl, hlt, z⟩, fun x H3 y => ?_⟩
      have hd : ds[i]? = some ds[i] := List.getElem?_eq_getElem hlt
      obtain ⟨W3, e3, k3, rv⟩ := jw.yld W2 H2 h2 i _ x H3 x1 x2 hd y
      rw [List.drop_eq_getElem_cons hlt] at x8
      unfold lcF at x8
      have inv : ∀ {α β : Type} {r : R α} {f : α → Hq → R β} {b : β} {hh : Hq}, r.bind f = .ok b hh → ∃ a h', r = .ok a h' ∧ f a h' = .ok b hh := fun {α β r f b hh} e => by
        cases r with
        | ok a h => exact ⟨a, h, rfl, e⟩
        | exc _ _ _ => cases e
        | bad => cases e
      have linv : ∀ {α : Type} {o : Option α} {h : Hq} {b : α} {hh : Hq}, liftO o h = .ok b hh → o = some b ∧ hh = h := fun {α o h b hh} e => by
        cases o with
        | none => cases e
        | some a => cases e; exact ⟨rfl, rfl⟩
      have ninv : ∀ {α : Type} {r : R α} {b : α} {hh : Hq}, r.nox = .ok b hh → r = .ok b hh := fun {α r b hh} e => by
        cases r with
        | ok a h => exact e
        | exc _ _ _ => cases e
        | bad => cases e
      obtain ⟨ρ', hb1, y1, y2⟩ := inv x8
      obtain ⟨z1, rfl⟩ := linv y1
      obtain ⟨b, hb2, y3, y4⟩ := inv y2
      have z3 := ninv y3
      obtain ⟨bb, hb3, y5, y6⟩ := inv y4
      obtain ⟨z5, rfl⟩ := linv y5
      have sr0 := (((r.ext e1).ext x1).ext e3).wipe tg.slots
      refine ⟨W3, hb1, _, _, ρ', k3, sr0, rv, z1, fun σ3 s1 s2 s3 s4 => ⟨by rw [s2, wipe_wipe], W3, ρ', hb1, b, bb, hb3, k3, s1, z3, z5, fun H4 W4 e4 k4 => ?_⟩⟩
      have nD3 : W3.F D = none ∧ D ∉ W3.C ∧ H3 D = some (.lst av) := ⟨e3.n D _ x5 noT_lst.2.2 x3, e3.notC x5 x4, e3.k D _ x5 x4 noT_lst.1⟩
      have nD4 : W4.F D = none ∧ D ∉ W4.C ∧ H4 D = some (.lst av) := ⟨e4.n D _ nD3.2.2 noT_lst.2.2 nD3.1, e4.notC nD3.2.2 nD3.2.1, e4.k D _ nD3.2.2 nD3.2.1 noT_lst.1⟩
      cases bb with
      | false =>
        rw [if_neg Bool.false_ne_true] at y6
        dsimp only
        rw [if_neg Bool.false_ne_true]
        exact ⟨W4, hb3, av, ad, rest, (x1.trans e3).trans e4, k4, nD4.1, nD4.2.1, nD4.2.2, e4.repL (e3.repL x6), by omega, y6, x9⟩
      | true =>
        rw [if_pos rfl] at y6
        dsimp only
        rw [if_pos rfl]
        obtain ⟨el, h5, y7, y8⟩ := inv y6
        have z7 := ninv y7
        obtain ⟨r2, h6, y9, y10⟩ := inv y8
        cases y10
        refine ⟨W4, ρ', hb3, k4, s1.ext e4, ?_⟩
        rw [z7]
        intro v H5 W5 e5 k5 r5
        have nD5 : W5.F D = none ∧ D ∉ W5.C ∧ H5 D = some (.lst av) := ⟨e5.n D _ nD4.2.2 noT_lst.2.2 nD4.1, e5.notC nD4.2.2 nD4.2.1, e5.k D _ nD4.2.2 nD4.2.1 noT_lst.1⟩
        refine ⟨av, nD5.2.2, by rw [x6.length, sizeLine_eq]; omega, ?_⟩
        have ee := ((x1.trans e3).trans e4).trans e5
        obtain ⟨u1, u2⟩ := own_upd (o := .lst (av ++ [v])) ee k5 hD nD5.1 nD5.2.1 nD5.2.2 noT_lst
        exact ⟨W5, h5, av ++ [v], ad ++ [el], r2, u1, u2, nD5.1, nD5.2.1, upd_same, (e5.repL (e4.repL (e3.repL x6))).append (.cons r5 .nil), by rw [List.length_append]; simp; omega, y9, by rw [List.append_assoc]; exact x9⟩
    · refine .inl ⟨jw.stop W2 H2 h2 i x1 x2 (by omega), ?_⟩
      rw [List.drop_eq_nil_of_le (by omega)] at x8
      unfold lcF at x8
      cases x8
      rw [List.append_nil] at x9
      subst x9
      exact q _ H2 W2 (e1.trans x1) x2 (.inr ⟨D, rfl, hD0, x3, x4, ad, av, rfl, x5, x6⟩)

/-- the parts of a comprehension are good -/
structure LcP (c : Cn) (cf : Nat → List D → Hq → R D) (E : XK) (X : Cx) (me : Mn.E) (cond : Env → Hq → R D) (tg : Tg) (it : Mn.It) (elt t i : Expr) (ifs : List Expr) (scope : Scope) : Prop where
  pi : PI X t i (tI c cf E false it)
  ok : BlkOk X.N X.env.scope scope (tgNames X.N tg)
  nd : X.N.Nodup
  calm : X.calm = true
  hl : tg.slots.length = (tgNames X.N tg).length
  pg : ∀ s H C cl fp, PG (X.blk s H scope (compEnvC scope cl C X.env) fp) t (gT c tg)
  pt : ∀ s H C cl fp, PTs (X.blk s H scope (compEnvC scope cl C X.env) fp) ifs (tC? c cf cond)
  pe : ∀ s H C cl fp, PE (X.blk s H scope (compEnvC scope cl C X.env) fp) elt (tF c cf E0 me)
  hs : ∀ x, foldedSetIterable i X.env x = pure x
theorem LcP.of {me : Mn.E} {cond : Env → Hq → R D} {tg : Tg} {it : Mn.It} {elt t i : Expr} {ifs : List Expr} {scope : Scope} (G : GX c E N k sc X) (hn : lamSc sc = false) (hw : (ownSc N sc || !ownSc N (relab scope sc)) = true) (hi : PI X t i (tI c cf E false it)) (ht : chkTg N scope tg t = true) (hb : blkC N sc scope (tgNames N tg) = true)
    (hl : tg.slots.length = (tgNames N tg).length) (hT : ∀ X', GX c E0 N k (relab scope sc) X' → PTs X' ifs (tC? c cf cond)) (hE : ∀ X', GX c E0 N k (relab scope sc) X' → PE X' elt (tF c cf E0 me)) (hs : ∀ x, foldedSetIterable i X.env x = pure x) : LcP c cf E X me cond tg it elt t i ifs scope :=
  ⟨hi, by rw [G.nm, G.sc]; exact blkOk_by hb, by rw [G.nm]; exact G.nd, G.calm, by rw [G.nm]; exact hl, fun s H C cl fp => sg_of (GX.blk G hn hw) fnT_blk ht, fun s H C cl fp => hT _ (GX.blk G hn hw), fun s H C cl fp => hE _ (GX.blk G hn hw), hs⟩
theorem LcP.e {me : Mn.E} {cond : Env → Hq → R D} {tg : Tg} {it : Mn.It} {elt t i : Expr} {ifs : List Expr} {scope : Scope} {pos : Pos} (P : LcP c cf E X me cond tg it elt t i ifs scope) : PE X (.ListComp elt [⟨t, i, ifs, 0⟩] scope pos) (tL c cf E me cond tg it) := by
  refine weakE (pe_lc P.calm P.nd P.pi P.ok P.pg P.pt P.pe P.hs) fun σ H Q q => ?_
  rw [tgSlots P.hl]
  exact lc_t q
theorem weakS {st : Stmt} {t t' : TS} (h : PS X st t) (i : ∀ D σ H, t' D σ H → t D σ H) : PS X st t' := ⟨fun pins s σ H D I q => h.run pins s σ H D I (i D σ H q)⟩
theorem LcP.s {me : Mn.E} {cond : Env → Hq → R D} {tg : Tg} {it : Mn.It} {elt t i : Expr} {ifs : List Expr} {scope : Scope} {pos spos py : Pos} {y : Str} {j : Nat} (P : LcP c cf E X me cond tg it elt t i ifs scope) (hy : X.N[j]? = some y) (hyl : X.env.scope.names.lookup y = some .local)
    (hsw : swapsWith (.ListComp elt [⟨t, i, ifs, 0⟩] scope pos) (some (.Name y py)) spos.line X.env = pure true) : PS X (.Assign [.Name y py] (.ListComp elt [⟨t, i, ifs, 0⟩] scope pos) spos) (tAsg (tL c cf E me cond tg it) (gName j)) := by
  refine weakS (ps_setLc P.calm P.nd hy hyl hsw P.pi P.ok P.pg P.pt P.pe P.hs) fun D σ H q => ?_
  rw [tgSlots P.hl]
  exact lc_t q
/-- an expression's rule, also for a name that is set to a comprehension -/
def isLC : Expr → Bool
  | .ListComp _ _ _ _ => true
  | _ => false
def LS (c : Cn) (cf : Nat → List D → Hq → R D) (E : XK) (X : Cx) (m : Mn.E) (e : Expr) : Prop := ∀ (j : Nat) (y : Str) (py spos : Pos), X.N[j]? = some y → X.env.scope.names.lookup y = some .local → swapsWith e (some (.Name y py)) spos.line X.env = pure true → PS X (.Assign [.Name y py] e spos) (tAsg (tN c cf E m) (gName j))
theorem s_lc {m : Mn.E} {tg : Tg} {it : Mn.It} {elt t i : Expr} {scope : Scope} {pos : Pos} (P : LcP c cf E X m (fun _ h => .ok (.bl true) h) tg it elt t i [] scope) : SE c cf E X (.lc m tg it) (.ListComp elt [⟨t, i, [], 0⟩] scope pos) ∧ LS c cf E X (.lc m tg it) (.ListComp elt [⟨t, i, [], 0⟩] scope pos) := by
  have key : ∀ σ H Q, tN c cf E (.lc m tg it) σ H Q → tL c cf E m (fun _ h => .ok (.bl true) h) tg it σ H Q := fun σ H Q q => by
    obtain ⟨W, ρ, h, kk, r, g⟩ := q
    simp only [evE] at g
    exact ⟨W, ρ, h, kk, r, g⟩
  exact ⟨.ofN (weakE P.e key), fun j y py spos h1 h2 h3 => weakS (P.s h1 h2 h3) fun D σ H q => key _ _ _ q⟩
theorem s_lcif {m cc : Mn.E} {tg : Tg} {it : Mn.It} {elt t i f : Expr} {scope : Scope} {pos : Pos} (P : LcP c cf E X m (evE cf cc) tg it elt t i [f] scope) : SE c cf E X (.lcif m tg it cc) (.ListComp elt [⟨t, i, [f], 0⟩] scope pos) ∧ LS c cf E X (.lcif m tg it cc) (.ListComp elt [⟨t, i, [f], 0⟩] scope pos) := by
  have key : ∀ σ H Q, tN c cf E (.lcif m tg it cc) σ H Q → tL c cf E m (evE cf cc) tg it σ H Q := fun σ H Q q => by
    obtain ⟨W, ρ, h, kk, r, g⟩ := q
    simp only [evE] at g
    exact ⟨W, ρ, h, kk, r, g⟩
  exact ⟨.ofN (weakE P.e key), fun j y py spos h1 h2 h3 => weakS (P.s h1 h2 h3) fun D σ H q => key _ _ _ q⟩
end
end Mn

namespace Mn
open PySem L2 PySem.Spec PyProof.Rows
theorem band {a b : Bool} (h : (a && b) = true) : a = true ∧ b = true := by rwa [Bool.and_eq_true] at h
theorem bdec {p : Prop} [Decidable p] (h : decide p = true) : p := of_decide_eq_true h
theorem bnot {a : Bool} (h : (!a) = true) : a = false := by simpa using h
/-! ### a dict with one key, a tuple -/
def tDispT (tk tv : TE) : TE := fun σ H Q => ∀ p, H p = none → tk σ (upd H p (.dT [])) fun x H1 => tv σ H1 fun y H2 => H2 p = some (.dT []) ∧ ∃ (b : Addr) (k : List L2.Key), x = .ref b ∧ H2 b = some (.tup (k.map L2.kV)) ∧ Q (.ref p) (upd H2 p (.dT [(k, y)]))
theorem pe_dispT {X : Cx} {x y : Expr} {pos : Pos} {tk tv : TE} (hu : X.A.units + 1 < cLine) (hk : PE X x tk) (hv : PE X y tv) : PE X (.Dict [some x] [y] pos) (tDispT tk tv) := by
  refine ⟨fun pins s σ H Q I q => ?_⟩
  have hn := I.hok.fresh (Nat.le_refl s.heap.objs.size)
  have I1 := I.laid (a := s.heap.objs.size) (o := .dT []) (h' := s.heap.push { cls := .type "dict", data := .dict #[] }) (t' := s.toks) (fun _ _ q => Heap.get?_push_of_some _ q) (Nat.le_refl _) (dt_empty s.heap I.big)
  refine wpAny_Dict_any rfl rfl (by simp) (by simp) ?_
  refine pairTrees_cons_walk (thn (hk.run pins _ σ _ _ I1 (q _ hn)) fun u s1 ⟨v1, H1, J1, r1, q1⟩ => thn (hv.run pins s1 σ H1 _ J1 q1) fun u2 s2 ⟨v2, H2, J2, r2, e, b, k, eb, hb, q2⟩ => pairTrees_nil_walk ?_)
  subst eb
  obtain rfl : u = Value.ref b := r1
  unfold storeAll
  rw [List.forIn_cons]
  obtain ⟨z, hd, xs, rel, dd⟩ := dt_of J2.hok e
  cases rel
  refine wpAny_bind (wpAny_bind (wpAny_dictSet_heap (hsz := Nat.zero_le _) (knd := tupleKind (mixKind X.prog X.w)) (show X.A.units < cLine by omega) (key_of J2.hok hb) dd fun h' dd' hs => wpAny_pure ?_))
  dsimp only
  rw [List.forIn_nil]
  refine wpAny_pure ?_
  obtain ⟨o, es, ep, hq, h2, h3, h4, _, h5⟩ := dd'
  refine ⟨.ref s.heap.objs.size, _, ?_, rfl, q2⟩
  refine d_write J2 (by rw [e]; exact True.intro) hs ⟨o, hq⟩ ⟨by simp [sizeLine_eq], hd, _, ((show KT H2 [] [] from .nil).put k hb r2).keeps fun c ys ec => ?_, o, es, ep, hq, h2, h3, h4, h5⟩
  rw [upd_ne (ne_of ec e (fun z => nomatch z))]
  exact ec
section
variable {c : Cn} {Γ : Gam} {cf : Nat → List D → Hq → R D} {k : Nat} {E : XK} {N : List Str} {sc : Scope} {X : Cx}
theorem pe_ddisp_any {t : Bool} {a b : Mn.E} {x y : Expr} {pos : Pos} (hu : X.A.units + 1 < cLine) (ha : SE c cf E X a x) (hb : SE c cf E X b y) (na : isB a = false) (nb : isB b = false) : PE X (.Dict [some x] [y] pos) (tD c cf E (.ddisp t a b)) := by
  cases t with
  | false => exact pe_ddisp_t ha hb na nb
  | true =>
    refine weakE (pe_dispT hu (ha.f na) (hb.f nb)) fun σ H Q q p hp => ?_
    obtain ⟨W, ρ, h, kk, r, g⟩ := q
    simp only [evE] at g
    obtain ⟨e0, k0, hn, hc⟩ := fresh_ext (o := .dT []) kk hp
    refine ⟨W, ρ, h, k0, r.ext e0, (Gd.bind (g.ext e0)).mono fun d1 h1 g1 v1 H1 W1 e1 k1 r1 => ?_⟩
    refine ⟨W1, ρ, h1, k1, (r.ext e0).ext e1, (Gd.bind (g1.ext e1)).mono fun d2 h2 g2 v2 H2 W2 e2 k2 r2 => ?_⟩
    obtain ⟨d, hd, q⟩ := g2.lift
    have hd : (keyT d1).map (fun k => D.dT [k] [d2]) = some d := hd
    rw [Option.map_eq_some_iff] at hd
    obtain ⟨l, hl, rfl⟩ := hd
    obtain ⟨b, rfl, hb⟩ := keyT_rep k2 (.inl (e2.rep r1)) hl
    have ee := e1.trans e2
    have hp2 : H2 p = some (.dT []) := ee.k p _ upd_same hc (fun _ z => by cases z)
    have hc2 := ee.notC upd_same hc
    have hn2 : W2.F p = none := ee.n p _ upd_same (fun _ z => by cases z) hn
    obtain ⟨e3, k3⟩ := own_upd (o := .dT [(l.map Sum.inl, v2)]) (e0.trans ee) k2 hp hn2 hc2 hp2 ⟨fun _ z => (by cases z), fun _ z => (by cases z), fun _ z => (by cases z)⟩
    refine ⟨hp2, b, _, rfl, hb, ?_⟩
    exact q _ _ W2 e3 k3 ⟨p, rfl, hp, hn2, hc2, _, upd_same, rfl, .cons r2 .nil⟩
/-! ### range objects -/
def rRgo : List V → Hp → VK → Prop := fun vs H Q => ∃ i j, (vs = [V.int j] ∧ i = 0 ∨ vs = [V.int i, V.int j]) ∧ ∀ p, H p = none → Q (.ref p) (upd H p (.rng i j))
theorem cr_rgo : CallR X (.type "range") rRgo := by
  intro pins s σ H vs us Q I r h
  obtain ⟨i, j, e, q⟩ := h
  rcases e with ⟨rfl, rfl⟩ | rfl
  · obtain ⟨u1, rfl, t, rfl⟩ := vals1 r
    refine PySem.call_range_1 ⟨.ref s.heap.objs.size, upd H s.heap.objs.size (.rng 0 j), I.laid (t' := s.toks + 1 + 1) (fun b o e => Heap.get?_push_of_some _ e) (Nat.le_refl _) ?_, rfl, q _ (I.hok.fresh (Nat.le_refl _))⟩
    exact ⟨s.toks, t, s.toks + 1, Heap.get?_push_size _ rfl⟩
  · obtain ⟨u1, u2, rfl, ⟨t, rfl⟩, ⟨u, rfl⟩⟩ := vals2 r
    refine PySem.call_range_2 ⟨.ref s.heap.objs.size, upd H s.heap.objs.size (.rng i j), I.laid (t' := s.toks + 1) (fun b o e => Heap.get?_push_of_some _ e) (Nat.le_refl _) ?_, rfl, q _ (I.hok.fresh (Nat.le_refl _))⟩
    exact ⟨t, u, s.toks, Heap.get?_push_size _ rfl⟩
theorem rgo_fin {W W1 : Wd} {H H1 : Hp} {h : Hq} {i j : Int} {Q : VK} (e1 : Ext W H W1 H1) (k1 : Hok c.fa W1 H1 h) (hi : okR i = true) (hj : okR j = true) (q : ∀ v H' W', Ext W H W' H' → Hok c.fa W' H' h → Rep c.fa W' v (.rng i j) → Q v H') : ∀ p, H1 p = none → Q (.ref p) (upd H1 p (.rng i j)) := fun p hp => by
  obtain ⟨e2, k2⟩ := new_ext (o := .rng i j) k1 hp
  exact q _ _ _ (e1.trans e2) k2 (.rng (by show upd W1.F p _ p = _; rw [upd_same]) hi hj)
theorem s_rgv1 {a : Mn.E} {f : Str} {x : Expr} {p pos : Pos} (O : Gok c Γ cf k) (G : GX c E N k sc X) (hg : isGl sc f = true) (hn : f = "range") (hfr : Γ.fr.contains f = true) (h : SE c cf E X a x) (hs : notStar x = true) : SE c cf E X (.rgv1 a) (.Call (.Name f p) [x] [] pos) := by
  obtain ⟨g1, g2⟩ := gl_of G hg
  have hm : X.mg f = none := by rw [G.mg]; exact O.fr f hfr
  subst hn
  refine .ofF (weakE (pe_callTy cr_rgo g1 hm (by decide +kernel) (sa_cons h hs sa_nil) (by decide) g2 (star_cons hs) (by rfl)) fun σ H Q q => ?_)
  obtain ⟨W, ρ, h, kk, r, g⟩ := q
  simp only [evE] at g
  refine ⟨W, ρ, h, kk, r, (Gd.one g).mono fun ds h1 g1 vs H1 W1 e1 k1 r1 _ _ => ?_⟩
  obtain ⟨d, rfl, g1⟩ := g1
  obtain ⟨dd, hd, q⟩ := g1.lift
  rw [Option.bind_eq_some_iff] at hd
  obtain ⟨i, hi, hd⟩ := hd
  obtain rfl := int_of hi
  split at hd
  · rename_i hok
    cases hd
    obtain ⟨v, rfl, rv⟩ := r1.one
    obtain rfl := rv.int
    exact ⟨0, i, .inl ⟨rfl, rfl⟩, rgo_fin e1 k1 (by decide) hok q⟩
  · cases hd
theorem s_rgv2 {a b : Mn.E} {f : Str} {x y : Expr} {p pos : Pos} (O : Gok c Γ cf k) (G : GX c E N k sc X) (hg : isGl sc f = true) (hn : f = "range") (hfr : Γ.fr.contains f = true) (h : SE c cf E X a x) (h' : SE c cf E X b y) (hs : notStar x = true) (hs' : notStar y = true) : SE c cf E X (.rgv2 a b) (.Call (.Name f p) [x, y] [] pos) := by
  obtain ⟨g1, g2⟩ := gl_of G hg
  have hm : X.mg f = none := by rw [G.mg]; exact O.fr f hfr
  subst hn
  refine .ofF (weakE (pe_callTy cr_rgo g1 hm (by decide +kernel) (sa_cons h hs (sa_cons h' hs' sa_nil)) (by decide) g2 (star_cons hs) (any_tail (e := x) (by rw [List.all_cons, List.all_cons, hs, hs']; rfl))) fun σ H Q q => ?_)
  obtain ⟨W, ρ, h, kk, r, g⟩ := q
  simp only [evE] at g
  refine ⟨W, ρ, h, kk, r, (Gd.two g).mono fun ds h1 g1 vs H1 W1 e1 k1 r1 _ _ => ?_⟩
  obtain ⟨d, d2, rfl, g1⟩ := g1
  obtain ⟨dd, hd, q⟩ := g1.lift
  rw [Option.bind_eq_some_iff] at hd
  obtain ⟨i, hi, hd⟩ := hd
  rw [Option.bind_eq_some_iff] at hd
  obtain ⟨j, hj, hd⟩ := hd
  obtain rfl := int_of hi
  obtain rfl := int_of hj
  split at hd
  · rename_i hok
    rw [Bool.and_eq_true] at hok
    cases hd
    obtain ⟨v, u, rfl, rv, ru⟩ := r1.two
    obtain rfl := rv.int
    obtain rfl := ru.int
    exact ⟨i, j, .inr rfl, rgo_fin e1 k1 hok.1 hok.2 q⟩
  · cases hd
end
end Mn

namespace Mn
open PySem L2 PySem.Spec PyProof.Rows
section
variable {c : Cn} {E : XK} {N : List Str} {k : Nat} {sc : Scope} {X : Cx} {pins : List (Addr × Obj)} {σ : L2.St} {H HZ : Hp} {s s1 : Shared}
/-- the context of a lambda's body -/
theorem GX.lam (G : GX c E N k sc X) (hcx : c.CX = L2.CX c.P c.w) {A : Around} {outer : List PySem.Env} {Ex : XK} {scope : Scope} {f c' : Addr} (hl : lamSc scope = true) (gd : A.guards = some []) (hr : Room k (A.deeper (LamX.lamEnv X scope s1.heap.objs.size f c'))) :
    GX c Ex N k scope (LamX.lamCx X A outer s1 HZ Ex scope f c') := by
  obtain ⟨g1, g2, g3, g4, g5, g6, g7, g8, g9, g10, g11, g12, g13, g14, g15, g16, g17⟩ := G
  refine ⟨g1, g2, g3, g4, g5, rfl, g7, g8, rfl, hr, gd, ?_, g13, g14, fun z => ?_, fun z => ?_, fun z => ?_⟩
  · rw [hcx]
    intro pins σ H1 s2 e s' I hc
    have hc : L2.CX c.P c.w (LamX.lamCx X A outer s1 HZ Ex scope f c').stack H1 s2 Ex e s' := hc
    rw [← g1, ← g2] at hc
    exact passes_call (takes_of (X := LamX.lamCx X A outer s1 HZ Ex scope f c') (E := Ex) rfl rfl rfl rfl) (fun _ _ _ _ h => h) pins σ H1 s2 e s' I hc
  · have z : lamSc scope = false := z
    rw [hl] at z; cases z
  · have z : ownSc N scope = true := z
    have z := own_lam z
    rw [hl] at z; cases z
  · have z : ownSc N scope = true := z
    have z := own_lam z
    rw [hl] at z; cases z
/-- the lambda that was handed over is called -/
theorem act_run (G : GX c E N k sc X) (hcx : c.CX = L2.CX c.P c.w) (I : Inv X pins σ H s) {scope : Scope} (L : LamX.LamS X.env.scope scope) (hl : lamSc scope = true) {f c' : Addr} {params : Arguments} {body : Expr} {pm ctv : Value}
    (at_f : s.heap.get? f = some (PySem.W.kla_obj "<lambda>" (X.env.qual ++ "<lambda>") params body scope (cloFrom X.env.cells scope.names []) pm c' ctv)) (noH : H f = none) (noF : f ∉ frs X.stack)
    (bnd : ∀ (q : Str) (cl : List (Str × Addr)) (pm cv ctv : Value), bindArgs (PySem.W.kla_fn "<lambda>" q params body scope cl pm cv ctv) ⟨[], []⟩ = pure [])
    {CXg : CXT} {Eg Ex : XK} {Ng : List Str} {qg a : Str} {sg : Scope} {g : Addr} {cdg : Value} {pn : List (Addr × Obj)} {xe : Value → Shared → Prop} {Wt : WX} {tb : TE} {p1 p2 : Pos}
    (tk : Takes ((cxOf CXg X.prog X.w X.K X.mg X.base Ng qg sg g cdg X.A X.stack s H Eg).tr pn xe) Wt) (hW : ∀ cls d σ' H', Ex cls d H' → Wt cls d σ' H') (hr : Room (k + 1) (X.A.deeper (envOfC qg sg s.heap.objs.size g cdg)))
    (hbody : ∀ X', GX c Ex N k scope X' → PE X' body tb) (hN : Ng[0]? = some a) (hv : Vis sg a) (hd : (a == ("__debug__" : Str)) = false) (hcd : (a == ("__classdict__" : Str)) = false) :
    PE ((cxOf CXg X.prog X.w X.K X.mg X.base Ng qg sg g cdg X.A X.stack s H Eg).tr pn xe) (.Call (.Name a p1) [] [] p2)
      (fun σZ HZ Q => σZ[0]? = some (some (.ref f)) ∧ HZ c' = some (LamX.CodeO c' (X.env.qual ++ "<lambda>")) ∧ tb σ HZ Q) := by
  refine ⟨fun pinsZ sZ σZ HZ Q IZ q => ?_⟩
  obtain ⟨qs, qc, qt⟩ := q
  have load := (pe_var (X := (cxOf CXg X.prog X.w X.K X.mg X.base Ng qg sg g cdg X.A X.stack s H Eg).tr pn xe) (pos := p1) (i := 0) hN hv hd hcd).run pinsZ sZ σZ HZ (fun v H1 => v = .ref f ∧ H1 = HZ) IZ ⟨.ref f, qs, rfl, rfl⟩
  refine wpAny_Call_Name_kw (thn load fun u s1 got => ?_)
  obtain ⟨v, H1, I1, rel, ev, eH⟩ := got
  subst ev
  subst eH
  obtain rfl : u = Value.ref f := rel
  have there : s1.heap.get? f = some (PySem.W.kla_obj "<lambda>" (X.env.qual ++ "<lambda>") params body scope (cloFrom X.env.cells scope.names []) pm c' ctv) := by
    refine I1.base.keep f _ at_f noH noF ?_
    intro z
    cases (show f ∈ ([] : List Addr) from z)
  have un : Un (frs X.stack) [] H H1 s.heap s1.heap := I1.base
  obtain ⟨⟨oc, vs, tt, hoc, hdc, hvc⟩, _⟩ := I1.hok c' _ qc
  refine PySem.W.callWith_F0 ⟨_, _, _, _, there⟩ (wpAny_call (codeAny_mono (R := CR (L2.CX X.prog X.w) (envOfC qg sg s.heap.objs.size g cdg :: X.stack) X.prog X.w H1 s1 Q Ex) ?_ fun r s' fin => ?_))
  · refine PySem.W.kla_callFunE hr.depth there rfl L.co L.gen rfl ⟨c', oc, vs, tt, rfl, hoc, hdc, hvc⟩ ?_
    rw [show (([] : List Value) ++ []) = [] from rfl, bnd]
    refine wpAny_pure (wpAny_newFunctionEnv (fun y hy => (L.own y hy).2) (fun y hy => by cases hy) (fun h₁ hns same => ⟨I1.nolimit.fresh _ same, ?_⟩) L.kind)
    have kept : ∀ b o, s1.heap.get? b = some o → h₁.get? b = some o := by
      intro b o e
      exact same.extBut b o (Nat.ne_of_lt (Heap.lt_size e)) (Heap.get?_push_of_some _ e)
    have start0 := LamX.lam_start2 (A := X.A.deeper (envOfC qg sg s.heap.objs.size g cdg)) (outer := envOfC qg sg s.heap.objs.size g cdg :: X.stack) (E := Ex) (f := f) (c' := c') (tk := s1.toks + ([] : List (Str × Value)).length) I L I1.env0 hr.hd un hns kept
    have GL := G.lam (HZ := H1) (s1 := s1) (A := X.A.deeper (envOfC qg sg s.heap.objs.size g cdg)) (outer := envOfC qg sg s.heap.objs.size g cdg :: X.stack) (Ex := Ex) (f := f) (c' := c') hcx hl (show X.A.guards = some [] from G.gd) (hr.deeper _)
    show codeAny _ _ (.expr body (LamX.lamEnv X scope s1.heap.objs.size f c')) _ _
    refine PySem.W.kla_codeExpr (wpAny_mono ((hbody _ GL).run [] _ _ H1 Q start0 qt) (fun v s' fin => ?_) fun e s' fin => fin)
    obtain ⟨w', H', J, rv, qq⟩ := fin
    exact ⟨w', H', J.os, J.bare, J.base, J.hok, rv, qq⟩
  · match r, fin with
    | .error e, fin => exact passes_call tk hW pinsZ σZ H1 s1 e s' I1 fin
    | .ok (.ret u), fin => exact I1.after fin
    | .ok .next, fin => exact (show False from fin).elim
    | .ok .brk, fin => exact (show False from fin).elim
    | .ok .cont, fin => exact (show False from fin).elim
end
end Mn

namespace Mn
open PySem L2 PySem.Spec PyProof.Rows
section
variable {X : Cx} {pins : List (Addr × Obj)} {σ : L2.St} {H : Hp} {s : Shared}
/-- what a lambda's making leaves: nothing new, or the table grown and a code object -/
def Grown (T : List (Addr × Str)) (q : Str) (H H1 : Hp) : Prop := H1 = H ∨ ∃ (P c' : Addr) (ps more : Array Value), (∃ q, (P, q) ∈ T) ∧ H P = some (.tbl ps) ∧ H c' = none ∧ H1 = upd (upd H P (.tbl (ps ++ more))) c' (LamX.CodeO c' q)
theorem lam_new {T : List (Addr × Str)} {c P : Addr} {params : Arguments} {body : Expr} {scope : Scope} {pos : Pos} {E : Value → Shared → Prop} {Q : Value → Shared → Prop} (I : Inv X pins σ H s) (B : LamX.TabB X.base X.mg c P) (own : X.env.code = .ref c)
    (mem : (P, X.env.qual ++ "<lambda>") ∈ T) (one : ∀ p ∈ T, p.1 = P → p.2 = X.env.qual ++ "<lambda>") (tabs : LamX.Tabs T H) (plain : defaultsOf params X.env = ([], [])) (has : ∀ y ∈ scope.names, y.2 = .free → ∃ c, X.env.cells.lookup y.1 = some c)
    (h : ∀ (f c' : Addr) (pm ctv : Value) (H1 : Hp) (s' : Shared), Inv X pins σ H1 s' → Grown T (X.env.qual ++ "<lambda>") H H1 → LamX.Tabs T H1 → s'.heap.get? f = some (PySem.W.kla_obj "<lambda>" (X.env.qual ++ "<lambda>") params body scope (cloFrom X.env.cells scope.names []) pm c' ctv) →
      H1 f = none → f ∉ frs X.stack → H1 c' = some (LamX.CodeO c' (X.env.qual ++ "<lambda>")) → s.heap.objs.size ≤ f → Q (.ref f) s') :
    wpAny (model X.prog X.w) X.A (eval (.Lambda params body scope pos) X.env) Q E s := by
  obtain ⟨ps, atP, triples, known⟩ := tabs _ mem
  have tableP : s.heap.get? P = some { cls := .none, data := .fields ps } := I.hok P _ atP
  have builtP : s.heap.BuiltinsAt X.mg P := B.bm.keeps I.bk
  have outside : ∀ f, s.heap.objs.size ≤ f → f ∉ frs X.stack := by
    intro f hf z
    rcases List.mem_cons.mp (I.stkSub _ z) with e | e
    · have l1 := I.lt
      rw [← e] at l1
      exact absurd hf (Nat.not_le_of_lt l1)
    · exact I.nofs hf e
  refine PySem.W.kla_eval plain ?_
  cases found : codeAmong pos ps.toList with
  | some cv =>
    obtain ⟨c', e, isCode⟩ := known pos cv found
    subst e
    refine PySem.W.kla_makeFunctionHit (mg := X.mg) (c := c) (P := P) (ps := ps) (closure_ok has) I.ok.glob (I.mod.glob.keeps I.bk) own (B.code.keeps I.bk) tableP triples found builtP fun ctv h' tk kp hsz => ?_
    have I1 : Inv X pins σ H { s with heap := h'.push (PySem.W.kla_obj "<lambda>" (X.env.qual ++ "<lambda>") params body scope (cloFrom X.env.cells scope.names []) ((X.mg "__name__").getD .none) c' ctv), toks := tk } := I.kept fun b o e => Heap.get?_push_of_some _ (kp b o e)
    exact h h'.objs.size c' ((X.mg "__name__").getD .none) ctv H _ I1 (.inl rfl) tabs (Heap.get?_push_size _ rfl) (I.hok.fresh hsz) (outside _ hsz) isCode hsz
  | none =>
    refine PySem.W.kla_makeFunction (mg := X.mg) (c := c) (P := P) (ps := ps) (closure_ok has) I.ok.glob (I.mod.glob.keeps I.bk) own (B.code.keeps I.bk) tableP triples found B.gP builtP fun c' ctv h' tk kp low high record grown => ?_
    obtain ⟨c2, oc, vs, t, e2, hoc, hd, hv⟩ := record
    cases e2
    have hsz : s.heap.objs.size ≤ h'.objs.size := Nat.le_trans low (Nat.le_of_lt high)
    have noC : H c' = none := I.hok.fresh low
    have nPc : P ≠ c' := ne_of_none atP noC
    have I1 := LamX.inv_table (q := X.env.qual ++ "<lambda>") (t' := tk) (more := #[rawInt pos.line, rawInt pos.col, .ref c']) (h' := h'.push (PySem.W.kla_obj "<lambda>" (X.env.qual ++ "<lambda>") params body scope (cloFrom X.env.cells scope.names []) ((X.mg "__name__").getD .none) c' ctv)) I atP
      (fun b o hb e => Heap.get?_push_of_some _ (kp b o hb e)) (Heap.get?_push_of_some _ grown) low ⟨oc, vs, t, Heap.get?_push_of_some _ hoc, hd, hv⟩
    have old : ∀ b o, H b = some o → (∀ ps, o ≠ .tbl ps) → upd (upd H P (.tbl (ps ++ #[rawInt pos.line, rawInt pos.col, .ref c']))) c' (LamX.CodeO c' (X.env.qual ++ "<lambda>")) b = some o := by
      intro b o e n
      rw [upd_ne (ne_of_none e noC), upd_ne ?_]
      · exact e
      · intro z
        rw [z, atP] at e
        exact n ps (Option.some.inj e).symm
    have codeNT : ∀ (c : Addr) (q : Str) (ps : Array Value), LamX.CodeO c q ≠ .tbl ps := fun c q ps z => LamX.codeO_ne ps z
    refine h h'.objs.size c' ((X.mg "__name__").getD .none) ctv _ _ I1 (.inr ⟨P, c', ps, _, ⟨_, mem⟩, atP, noC, rfl⟩) (fun p hp => ?_) (Heap.get?_push_size _ rfl) ?_ (outside _ hsz) upd_same hsz
    · by_cases hb : p.1 = P
      · have eL : (ps ++ #[rawInt pos.line, rawInt pos.col, .ref c']).toList = ps.toList ++ [rawInt pos.line, rawInt pos.col, .ref c'] := by simp
        rw [one p hp hb, hb]
        refine ⟨_, by rw [upd_ne nPc, upd_same], ?_, fun p' cv hcv => ?_⟩
        · rw [eL]; exact PySem.TriplesOk_snoc _ _ _ _ triples
        rw [eL] at hcv
        rcases LamX.among_app _ triples hcv with z | z
        · obtain ⟨c0, e1, e2⟩ := known p' cv z
          exact ⟨c0, e1, old _ _ e2 (codeNT _ _)⟩
        · exact ⟨c', z, upd_same⟩
      · obtain ⟨ps', t1, t2, t3⟩ := tabs p hp
        refine ⟨ps', ?_, t2, fun p' cv hcv => ?_⟩
        · rw [upd_ne (ne_of_none t1 noC), upd_ne hb]; exact t1
        · obtain ⟨c0, e1, e2⟩ := t3 p' cv hcv
          exact ⟨c0, e1, old _ _ e2 (codeNT _ _)⟩
    · have ltP : P < s.heap.objs.size := Heap.lt_size tableP
      rw [upd_ne (Nat.ne_of_gt high), upd_ne (Nat.ne_of_gt (Nat.lt_of_lt_of_le ltP hsz))]
      exact I.hok.fresh hsz
end
section
variable {fa : FaT} {W : Wd} {H H1 : Hp} {h : Hq} {q : Str}
theorem Grown.ext (g : Grown fa.T q H H1) (k : Hok fa W H h) (t : LamX.Tabs fa.T H1) : Ext W H W H1 ∧ Hok fa W H1 h := by
  rcases g with rfl | ⟨P, c', ps, more, _, hP, hc, rfl⟩
  · exact ⟨.refl _ _, k⟩
  have old : ∀ b o, H b = some o → (∀ ps, o ≠ .tbl ps) → upd (upd H P (.tbl (ps ++ more))) c' (LamX.CodeO c' q) b = some o := fun b o e n => by
    rw [upd_ne (ne_of_none e hc), upd_ne]
    · exact e
    · intro z; rw [z, hP] at e; exact n ps (Option.some.inj e).symm
  have some_ : ∀ b, H b ≠ none → upd (upd H P (.tbl (ps ++ more))) c' (LamX.CodeO c' q) b ≠ none := fun b e => by
    by_cases z : b = c'
    · subst z; exact absurd hc e
    · rw [upd_ne z]
      by_cases y : b = P
      · subst y; rw [upd_same]; simp
      · rw [upd_ne y]; exact e
  refine ⟨⟨fun _ _ h => h, ⟨[], by simp, by simp⟩, fun a o e _ n => old a o e n, fun _ _ _ _ h => h, some_, fun a o e n vs z => ?_⟩, ⟨fun a o e => old a o (k.sub a o e) fun ps z => k.nf a ps (by rw [e, z]), k.len, k.nd, fun i a ds h1 h2 => ?_, fun a ha => ⟨(k.cf a ha).1, some_ a (k.cf a ha).2⟩, t, k.nf⟩⟩
  · by_cases y : a = c'
    · subst y; rw [upd_same] at z; unfold LamX.CodeO at z; cases z
    · rw [upd_ne y] at z
      by_cases y : a = P
      · subst y; rw [upd_same] at z; cases z
      · rw [upd_ne y, e] at z; exact n vs (Option.some.inj z)
  · obtain ⟨vs, e1, r⟩ := k.cell i a ds h1 h2
    exact ⟨vs, old a _ e1 noT_lst.1, r⟩
end
section
variable {c : Cn} {Γ : Gam} {cf : Nat → List D → Hq → R D} {k : Nat} {E : XK} {N : List Str} {sc : Scope} {X : Cx}
theorem isGl_gl (G : GX c E N k sc X) {x : Str} (h : isGl sc x = true) : Gl X x ∧ (x == ("__debug__" : Str)) = false := by
  unfold isGl at h
  rw [Bool.and_eq_true] at h
  refine ⟨?_, by simpa using h.2⟩
  unfold Gl PySem.Env.kindOf
  rw [G.sc]
  exact beq_iff_eq.mp h.1
theorem tb_at {H : HdS} {n : Nat} {w : Str} {b : Bool} (e : H.tb.lookup n = some (w, b)) : ∃ j q, H.cs[j]? = some q ∧ q.2.1 = n ∧ q.2.2 = w ∧ b = decide (j < H.i) := by
  have h1 : ∀ {l : List (Nat × Str × Bool)} {n : Nat} {y : Str × Bool}, l.lookup n = some y → (n, y) ∈ l := by
    intro l
    induction l with
    | nil => intro n y h; cases h
    | cons p l ih =>
      intro n y h
      rw [List.lookup_cons] at h
      by_cases z : (n == p.1) = true
      · rw [z] at h
        cases h
        have := beq_iff_eq.mp z
        subst this
        exact List.mem_cons_self
      · rw [(Bool.not_eq_true _).mp z] at h
        exact List.mem_cons_of_mem _ (ih h)
  have hm := h1 e
  unfold HdS.tb at hm
  obtain ⟨⟨q, j⟩, hq, ee⟩ := List.mem_map.mp hm
  have hq' := List.mem_zipIdx' hq
  refine ⟨j, q, ?_, ?_, ?_, ?_⟩
  · rw [List.getElem?_eq_getElem hq'.1, ← hq'.2]
  · exact (congrArg (·.1) ee)
  · exact (congrArg (·.2.1) ee)
  · exact (congrArg (·.2.2) ee).symm
theorem hearR_some {tb : List (Nat × Str × Bool)} {n : Nat} {d : D} {h : Hq} {w : Str} {b : Bool} (e : tb.lookup n = some (w, b)) : hearR tb (.exc n d h) = .ok (.lst (if b then [.str w, d] else [.str w])) h := by
  show (match tb.lookup n with | some (w, b) => R.ok (D.lst (if b then [.str w, d] else [.str w])) h | none => .bad) = _
  rw [e]
theorem hearR_none {tb : List (Nat × Str × Bool)} {n : Nat} {d : D} {h : Hq} (e : tb.lookup n = none) : hearR tb (.exc n d h) = .bad := by
  show (match tb.lookup n with | some (w, b) => R.ok (D.lst (if b then [.str w, d] else [.str w])) h | none => .bad) = _
  rw [e]
theorem noPar_eq {a : Arguments} (h : noPar a = true) : a = parms [] := by
  obtain ⟨a1, a2, a3, a4, a5, a6, a7⟩ := a
  simp only [noPar, Bool.and_eq_true, List.isEmpty_iff, Option.isNone_iff_eq_none] at h
  obtain ⟨h1, h2, h3, h4, h5, h6, h7⟩ := h
  subst h1 h2 h3 h4 h5 h6 h7
  rfl
/-- what the hearing def gives at what it got -/
theorem pe_heard (O : Gok c Γ cf k) (G : GX c E N k sc X) {x : Str} {tb : List (Nat × Str × Bool)} {m : Mn.E} {params : Arguments} {body : Expr} {scope : Scope} {p lpos pos : Pos} (hΓ : Γ.hd = some (x, tb)) (hx : isGl sc x = true) (hsc : ownSc N sc = true) (hN : N.contains ("<lambda>" : Str) = true)
    (hlam : LamX.lamSB sc scope = true) (hl : lamSc scope = true) (hpar : noPar params = true) (hm : ∀ X' E', GX c E' N k scope X' → PE X' body (tF c cf E' m)) :
    PE X (.Call (.Name x p) [.Lambda params body scope lpos] [] pos) (tN c cf E (.heard tb m)) := by
  obtain ⟨H, g, upA, ad, pr, hbody, sg, fd, Ng, ie, ifl, iat, iw, K0, rfl⟩ := O.hd x tb hΓ
  have hcx := O.cx
  obtain ⟨gx, dbx⟩ := isGl_gl G hx
  obtain rfl := noPar_eq hpar
  have L : LamX.LamS X.env.scope scope := by rw [G.sc]; exact LamX.lamS_by hlam
  have r2 := G.r2 (by rw [G.sc]; exact hsc) (List.contains_iff_mem.mp hN)
  obtain ⟨cc, P, code, TB, hmT, one⟩ := G.lm (by rw [G.sc]; exact hsc) (List.contains_iff_mem.mp hN)
  refine ⟨fun pins s σ Hh Q I q => ?_⟩
  obtain ⟨W, ρ, h, kk, r, gd⟩ := q
  simp only [evE] at gd
  refine wpAny_Call_Name_kw (ld_glob I gx (by rw [G.mg]; exact K0.gl) ?_ dbx)
  refine PySem.W.callWith_K (h₀ := X.base) I.ok.mod.kin (by rw [G.K]; exact K0.fn.kp) ?_ (by rfl) (by rfl)
  show wpAny _ _ (spliced ((false, eval (.Lambda (parms []) body scope lpos) X.env) :: backTo pos (starEach [] X.env))) _ _ s
  refine Calls.spliced_cons (lam_new (T := c.fa.T) I TB code hmT one kk.tab (by rfl) (L.has I.ok) fun f c' pm ctv H1 s' I1 grown T1 atF noH noF isC _ => Calls.spliced_nil ⟨I1.kIn, ?_⟩)
  obtain ⟨e1, k1⟩ := grown.ext kk T1
  show wpAny _ _ (call (.ref g) [.ref f]) _ _ _
  obtain ⟨oc, od, dV, kV, doc, pm2, an, cdv, ct, osl, rfl, look, hcode, dv, kv⟩ := K0.fn.ex
  have hbind : BindsTo s' (PySem.W.fnOf x x pr hbody sg dV kV doc pm2 an cdv ct) ⟨[.ref f], []⟩ ([H.a].zip [.ref f]) := by
    rcases dv with ⟨_, rfl⟩ | ⟨e, _⟩
    · refine .of_eq ?_
      have hlen : pr.args.length = 1 := by have := congrArg List.length K0.par.2; rwa [List.length_map] at this
      have z := bind_plain (x := x) (qual := x) (as := pr.args) (body := hbody) (scope := sg) (kV := kV) (doc := doc) (pm := pm2) (an := an) (cdv := cdv) (ct := ct) (us := [.ref f]) (ws := []) (ks := []) (by rw [K0.par.2]; simp) .nil rfl (fun y hy => by cases hy) (fun y hy => by
        rw [K0.par.2] at hy; simp at hy) (by rw [hlen]; rfl)
      rw [← K0.par.1, K0.par.2] at z
      exact z
    · exact absurd rfl e
  -- the body of the hearing def
  have chk := K0.chk
  unfold chkHear at chk
  cases hp : pTry hbody with
  | none => rw [hp] at chk; cases chk
  | some q4 =>
  obtain ⟨a4, up4, e4, suite⟩ := q4
  rw [hp] at chk
  simp only [Bool.and_eq_true, decide_eq_true_eq] at chk
  obtain ⟨⟨⟨rfl, rfl⟩, rfl⟩, hsuite⟩ := chk
  obtain ⟨b1, b2, b3, b4, b5, b6, j7, b7, b8, b9, rfl⟩ := pTry_eq hp
  match suite, hsuite with
  | st0 :: sts0, hsuite =>
  have rc : codeAny (model X.prog X.w) X.A (.call (.ref g) ⟨[.ref f], []⟩) (CR (L2.CX X.prog X.w) X.stack X.prog X.w H1 s' Q E0) s' := by
    refine LamX.run_ofS (N := Ng) (ps := [H.a]) (us := [.ref f]) (vs := [.ref f]) (by rw [G.K]; exact look) (by rw [G.K]; exact hcode) K0.scp r2 I1.env0 hbind (.cons rfl .nil) rfl fun hr' => ?_
    let Z := cxOf (L2.CX X.prog X.w) X.prog X.w X.K X.mg X.base Ng x sg g cdv X.A X.stack s' H1 E0
    have OZ : HxOk Z H ad ie ifl iat iw := K0.sl Z rfl rfl G.mg
    have hNa : Ng[0]? = some H.a := by
      have z := congrArg (fun l => l[0]?) K0.scp.pre
      have z : (Ng.take 1)[0]? = some H.a := z
      rw [List.getElem?_take] at z
      simpa using z
    let tb : WX → TS := fun Wt D σ' H' => ∃ Ech : XK, (∀ cls d σ'' H'', Ech cls d H'' → Wt cls d σ'' H'') ∧ σ'[0]? = some (some (.ref f)) ∧ H' c' = some (LamX.CodeO c' (X.env.qual ++ "<lambda>")) ∧ tF c cf Ech m σ H' fun _ H2 => D.nx σ' H2
    let ts : Addr → Value → Option Addr → TS := fun a cls d D σ' Hh' => ∃ (j : Nat) (q : Str × Nat × Str) (v : V) (W' : Wd) (h' : Hq), H.cs[j]? = some q ∧ cls = .ref (ad q.1) ∧ HeD H j d v Hh' ∧ Hok c.fa W' Hh' h' ∧ (∃ σ0 : List (Option V), σ' = σ0.set ie (some (.ref a))) ∧ HFin H c.fa W' Hh' h' (hres H j q.2.2 v) D
    have hb : ∀ (Wt : WX) (pn : List (Addr × Obj)) (xe : Value → Shared → Prop), Takes (Z.tr pn xe) Wt → PassesOwn (model Z.prog Z.w) Z.A Z.env xe → PSs (Z.tr pn xe) [.Expr (.Call (.Name H.a b1) [] [] b2) b3] (tb Wt) := fun Wt pn xe tk _ => by
      refine ⟨fun pins' s2 σ2 H2 D I2 h2 => ?_⟩
      obtain ⟨Ech, hW, z1, z2, z3⟩ := h2
      exact (pss_one (ps_expr (act_run (p1 := b1) (p2 := b2) (pn := pn) (xe := xe) (Ng := Ng) (qg := x) (sg := sg) (g := g) (cdg := cdv) (CXg := L2.CX X.prog X.w) (Eg := E0) G hcx I1 L hl atF noH noF (fun _ _ _ _ _ => by rfl) tk hW hr' (fun X' G' => hm X' Ech G') hNa K0.va.1 K0.va.2.1 K0.va.2.2) rfl)).run pins' s2 σ2 H2 D I2 ⟨z1, z2, z3⟩
    have hsu : ∀ (a : Addr) (oe : Obj) (cls : Value) (d : Option Addr) (pn : List (Addr × Obj)), Zc cls d oe → (∃ vs, oe.data = .fields vs) → PSs (Z.suite a ((a, oe) :: pn)) (st0 :: sts0) (ts a cls d) := fun a oe cls d pn hz hf => by
      refine ⟨fun pins' s2 σ2 H2 D I2 h2 => ?_⟩
      obtain ⟨j, q, v, W', h', y1, rfl, y3, y4, y5, y6⟩ := h2
      obtain ⟨_, y7, _⟩ := K0.cls j q y1
      have y7 : HeOk Z.K H ad (ad q.1) j := by show HeOk X.K H ad (ad q.1) j; rw [G.K]; exact y7
      exact (suite_run (X := Z) (cj := q.1) (nj := q.2.1) OZ y7 hz hf y4 y3 K0.few.1 K0.few.2 y1 hsuite).run pins' s2 σ2 H2 D I2 ⟨y5, rfl, y6⟩
    have hc : Names Z H.up (.ref upA) := ⟨K0.up.1, K0.up.2.1, .inl (by show X.mg _ = _; rw [G.mg]; exact K0.up.2.2)⟩
    have s1 := ps_try_as (X := Z) (pos := b6) (pos' := b5) (np := b4) (Wout := fun _ _ _ _ => False) (tb := tb) (ts := ts) rfl rfl K0.scp.nd OZ.e OZ.le hc LamX.takes0 hb hsu
    have s2 := ps_ret (X := Z) (pos := b9) (pe_lst (pos := b8) (pa_cons (pe_str (x := "let") (j := j7) (pos := b7)) pa_nil rfl))
    refine ⟨_, pss_cons s1 (pss_one s2), ?_⟩
    have fresh : ∀ {W2 : Wd} {H2 : Hp} {p : Addr}, Ext W Hh W2 H2 → H2 p = none → Hh p = none := fun {W2 H2 p} e hp => by
      cases z : Hh p with
      | none => rfl
      | some u => exact absurd hp (e.t p (by rw [z]; simp))
    refine ⟨fun cls dx Hx => ∃ n d h2 W2, evE cf m ρ h = .exc n d h2 ∧ Ext W H1 W2 Hx ∧ Hok c.fa W2 Hx h2 ∧ c.ex n d W2 Hx cls dx, fun cls dx σ2 H2 hE => ?_, by simp [L2.start], isC, W, ρ, h, k1, r.ext e1, ?_⟩
    · obtain ⟨n, d, h2, W2, ev, e2, k2, x⟩ := hE
      rw [ev] at gd
      cases hL : H.tb.lookup n with
      | none => rw [hearR_none hL] at gd; exact False.elim gd
      | some wb =>
        obtain ⟨w, b⟩ := wb
        rw [hearR_some hL] at gd
        obtain ⟨j, q, y1, y2, y3, y4⟩ := tb_at hL
        obtain ⟨z1, z2, z3⟩ := K0.cls j q y1
        obtain ⟨C, fo, x1, x2, x3⟩ := x
        rw [y2, x1] at z1
        cases z1
        refine ⟨true, by show PySem.W.exmOne X.K cls _ = _; rw [G.K, x2]; exact z3, fun _ a na => ?_, fun z => by cases z⟩
        by_cases hji : j < H.i
        · rw [if_pos hji] at x3
          obtain ⟨dxa, v, rfl, x4, x5⟩ := x3
          refine ⟨j, q, v, W2, h2, y1, x2, ⟨fun _ => ⟨dxa, rfl, x4⟩, fun z => absurd hji z⟩, k2, ⟨σ2, rfl⟩, fun p H' e3 k3 w1 w2 w3 w4 => ?_⟩
          refine gd _ H' W2 (e1.trans (e2.trans e3)) k3 (.inr ⟨p, rfl, fresh (e1.trans e2) w1, w2, w3, _, _, rfl, w4, ?_⟩)
          have hb : b = true := by rw [y4]; simpa using hji
          rw [hb, if_pos rfl]
          unfold hres
          rw [if_pos hji, y3]
          exact .cons (.str _) (.cons x5 .nil)
        · rw [if_neg hji] at x3
          refine ⟨j, q, .non, W2, h2, y1, x2, ⟨fun z => absurd z hji, fun _ => x3⟩, k2, ⟨σ2, rfl⟩, fun p H' e3 k3 w1 w2 w3 w4 => ?_⟩
          refine gd _ H' W2 (e1.trans (e2.trans e3)) k3 (.inr ⟨p, rfl, fresh (e1.trans e2) w1, w2, w3, _, _, rfl, w4, ?_⟩)
          have hb : b = false := by rw [y4]; simpa using hji
          rw [hb, if_neg Bool.false_ne_true]
          unfold hres
          rw [if_neg hji, y3]
          exact .cons (.str _) .nil
    · cases ev : evE cf m ρ h with
      | ok d0 h2 =>
        rw [ev] at gd
        intro v H' W' e2 k2 _
        refine ⟨by rw [sizeLine_eq]; simp, fun p hp => ?_⟩
        obtain ⟨t1, t2, t3, t4⟩ := fresh_ext (o := .lst [V.str "let"]) k2 hp
        exact gd _ _ W' (e1.trans (e2.trans t1)) t2 (.inr ⟨p, rfl, fresh (e1.trans e2) hp, t3, t4, _, _, rfl, upd_same, .cons (.str _) .nil⟩)
      | exc n d h2 => exact fun W' H' e2 k2 cls dx x => ⟨n, d, h2, W', rfl, e2, k2, x⟩
      | bad => rw [ev] at gd; exact gd
  refine wpAny_call (codeAny_mono rc fun r2 s2 fin => ?_)
  match r2, fin with
  | .error e, fin =>
    obtain ⟨_, _, _, _, _, _, _, _, _, _, _, _, z⟩ := (show L2.CX X.prog X.w X.stack H1 s' E0 e s2 from fin)
    exact z.elim
  | .ok (.ret u), fin => exact I1.after fin
  | .ok .next, fin => exact (show False from fin).elim
  | .ok .brk, fin => exact (show False from fin).elim
  | .ok .cont, fin => exact (show False from fin).elim
end
end Mn

namespace Mn
open PySem L2 PySem.Spec PyProof.Rows
section
variable {c : Cn} {Γ : Gam} {cf : Nat → List D → Hq → R D} {k : Nat} {E : XK} {N : List Str} {sc : Scope} {X : Cx}
theorem r_inv {α β : Type} {r : R α} {f : α → Hq → R β} {b : β} {hh : Hq} (e : r.bind f = .ok b hh) : ∃ a h', r = .ok a h' ∧ f a h' = .ok b hh := by
  cases r with
  | ok a h => exact ⟨a, h, rfl, e⟩
  | exc _ _ _ => cases e
  | bad => cases e
theorem l_inv {α : Type} {o : Option α} {h : Hq} {b : α} {hh : Hq} (e : liftO o h = .ok b hh) : o = some b ∧ hh = h := by
  cases o with
  | none => cases e
  | some a => cases e; exact ⟨rfl, rfl⟩
theorem n_inv {α : Type} {r : R α} {b : α} {hh : Hq} (e : r.nox = .ok b hh) : r = .ok b hh := by
  cases r with
  | ok a h => exact e
  | exc _ _ _ => cases e
  | bad => cases e
/-- a dict that is gathered: one more thing put -/
theorem put_step {fa : FaT} {W : Wd} {kvs : List (L2.Key × V)} {acc acc' x y : D} {u v : V} (ob : DOb fa W (.dK kvs) acc) (rk : Rep fa W u x) (rv : Rep fa W v y) (e : setI' acc x y = some acc') :
    ∃ k, u = L2.kV (.inl k) ∧ kvs.length < sizeLine ∧ DOb fa W (.dK (L2.putK kvs (.inl k) v)) acc' := by
  unfold setI' at e
  split at e
  · rename_i ks vs n
    split at e
    · rename_i hlt
      cases e
      obtain rfl := rk.int_inv
      obtain ⟨o1, o2⟩ := ob
      have hlen : kvs.length = ks.length := by have := congrArg List.length o1; simpa using this
      obtain ⟨p1, p2⟩ := putK_rep (inj := (Sum.inl : Int → L2.Key)) inl_inj' (k := n) rv o1 o2
      exact ⟨n, rfl, by rw [hlen, sizeLine_eq]; exact hlt, p1, p2⟩
    · cases e
  · cases e
/-- what a dict comprehension gives -/
theorem dc_t {mk mv : Mn.E} {tg : Tg} {it : Mn.It} {σ : L2.St} {H : Hp} {Q : VK} (q : tD c cf E (.dc mk mv tg it) σ H Q) : tDc (tI c cf E false it) (gT c tg) (tC? c cf fun _ h => .ok (.bl true) h) (tF c cf E0 mk) (tF c cf E0 mv) tg.slots σ H Q := by
  obtain ⟨W, ρ, h, kk, r, g⟩ := q
  simp only [evE] at g
  refine ⟨W, ρ, h, kk, r, (Gd.bind g).mono fun ds h1 g1 J H1 W1 e1 k1 jw D hD => ?_⟩
  by_cases hlen : ds.length ≤ 1000000
  case neg => rw [if_neg hlen] at g1; exact False.elim g1
  rw [if_pos hlen] at g1
  obtain ⟨res, h9, hres, q⟩ := g1.nox
  obtain ⟨f1, f2, f3, f4⟩ := fresh_ext (o := .dK []) k1 hD
  have hD0 : H D = none := by
    cases e : H D with
    | none => rfl
    | some u => exact absurd hD (e1.t D (by rw [e]; simp))
  have nT : ∀ kvs : List (L2.Key × V), NoT (.dK kvs) := fun kvs => ⟨fun _ z => (by cases z), fun _ z => (by cases z), fun _ z => (by cases z)⟩
  refine ⟨fun i m H2 => m = ds.length - i ∧ i ≤ ds.length ∧ ∃ W2 h2 kvs acc, Ext W1 H1 W2 H2 ∧ Hok c.fa W2 H2 h2 ∧ W2.F D = none ∧ D ∉ W2.C ∧ H2 D = some (.dK kvs) ∧ DOb c.fa W2 (.dK kvs) acc ∧ dcF (evE cf mk) (evE cf mv) tg (wipeE ρ tg.slots) (ds.drop i) acc h2 = .ok res h9, ?_, ?_⟩
  · exact ⟨_, rfl, Nat.zero_le _, W1, h1, [], .dI [] [], f1, f2, f3, f4, upd_same, ⟨rfl, .nil⟩, hres⟩
  · rintro i m H2 ⟨rfl, hi2, W2, h2, kvs, acc, x1, x2, x3, x4, x5, x6, x8⟩
    by_cases hlt : i < ds.length
    · refine .inr ⟨jw.go W2 H2 h2 i x1 x2 hlt, fun H3 => ∃ W2 h2 kvs acc, Ext W1 H1 W2 H3 ∧ Hok c.fa W2 H3 h2 ∧ W2.F D = none ∧ D ∉ W2.C ∧ H3 D = some (.dK kvs) ∧ DOb c.fa W2 (.dK kvs) acc ∧ dcF (evE cf mk) (evE cf mv) tg (wipeE ρ tg.slots) (ds.drop (i + 1)) acc h2 = .ok res h9, fun H' z => ⟨_, by omega, rfl, hlt, z⟩, fun x H3 y => ?_⟩
      have hd : ds[i]? = some ds[i] := List.getElem?_eq_getElem hlt
      obtain ⟨W3, e3, k3, rv⟩ := jw.yld W2 H2 h2 i _ x H3 x1 x2 hd y
      rw [List.drop_eq_getElem_cons hlt] at x8
      unfold dcF at x8
      obtain ⟨ρ', hb1, y1, y2⟩ := r_inv x8
      obtain ⟨z1, rfl⟩ := l_inv y1
      obtain ⟨xk, hb2, y3, y4⟩ := r_inv y2
      have z3 := n_inv y3
      obtain ⟨xv, hb3, y5, y6⟩ := r_inv y4
      have z5 := n_inv y5
      obtain ⟨acc', hb4, y7, y8⟩ := r_inv y6
      obtain ⟨z7, rfl⟩ := l_inv y7
      have sr0 := (((r.ext e1).ext x1).ext e3).wipe tg.slots
      have keep : ∀ {Wa Wb : Wd} {Ha Hb : Hp}, Ext Wa Ha Wb Hb → Wa.F D = none ∧ D ∉ Wa.C ∧ Ha D = some (.dK kvs) → Wb.F D = none ∧ D ∉ Wb.C ∧ Hb D = some (.dK kvs) := fun e ⟨n1, n2, n3⟩ =>
        ⟨e.n D _ n3 (nT kvs).2.2 n1, e.notC n3 n2, e.k D _ n3 n2 (nT kvs).1⟩
      refine ⟨W3, hb1, _, _, ρ', k3, sr0, rv, z1, fun σ3 s1 s2 s3 s4 => ⟨by rw [s2, wipe_wipe], W3, ρ', hb1, .bl true, true, hb1, k3, s1, rfl, rfl, fun H4 W4 e4 k4 => ?_⟩⟩
      dsimp only
      rw [if_pos rfl]
      have nD4 := keep e4 (keep e3 ⟨x3, x4, x5⟩)
      refine ⟨W4, ρ', hb1, k4, s1.ext e4, ?_⟩
      rw [z3]
      intro u H5 W5 e5 k5 r5
      refine ⟨W5, ρ', hb2, k5, (s1.ext e4).ext e5, ?_⟩
      rw [z5]
      intro v H6 W6 e6 k6 r6
      have nD6 := keep e6 (keep e5 nD4)
      have ee := ((((x1.trans e3).trans e4).trans e5).trans e6)
      have ob6 : DOb c.fa W6 (.dK kvs) acc := x6.mono ((e3.trans e4).trans (e5.trans e6)).f ((e3.trans e4).trans (e5.trans e6)).cells
      obtain ⟨n, ek, few, ob'⟩ := put_step ob6 (e6.rep r5) r6 z7
      obtain ⟨u1, u2⟩ := own_upd (o := .dK (L2.putK kvs (.inl n) v)) ee k6 hD nD6.1 nD6.2.1 nD6.2.2 (nT kvs)
      exact ⟨kvs, .inl n, ek, nD6.2.2, few, W6, hb4, _, acc', u1, u2, nD6.1, nD6.2.1, upd_same, ob', y8⟩
    · refine .inl ⟨jw.stop W2 H2 h2 i x1 x2 (by omega), ?_⟩
      rw [List.drop_eq_nil_of_le (by omega)] at x8
      unfold dcF at x8
      cases x8
      exact q _ H2 W2 (e1.trans x1) x2 ⟨D, rfl, hD0, x3, x4, _, x5, x6⟩
theorem pe_dc_t {mk mv : Mn.E} {tg : Tg} {it : Mn.It} {kx vx t i : Expr} {scope : Scope} {pos : Pos} (G : GX c E N k sc X) (hn : lamSc sc = false) (hw : (ownSc N sc || !ownSc N (relab scope sc)) = true) (hi : PI X t i (tI c cf E false it)) (ht : chkTg N scope tg t = true) (hb : blkC N sc scope (tgNames N tg) = true) (hl : tg.slots.length = (tgNames N tg).length)
    (hk : ∀ X', GX c E0 N k (relab scope sc) X' → PE X' kx (tF c cf E0 mk)) (hv : ∀ X', GX c E0 N k (relab scope sc) X' → PE X' vx (tF c cf E0 mv)) (hs : ∀ x, foldedSetIterable i X.env x = pure x) : PE X (.DictComp kx vx [⟨t, i, [], 0⟩] scope pos) (tD c cf E (.dc mk mv tg it)) := by
  have P := LcP.of (cf := cf) (E := E) (me := mk) (cond := fun _ h => .ok (.bl true) h) (elt := kx) (ifs := []) G hn hw hi ht hb hl (fun X' G' => st_nil) hk hs
  refine weakE (pe_dc P.calm P.nd P.pi P.ok P.pg P.pt P.pe (fun s H C cl fp => hv _ (GX.blk G hn hw)) P.hs) fun σ H Q q => ?_
  rw [tgSlots P.hl]
  exact dc_t q
/-! ### list(d.values()) -/
theorem vals_kv : ∀ {kvs : List (L2.Key × V)} {vs : List (L2.Key × Value)}, KV kvs vs → Vals (kvs.map (·.2)) (vs.map (·.2)) := by
  intro kvs vs r
  induction r with
  | nil => exact .nil
  | cons a _ ih => exact .cons a.2 ih
theorem vals_at {us : List Value} {vs : List (L2.Key × Value)} (hl : us.length = vs.length) (h : ∀ (j : Nat) (v : Value), us[j]? = some v → ∃ k, vs[j]? = some (k, v)) : us = vs.map (·.2) := by
  refine List.ext_getElem? fun j => ?_
  rw [List.getElem?_map]
  by_cases hj : j < us.length
  · have e : us[j]? = some us[j] := List.getElem?_eq_getElem hj
    obtain ⟨k, ek⟩ := h j _ e
    rw [e, ek]
    rfl
  · rw [List.getElem?_eq_none (by omega), List.getElem?_eq_none (by omega)]
    rfl
theorem vals_list {X : Cx} {e : Expr} {te : TE} {p apos cpos pos : Pos} (hc : X.calm = true) (he : PE X e te) (hg : Gl X "list") (hm : X.mg "list" = none) (hbase : attributeBase e "values" X.env (eval e X.env) = eval e X.env) (hline : (apos.endLine == cpos.line) = true) :
    PE X (.Call (.Name "list" p) [.Call (.Attribute e "values" apos) [] [] cpos] [] pos) (fun σ H Q => te σ H fun x H1 => ∃ d kvs, x = .ref d ∧ Rd H1 d (.dK kvs) ∧ ∀ q, H1 q = none → Q (.ref q) (upd H1 q (.lst (kvs.map (·.2))))) := by
  refine ⟨fun pins s σ H Q I hq => ?_⟩
  refine wpAny_Call_Name_kw (ld_blt I hg hm PyProof.Rows.Boot.«list» ?_ (by decide) (by decide))
  refine PyProof.Rows.callWith_type1 ?_ (by rfl) (by rfl)
  show wpAny _ _ (spliced ((false, eval (.Call (.Attribute e "values" apos) [] [] cpos) X.env) :: backTo pos (starEach [] X.env))) _ _ s
  refine Calls.spliced_cons ?_
  refine wpAny_Call_method (T := "dict") (id := "dict.values") hbase rfl hline F.plainAttrs_dict F.slot_dict_values F.type_dict_values (thn (he.run pins s σ H _ I hq) fun u s1 got => ?_)
  obtain ⟨x, H1, I1, rx, d, kvs, ex, hd, q⟩ := got
  subst ex
  obtain rfl : u = Value.ref d := rx
  obtain ⟨z, lo, vs, rel, dd⟩ := dk_rd I1.hok hd
  obtain ⟨ep, hat⟩ := dd.dictAt
  have I2 : Inv X pins σ H1 { s1 with heap := s1.heap.push { cls := .type "dict_values", data := .fields #[.ref d] } } := I1.kept (t' := s1.toks) fun b ob q => Heap.get?_push_of_some _ q
  refine ⟨dd.typeIs, dd.mapOf.noDict, ?_⟩
  show wpAny _ _ (callWith cpos (.builtin "dict.values") [.ref d] [] []) _ X.xe s1
  refine method_meetsIn F.slot_dict_values F.entry_dict_values rfl (PySem.evalArgs_none ⟨rfl, dd.typeIs, F.args_dict_values_1 _, _, meets_dict_values (mixKind X.prog X.w) d lo, ⟨vs, dd⟩, ?_⟩)
  refine Calls.spliced_nil ?_
  refine PySem.W.kdl_call (PySem.W.kdl_values (knd := mixKind X.prog X.w) (kvs := vs) (ep := ep)) (I1.ok.hd hc) ⟨⟨_, Heap.get?_push_size _ rfl, rfl, rfl⟩, hat.push _⟩ (by rw [← rel.length]; exact z) fun h' tk acc c' hk hD hacc => ?_
  have hv : Vals (kvs.map (·.2)) acc.toList := by
    rw [vals_at (us := acc.toList) (by rw [Array.length_toList]; exact hacc.1) fun j v e => hacc.2 j v (by rw [← Array.getElem?_toList]; exact e)]
    exact vals_kv rel
  refine ⟨.ref _, _, I2.laid (t' := tk) hk (Nat.le_refl _) (show ObjOk X.prog X.w _ _ _ (.lst (kvs.map (·.2))) from ⟨by rw [List.length_map]; exact z, acc.toList, c', hv, by rw [Array.toArray_toList]; exact hD⟩), rfl, q _ (I2.hok.fresh (Nat.le_refl _))⟩
end
section
variable {c : Cn} {Γ : Gam} {cf : Nat → List D → Hq → R D} {k : Nat} {E : XK} {N : List Str} {sc : Scope} {X : Cx}
theorem s_vals {m : Mn.E} {x : Expr} {f nm : Str} {p apos cpos pos : Pos} (O : Gok c Γ cf k) (G : GX c E N k sc X) (hg : isGl sc f = true) (hn : f = "list") (hfr : Γ.fr.contains f = true) (hv : nm = "values") (h : SE c cf E X m x) (hs : notSup x = true) (hl : (apos.endLine == cpos.line) = true) :
    SE c cf E X (.vals m) (.Call (.Name f p) [.Call (.Attribute x nm apos) [] [] cpos] [] pos) := by
  obtain ⟨g1, g2⟩ := gl_of G hg
  have hm : X.mg f = none := by rw [G.mg]; exact O.fr f hfr
  subst hn hv
  refine SE.ofN (weakE (vals_list G.calm h.b g1 hm (notSup_base hs) hl) fun σ H Q q => ?_)
  obtain ⟨W, ρ, h, kk, r, g⟩ := q
  simp only [evE] at g
  refine ⟨W, ρ, h, kk, r, (Gd.bind g).mono fun d h1 g1 v H1 W1 e1 k1 r1 => ?_⟩
  obtain ⟨y, hy, q⟩ := g1.lift
  cases d with
  | dI ks vs =>
    cases hy
    obtain ⟨a, u, rfl, hd, ob⟩ := r1.dct k1 rfl
    cases u with
    | dK kvs =>
      refine ⟨a, kvs, rfl, hd, fun b hb => ?_⟩
      obtain ⟨e2, k2, _, _⟩ := fresh_ext (o := .lst (kvs.map (·.2))) k1 hb
      exact q _ _ W1 (e1.trans e2) k2 (ResN.newLst e1 k1 hb ob.2)
    | _ => exact False.elim ob
  | _ => cases hy
end
end Mn

namespace Mn
open PySem L2 PySem.Spec PyProof.Rows
/-! ### a lambda with one parameter -/
/-- its scope: the parameter, captured names, globals -/
structure LamP (sc scope : Scope) (p : Str) : Prop where
  kind : scope.kind = .function
  co : scope.isCoroutine = false
  gen : scope.isGenerator = false
  par : scope.names.lookup p = some .local
  loc : ∀ y, scope.names.lookup y = some .local → y = p
  nocell : ∀ y ∈ scope.names, y.2 ≠ .cell
  free : ∀ y ∈ scope.names, y.2 = .free → sc.names.lookup y.1 = some .cell ∨ sc.names.lookup y.1 = some .free
theorem lamP_by {sc scope : Scope} {p : Str} (h : lamPB sc scope p = true) : LamP sc scope p := by
  unfold lamPB at h
  obtain ⟨h1, h⟩ := band h
  obtain ⟨h2, h⟩ := band h
  obtain ⟨h3, h⟩ := band h
  obtain ⟨h4, h5⟩ := band h
  have h5 := List.all_eq_true.mp h5
  have part : ∀ y ∈ scope.names, y.2 ≠ .cell ∧ (y.2 = .local → y.1 = p) ∧ (y.2 = .free → sc.names.lookup y.1 = some .cell ∨ sc.names.lookup y.1 = some .free) := by
    intro y hy
    obtain ⟨z, z3⟩ := band (h5 y hy)
    obtain ⟨z1, z2⟩ := band z
    refine ⟨fun e => ?_, fun e => ?_, fun e => ?_⟩
    · rw [e] at z1; exact Bool.noConfusion z1
    · rw [e] at z2; simpa using z2
    · rw [e] at z3; simpa using z3
  exact ⟨bdec h1, bnot h2, bnot h3, beq_iff_eq.mp h4, fun y hy => (part (y, .local) (PySem.mem_of_lookup hy)).2.1 rfl, fun y hy => (part y hy).1, fun y hy => (part y hy).2.2⟩
section
variable {X : Cx} {pins : List (Addr × Obj)} {σ : L2.St} {H HZ : Hp} {s s1 : Shared} {scope : Scope} {p : Str}
theorem LamP.has (L : LamP X.env.scope scope p) (ok : X.Ok) : ∀ y ∈ scope.names, y.2 = .free → ∃ c, X.env.cells.lookup y.1 = some c := by
  intro y hy e
  rcases L.free y hy e with k | k
  · exact ok.has _ (.inl k)
  · exact ok.has _ (.inr k)
/-- what the cells hold that it captured -/
structure CapAt (X : Cx) (σ : L2.St) (scope : Scope) (h : Heap) (H : Hp) : Prop where
  all : ∀ y c, (cloFrom X.env.cells scope.names []).lookup y = some c → H c = none ∧ ∃ v, h.IsCell c v
  has : ∀ y, scope.names.lookup y = some .free → ∃ c, (cloFrom X.env.cells scope.names []).lookup y = some c ∧ ∀ (j : Nat) (v : V), X.N[j]? = some y → σ[j]? = some (some v) → ∃ u, RelV v u ∧ h.IsCell c (some u)
/-- .. where the maker's own frame runs -/
theorem capAt_of (I : Inv X pins σ H s) (L : LamP X.env.scope scope p) : CapAt X σ scope s.heap H := by
  have hfree := L.has I.ok
  have down : ∀ {y c}, (cloFrom X.env.cells scope.names []).lookup y = some c → X.env.cells.lookup y = some c := fun {y c} e => NdefX.clo_cm hfree e
  refine ⟨fun y c e => ⟨I.freeC y c (down e), I.cell y c (down e)⟩, fun y hy => ?_⟩
  have hm : (y, NameKind.free) ∈ scope.names := PySem.mem_of_lookup hy
  obtain ⟨c, hc⟩ := mem_lookup (cloFrom_has (cells := X.env.cells) (acc := []) hm)
  refine ⟨c, hc, fun j v hN hv => ?_⟩
  have kin := L.free _ hm rfl
  obtain ⟨m, hns, look⟩ := I.loc
  obtain ⟨u, ru, q⟩ := look j y v hN hv (kin.elim (fun z => .inr (.inl z)) fun z => .inr (.inr z))
  rcases q with ⟨k', _⟩ | ⟨_, c3, e3, z⟩
  · exfalso
    have k' : X.env.scope.names.lookup y = some .local := k'
    rcases kin with k2 | k2
    · have k2 : X.env.scope.names.lookup y = some .cell := k2
      rw [k'] at k2; cases k2
    · have k2 : X.env.scope.names.lookup y = some .free := k2
      rw [k'] at k2; cases k2
  · rw [down hc] at e3
    cases e3
    exact ⟨u, ru, z⟩
/-- .. and later, while that frame waits -/
theorem CapAt.un {h h' : Heap} {H' : Hp} {fs : List Addr} (C : CapAt X σ scope h H) (u : Un fs [] H H' h h') (nf : ∀ y c, (cloFrom X.env.cells scope.names []).lookup y = some c → c ∉ fs) : CapAt X σ scope h' H' := by
  have cell : ∀ y c, (cloFrom X.env.cells scope.names []).lookup y = some c → ∀ v, h.IsCell c v → h'.IsCell c v := fun y c e v z => by
    obtain ⟨o, ho, hd⟩ := z
    exact ⟨o, u.keep c o ho (C.all y c e).1 (nf y c e) (by simp), hd⟩
  refine ⟨fun y c e => ?_, fun y hy => ?_⟩
  · obtain ⟨n, v, z⟩ := C.all y c e
    refine ⟨?_, v, cell y c e v z⟩
    obtain ⟨o, ho, _⟩ := z
    exact u.free c o ho n (by simp)
  · obtain ⟨c, hc, hv⟩ := C.has y hy
    exact ⟨c, hc, fun j v hN hs => by
      obtain ⟨w, r, z⟩ := hv j v hN hs
      exact ⟨w, r, cell y c hc _ z⟩⟩
/-- the body's start -/
theorem lamp_start {A : Around} {outer : List PySem.Env} {E : XK} {f c' : Addr} {h₁ : Heap} {tk : Nat} {σ' : L2.St} {v0 : V} {u0 : Value} (ok : X.Ok) (L : LamP X.env.scope scope p) (e0 : Env0 X.prog X.w X.K X.mg X.base A outer s1 HZ) (hd : A.handled = none)
    (C : CapAt X σ scope s1.heap HZ) (r0 : RelV v0 u0) (hns : h₁.Ns s1.heap.objs.size fun y => ([(p, u0)] : List (Str × Value)).reverse.lookup y) (kp : ∀ b o, s1.heap.get? b = some o → h₁.get? b = some o)
    (hlen : σ'.length = X.N.length) (hp : ∀ (j : Nat) (v : V), X.N[j]? = some p → σ'[j]? = some (some v) → v = v0) (hq : ∀ (j : Nat) (y : Str) (v : V), X.N[j]? = some y → y ≠ p → σ'[j]? = some (some v) → σ[j]? = some (some v)) :
    Inv (LamX.lamCx X A outer s1 HZ E scope f c') [] σ' HZ { s1 with heap := h₁, toks := tk } := by
  have hfree := L.has ok
  have down : ∀ {y c}, (cloFrom X.env.cells scope.names []).lookup y = some c → X.env.cells.lookup y = some c := fun {y c} e => NdefX.clo_cm hfree e
  have cellK : ∀ {c : Addr} {v : Option Value}, s1.heap.IsCell c v → h₁.IsCell c v := fun {c v} z => by
    obtain ⟨o, ho, hd⟩ := z
    exact ⟨o, kp _ _ ho, hd⟩
  have noA : ∀ b : Addr, b ∉ (LamX.lamCx X A outer s1 HZ E scope f c').ex := fun b z => absurd (show b ∈ ([] : List Addr) from z) (by simp)
  have okc : (LamX.lamCx X A outer s1 HZ E scope f c').Ok := by
    refine ⟨e0.mod, L.kind, rfl, rfl, Nat.le_refl _, fun y z c e1 e2 => ok.inj y z c (down e1) (down e2), fun y hy => ?_, fun y c z _ => ?_, fun _ => hd, Around.frames_deeper e0.frames, .inr ⟨rfl, rfl⟩, fun b z => absurd z (noA b), e0.bs, e0.bsz, fun b _ _ => noA b, fun b z => absurd z (noA b), e0.funs, e0.frf⟩
    · have hy : scope.names.lookup y = some .cell ∨ scope.names.lookup y = some .free := hy
      rcases hy with hy | hy
      · exact absurd rfl (L.nocell _ (PySem.mem_of_lookup hy))
      · obtain ⟨c, hc, _⟩ := C.has y hy
        exact ⟨c, hc⟩
    · have z : false = true := z
      cases z
  refine ⟨okc, rfl, e0.bare, Un.kept kp, ⟨_, hns, fun j y v e1 e2 e3 => ?_⟩, fun y c e => ?_, e0.hok.fresh (Nat.le_refl _), fun y c e => (C.all y c e).1, fun q hq => absurd (show q ∈ ([] : List (Addr × Obj)) ++ [] from hq) (by simp), e0.hok.kept kp, hlen⟩
  · have e3 : Vis scope y := e3
    rcases e3 with k | k | k
    · have hy := L.loc y k
      subst hy
      obtain rfl := hp j v e1 e2
      refine ⟨u0, r0, .inl ⟨k, ?_⟩⟩
      simp
    · exact absurd rfl (L.nocell _ (PySem.mem_of_lookup k))
    · have hne : y ≠ p := fun z => by
        rw [z, L.par] at k
        cases k
      obtain ⟨c, hc, hv⟩ := C.has y k
      obtain ⟨u, ru, z⟩ := hv j v e1 (hq j y v e1 hne e2)
      exact ⟨u, ru, .inr ⟨.inr k, c, hc, cellK z⟩⟩
  · obtain ⟨v, z⟩ := (C.all y c e).2
    exact ⟨v, cellK z⟩
end
/-! ### the least one by a key -/
section
variable {c : Cn} {X : Cx} {pins : List (Addr × Obj)} {σ : L2.St} {W1 : Wd} {H1 : Hp} {h1 : Hq} {l I S f : Addr} {vsV : List V} {ds ks : List D}
theorem fp_keep {H H' : Hp} {s s' : Shared} {b : Addr} {o : Obj} (I0 : Inv X pins σ H s) (F : FpOk X pins H b) (u : Un (frs X.stack) [] H H' s.heap s'.heap) (e : s.heap.get? b = some o) : s'.heap.get? b = some o ∧ FpOk X pins H' b := by
  obtain ⟨f0, f1, f2, f3⟩ := F
  have nf : b ∉ frs X.stack := fun z => by
    rcases List.mem_cons.mp (I0.stkSub _ z) with y | y
    · exact f1 y
    · exact f2 y
  exact ⟨u.keep b o e f0 nf (by simp), u.free b o e f0 (by simp), f1, f2, f3⟩
/-- what a key's call does, from any state of the walk -/
def KeyGo (c : Cn) (X : Cx) (A : Around) (pins : List (Addr × Obj)) (σ : L2.St) (W1 : Wd) (H1 : Hp) (h1 : Hq) (f : Addr) (ds ks : List D) : Prop :=
  ∀ (j : Nat) (d k : D), ds[j]? = some d → ks[j]? = some k → ∀ (Hs : Hp) (Ws : Wd) (s : Shared) (v : V) (u : Value), Inv X pins σ Hs s → Ext W1 H1 Ws Hs → Hok c.fa Ws Hs h1 → RelV v u → Rep c.fa Ws v d → ∀ (Q : Value → Shared → Prop) (E : Value → Shared → Prop),
    (∀ (ku : Value) (s' : Shared) (H' : Hp) (W' : Wd) (kv : V), Inv X pins σ H' s' → Ext Ws Hs W' H' → Hok c.fa W' H' h1 → RelV kv ku → Rep c.fa W' kv k → Un (frs X.stack) [] Hs H' s.heap s'.heap → Q ku s') → wpAny (model X.prog X.w) A (call (.ref f) [u]) Q E s
theorem KeyGo.less {A : Around} (g : KeyGo c X A.in1 pins σ W1 H1 h1 f ds ks) : KeyGo c X A pins σ W1 H1 h1 f ds ks := fun j d k hd hk Hs Ws s v u I x1 x2 rv rp Q E hQ => wpAny_of_in1 (g j d k hd hk Hs Ws s v u I x1 x2 rv rp Q E hQ)
/-- before the j-th item is asked for: the best one so far, and its key -/
def MinSt (c : Cn) (X : Cx) (pins : List (Addr × Obj)) (σ : L2.St) (W1 : Wd) (H1 : Hp) (h1 : Hq) (l I S : Addr) (j : Nat) (vb kb : Value) (bd bk : D) (s : Shared) : Prop :=
  ∃ (Hs : Hp) (Ws : Wd) (v k : V) (n : Nat), Inv X pins σ Hs s ∧ Ext W1 H1 Ws Hs ∧ Hok c.fa Ws Hs h1 ∧ FpOk X pins Hs S ∧ FpOk X pins Hs I ∧ s.heap.IsListIter I l j ∧ RelV v vb ∧ Rep c.fa Ws v bd ∧ RelV k kb ∧ Rep c.fa Ws k bk ∧ s.heap.get? S = some { cls := .type "list", dict := none, data := .seq #[vb, kb] n, slots := #[] }
theorem iter_not {h : Heap} {it l : Addr} {i n : Nat} {xs : Array Value} (a : h.IsListIter it l i) {S : Addr} (b : h.get? S = some { cls := .type "list", dict := none, data := .seq xs n, slots := #[] }) : S ≠ it := fun e => by
  obtain ⟨o, ho, hc, hd⟩ := a
  rw [← e, b] at ho
  cases ho
  cases hd
/-- an object of the walk's own is written -/
theorem own_write {Hs : Hp} {s : Shared} {h' : Heap} {tk : Nat} {b : Addr} (I0 : Inv X pins σ Hs s) (F : FpOk X pins Hs b) (k : ∀ a o, a ≠ b → s.heap.get? a = some o → h'.get? a = some o) : Inv X pins σ Hs { s with heap := h', toks := tk } :=
  I0.turnedL (ch := [b]) (fun a o ha e => k a o (fun z => ha (by rw [z]; exact List.mem_singleton.mpr rfl)) e) fun a ha => by
    rw [List.mem_singleton.mp ha]; exact F
theorem min_loop (hc : X.calm = true) (hu : X.A.units + 70 < cLine) (hl : W1.F l = some (.lst vsV)) (hr : RepL c.fa W1 vsV ds) (hk : ks.length = ds.length) (ok : srtOk ks = true) (go_ : KeyGo c X X.A.in1 pins σ W1 H1 h1 f ds ks) {R : Result → Shared → Prop} {d : D} {kw : List (Str × Value)}
    (fin : ∀ (v : V) (u : Value) (Hs : Hp) (Ws : Wd) (s : Shared), Inv X pins σ Hs s → Ext W1 H1 Ws Hs → Hok c.fa Ws Hs h1 → RelV v u → Rep c.fa Ws v d → R (.ok (.ret u)) s) :
    ∀ (m j : Nat) (vb kb : Value) (bd bk : D) (s : Shared), ds.length - j = m → j ≤ ds.length → bk ∈ ks → (((ks.drop j).zip (ds.drop j)).foldl (fun a y => if D.lt y.1 a.1 then y else a) (bk, bd)).2 = d → MinSt c X pins σ W1 H1 h1 l I S j vb kb bd bk s →
      codeAny (model X.prog X.w) X.A (.builtin "min.loop" ⟨[.ref I, .ref f, .ref S], kw⟩) R s := by
  obtain ⟨q1, q2, q3⟩ := srt_alk ok
  have e0 : (toString "min" ++ toString ".loop" : String) = "min.loop" := by decide
  intro m
  induction m with
  | zero =>
    intro j vb kb bd bk s hm hj hbk hd st
    obtain ⟨Hs, Ws, v, k, n, I0, x1, x2, fS, fI, it, r1, p1, r2, p2, atS⟩ := st
    have hjn : ds.length ≤ j := by omega
    rw [List.drop_eq_nil_of_le (by omega), List.zip_nil_left, List.foldl_nil] at hd
    subst hd
    refine codeAny_builtin F.entry_min_loop ?_
    rw [Around.under_plainId F.plain_min_loop _]
    obtain ⟨its, rv, pl, _⟩ := I0.list (.inl (.of (x2.sub _ _ (x1.f _ _ hl))))
    have hlen : its.length = ds.length := by rw [← rv.length, hr.length]
    have no : its.toArray[j]? = none := by simp; omega
    refine wpAny_bind (wpAny_seqItems atS rfl ?_)
    refine wpAny_bind (wpAny_tryCatch (wpAny_pyNext_list_end (I0.ok.hd hc) it pl.isList no fun g ex => ?_))
    have atS' : g.get? S = some { cls := .type "list", dict := none, data := .seq #[vb, kb] n, slots := #[] } := ex _ _ (iter_not it atS) atS
    refine wpAny_bind (wpAny_updateSeq atS' rfl (wpAny_bind (wpAny_letGo (wpAny_pure ?_))))
    have I1 : Inv X pins σ Hs { s with heap := g } := own_write (tk := s.toks) I0 fI fun a o ha e => ex a o ha e
    have I2 : Inv X pins σ Hs { s with heap := g.update S (Obj.mapSeq fun _ => #[]) } := own_write (s := { s with heap := g }) (tk := s.toks) I1 fS fun a o ha e => (Heap.get?_update_other _ _ (Ne.symm ha)).trans e
    exact fin v vb Hs Ws _ I2 x1 x2 r1 p1
  | succ m ih =>
    intro j vb kb bd bk s hm hj hbk hd st
    obtain ⟨Hs, Ws, v, k, n, I0, x1, x2, fS, fI, it, r1, p1, r2, p2, atS⟩ := st
    have hjn : j < ds.length := by omega
    have hjk : j < ks.length := by omega
    have ed : ds.drop j = ds[j] :: ds.drop (j + 1) := List.drop_eq_getElem_cons hjn
    have ek : ks.drop j = ks[j] :: ks.drop (j + 1) := List.drop_eq_getElem_cons hjk
    rw [ed, ek, List.zip_cons_cons, List.foldl_cons] at hd
    have hkm : ks[j] ∈ ks := List.getElem_mem _
    refine codeAny_builtin F.entry_min_loop ?_
    rw [Around.under_plainId F.plain_min_loop _]
    obtain ⟨its, rv, pl, _⟩ := I0.list (.inl (.of (x2.sub _ _ (x1.f _ _ hl))))
    obtain ⟨vj, evj, rpj⟩ := hr.get (List.getElem?_eq_getElem hjn)
    obtain ⟨uj, euj, ruj⟩ := rv.get evj
    refine wpAny_bind (wpAny_seqItems atS rfl ?_)
    refine wpAny_bind (wpAny_tryCatch (wpAny_pyNext_list_item it pl.isList (x := uj) (by simpa using euj) fun g it' sb => ?_))
    have neS : S ≠ I := iter_not it atS
    have atS' : g.get? S = some { cls := .type "list", dict := none, data := .seq #[vb, kb] n, slots := #[] } := (sb.2 S neS).trans atS
    have I1 : Inv X pins σ Hs { s with heap := g } := own_write (tk := s.toks) I0 fI fun a o ha e => (sb.2 a ha).trans e
    have rpj' : Rep c.fa Ws vj ds[j] := x1.rep rpj
    refine wpAny_bind (wpAny_tryCatch (wpAny_holding (go_ j ds[j] ks[j] (List.getElem?_eq_getElem hjn) (List.getElem?_eq_getElem hjk) Hs Ws _ vj uj I1 x1 x2 ruj rpj' _ _ fun ku s2 H2 W2 kv J y1 y2 rk pk un => ?_)))
    obtain ⟨atS2, fS2⟩ := fp_keep I1 fS un atS'
    obtain ⟨oI, hoI, cI, dI⟩ := id it'
    obtain ⟨atI2, fI2⟩ := fp_keep I1 fI un hoI
    have itn : s2.heap.IsListIter I l (j + 1) := ⟨oI, atI2, cI, dI⟩
    have y1' : Ext W1 H1 W2 H2 := x1.trans y1
    -- the two keys compared
    have plk := plain_mem q1 _ hkm
    have plb := plain_mem q1 _ hbk
    obtain ⟨as1, rd1⟩ := Dp.reads J _ _ _ (Rdb.dp (K := X.K) y2 (.inl pk) plk) rk
    obtain ⟨as2, rd2⟩ := Dp.reads J _ _ _ (Rdb.dp (K := X.K) y2 (.inl (y1.rep p2)) plb) r2
    have alk2 := q2 _ hkm _ hbk
    have dlt := alk_lt ks[j] bk alk2
    have cmp_ : ∀ (Q : Value → Shared → Prop) (E : Value → Shared → Prop), Q (.bool (D.lt ks[j] bk)) s2 → wpAny (model X.prog X.w) X.A.in1 (richCompare .Lt ku kb) Q E s2 := fun Q E hq => by
      have hn : ks[j].py ≠ .none := by
        obtain ⟨z, r, e⟩ := q3 _ hkm
        rw [e]; intro z; cases z
      have dp1 := plain_depth 59 _ plk
      have hdep : X.A.in1.units + min ks[j].py.depth bk.py.depth < cLine := by
        show X.A.units + 1 + _ < _
        omega
      exact PySem.W.rcLt_alike _ _ X.A.in1 s2 ku kb as1 as2 rd1 rd2 (alk_py _ _ alk2) hn hdep X.prog X.w E Q (by rw [dlt]; exact hq)
    refine wpAny_bind (wpAny_tryCatch (wpAny_holding (wpAny_bind (cmp_ _ _ ?_))))
    refine wpAny_bind (wpAny_holding (wpAny_truthy_bool ?_))
    refine wpAny_bind (wpAny_letGo (wpAny_pure ?_))
    cases hb : D.lt ks[j] bk with
    | true =>
      rw [hb, if_pos rfl] at hd
      simp only [if_true]
      refine wpAny_bind (wpAny_updateSeq atS2 rfl (wpAny_bind (wpAny_letGo ?_)))
      rw [e0]
      have I2 : Inv X pins σ H2 { s2 with heap := s2.heap.update S (Obj.mapSeq fun _ => #[uj, ku]) } := own_write (tk := s2.toks) J fS2 fun a o ha e => (Heap.get?_update_other _ _ (Ne.symm ha)).trans e
      refine wpAny_pure ⟨plainId_quiet F.plain_min_loop _, ih (j + 1) uj ku ds[j] ks[j] _ (by omega) hjn hkm hd ?_⟩
      refine ⟨H2, W2, vj, kv, _, I2, y1', y2, fS2, fI2, ⟨oI, (Heap.get?_update_other _ _ neS).trans atI2, cI, dI⟩, ruj, y1.rep rpj', rk, pk, Heap.get?_update_self _ atS2 rfl⟩
    | false =>
      rw [hb] at hd
      simp only [Bool.false_eq_true, if_false] at hd ⊢
      refine wpAny_bind (wpAny_letGo ?_)
      rw [e0]
      exact wpAny_pure ⟨plainId_quiet F.plain_min_loop _, ih (j + 1) vb kb bd bk _ (by omega) hjn hbk hd ⟨H2, W2, v, k, n, J, y1', y2, fS2, fI2, itn, r1, y1.rep p1, r2, y1.rep p2, atS2⟩⟩
theorem min_first (hc : X.calm = true) (hu : X.A.units + 70 < cLine) (hl : W1.F l = some (.lst vsV)) (hr : RepL c.fa W1 vsV ds) (hk : ks.length = ds.length) (ok : srtOk ks = true) (go_ : KeyGo c X X.A.in1 pins σ W1 H1 h1 f ds ks) {R : Result → Shared → Prop} {d : D} {kw : List (Str × Value)} {s : Shared} {n : Nat}
    (fin : ∀ (v : V) (u : Value) (Hs : Hp) (Ws : Wd) (s : Shared), Inv X pins σ Hs s → Ext W1 H1 Ws Hs → Hok c.fa Ws Hs h1 → RelV v u → Rep c.fa Ws v d → R (.ok (.ret u)) s) (hd : minK (ks.zip ds) = some d)
    (I0 : Inv X pins σ H1 s) (x2 : Hok c.fa W1 H1 h1) (fS : FpOk X pins H1 S) (fI : FpOk X pins H1 I) (it : s.heap.IsListIter I l 0) (atS : s.heap.get? S = some { cls := .type "list", dict := none, data := .seq #[] n, slots := #[] }) :
    codeAny (model X.prog X.w) X.A (.builtin "min.loop" ⟨[.ref I, .ref f, .ref S], kw⟩) R s := by
  have e0 : (toString "min" ++ toString ".loop" : String) = "min.loop" := by decide
  have hne : 0 < ds.length := by
    match ds, ks, hk, hd with
    | [], [], _, hd => cases hd
    | _ :: _, _, _, _ => simp
  have hnk : 0 < ks.length := by omega
  have ez : ks.zip ds = (ks[0], ds[0]) :: (ks.drop 1).zip (ds.drop 1) := by
    match ds, ks, hne, hnk with
    | d :: ds, k :: ks, _, _ => rfl
  rw [ez] at hd
  have hd : some _ = some d := hd
  refine codeAny_builtin F.entry_min_loop ?_
  rw [Around.under_plainId F.plain_min_loop _]
  obtain ⟨its, rv, pl, _⟩ := I0.list (.inl (.of (x2.sub _ _ hl)))
  obtain ⟨vj, evj, rpj⟩ := hr.get (List.getElem?_eq_getElem hne)
  obtain ⟨uj, euj, ruj⟩ := rv.get evj
  refine wpAny_bind (wpAny_seqItems atS rfl ?_)
  refine wpAny_bind (wpAny_tryCatch (wpAny_pyNext_list_item it pl.isList (x := uj) (by simpa using euj) fun g it' sb => ?_))
  have neS : S ≠ I := iter_not it atS
  have atS' : g.get? S = some { cls := .type "list", dict := none, data := .seq #[] n, slots := #[] } := (sb.2 S neS).trans atS
  have I1 : Inv X pins σ H1 { s with heap := g } := own_write (tk := s.toks) I0 fI fun a o ha e => (sb.2 a ha).trans e
  refine wpAny_bind (wpAny_tryCatch (wpAny_holding (go_ 0 ds[0] ks[0] (List.getElem?_eq_getElem hne) (List.getElem?_eq_getElem hnk) H1 W1 _ vj uj I1 (.refl _ _) x2 ruj rpj _ _ fun ku s2 H2 W2 kv J y1 y2 rk pk un => ?_)))
  obtain ⟨atS2, fS2⟩ := fp_keep I1 fS un atS'
  obtain ⟨oI, hoI, cI, dI⟩ := id it'
  obtain ⟨atI2, fI2⟩ := fp_keep I1 fI un hoI
  refine wpAny_bind (wpAny_updateSeq atS2 rfl ?_)
  rw [e0]
  have I2 : Inv X pins σ H2 { s2 with heap := s2.heap.update S (Obj.mapSeq fun _ => #[uj, ku]) } := own_write (tk := s2.toks) J fS2 fun a o ha e => (Heap.get?_update_other _ _ (Ne.symm ha)).trans e
  refine wpAny_pure ⟨plainId_quiet F.plain_min_loop _, min_loop hc hu hl hr hk ok go_ fin (ds.length - 1) 1 uj ku ds[0] ks[0] _ rfl hne (List.getElem_mem _) (Option.some.inj hd) ?_⟩
  exact ⟨H2, W2, vj, kv, _, I2, y1, y2, fS2, fI2, ⟨oI, (Heap.get?_update_other _ _ neS).trans atI2, cI, dI⟩, ruj, y1.rep rpj, rk, pk, Heap.get?_update_self _ atS2 rfl⟩
/-- min(xs, key=f) -/
theorem call_min_key (hc : X.calm = true) (hu : X.A.units + 70 < cLine) (hl : W1.F l = some (.lst vsV)) (hr : RepL c.fa W1 vsV ds) (hk : ks.length = ds.length) (ok : srtOk ks = true) (go_ : KeyGo c X X.A.in1 pins σ W1 H1 h1 f ds ks) {d : D} {Q : VK} {E : Value → Shared → Prop} {s : Shared}
    (hd : minK (ks.zip ds) = some d) (I0 : Inv X pins σ H1 s) (x2 : Hok c.fa W1 H1 h1) (q : ∀ v Hs Ws, Ext W1 H1 Ws Hs → Hok c.fa Ws Hs h1 → Rep c.fa Ws v d → Q v Hs) :
    wpAny (model X.prog X.w) X.A (call (.builtin "min") [.ref l] [(Str.ofString "key", .ref f)]) (EP X pins σ Q) E s := by
  refine PyProof.Rows.kmk_tree F.kind_min F.plain_min F.entry_min (PyProof.Rows.kmk_min_key _ _) ?_
  have eb : Builtin.Builtins.bindParams "min" ["key", "default"] 0 ⟨[], [(Str.ofString "key", .ref f)]⟩ = pure [some (.ref f), none] := rfl
  refine wpAny_bind (wpAny_of_eq eb ?_)
  refine wpAny_bind (wpAny_pure ?_)
  obtain ⟨its, rv, pl, _⟩ := I0.list (.inl (.of (x2.sub _ _ hl)))
  have e0 : (toString "min" ++ toString ".loop" : String) = "min.loop" := by decide
  refine wpAny_bind (wpAny_pyIter_list pl.isList ?_)
  have I1 : Inv X pins σ H1 { s with heap := s.heap.push { cls := .type "list_iterator", data := .fields #[.ref l, .int 0 0] } } := I0.kept (t' := s.toks) fun b o e => Heap.get?_push_of_some _ e
  have fI : FpOk X pins H1 s.heap.objs.size := I0.fpOk (Nat.le_refl _) (I0.hok.fresh (Nat.le_refl _))
  have fS : FpOk X pins H1 (s.heap.push { cls := .type "list_iterator", data := .fields #[.ref l, .int 0 0] }).objs.size := I1.fpOk (Nat.le_refl _) (I1.hok.fresh (Nat.le_refl _))
  refine wpAny_bind (wpAny_newObj_type ?_)
  rw [e0]
  refine wpAny_pure ⟨plainId_quiet F.plain_min_loop _, min_first (n := 0) hc hu hl hr hk ok go_ (fun v u Hs Ws s' J y1 y2 r p => ?_) hd (I1.kept (t' := s.toks) fun b o e => Heap.get?_push_of_some _ e) x2 fS fI ?_ (Heap.get?_push_size _ rfl)⟩
  · exact ⟨v, Hs, J, r, q v Hs Ws y1 y2 p⟩
  · exact ⟨_, Heap.get?_push_of_some _ (Heap.get?_push_size _ rfl), rfl, rfl⟩
end
/-! ### a pure body's world -/
section
variable {fa : FaT}
mutual
theorem rep_plain {W : Wd} : ∀ (n : Nat) (d : D) (v : V), D.plain n d = true → Rep fa W v d → Rep fa ⟨W.F, []⟩ v d
  | _, .non, _, _, r => by cases r; exact .non
  | _, .bl b, _, _, r => by cases r; exact .bl b
  | _, .int i, _, _, r => by cases r; exact .int i
  | _, .str x, _, _, r => by cases r; exact .str x
  | n, .tup ds, _, h, r => by
    cases r with
    | tup hf rl => exact .tup hf (rep_plainL n ds _ (by simpa [D.plain] using h) rl)
  | n, .lst ds, _, h, r => by
    cases r with
    | lst hf rl => exact .lst hf (rep_plainL n ds _ (by simpa [D.plain] using h) rl)
  | _, .frl _, _, h, _ => by simp [D.plain] at h
  | _, .dI _ _, _, h, _ => by simp [D.plain] at h
  | _, .dT _ _, _, h, _ => by simp [D.plain] at h
  | _, .rng _ _, _, h, _ => by simp [D.plain] at h
  | _, .rep _, _, h, _ => by simp [D.plain] at h
  | _, .cell _, _, h, _ => by simp [D.plain] at h
  | _, .fn _ _, _, h, _ => by simp [D.plain] at h
theorem rep_plainL {W : Wd} : ∀ (n : Nat) (ds : List D) (vs : List V), D.plainL n ds = true → RepL fa W vs ds → RepL fa ⟨W.F, []⟩ vs ds
  | _, [], _, _, r => by cases r; exact .nil
  | 0, _ :: _, _, h, _ => by simp [D.plainL] at h
  | n + 1, d :: ds, _, h, r => by
    have h' : D.plain n d = true ∧ D.plainL (n + 1) ds = true := by simpa [D.plainL] using h
    cases r with
    | cons r0 rl => exact .cons (rep_plain n d _ h'.1 r0) (rep_plainL (n + 1) ds _ h'.2 rl)
end
theorem hok_pure {W : Wd} {H : Hp} {h : Hq} (k : Hok fa W H h) : Hok fa ⟨W.F, []⟩ H [] :=
  ⟨k.sub, rfl, List.nodup_nil, fun i a ds h1 _ => by simp at h1, fun a ha => by simp at ha, k.tab, k.nf⟩
theorem Hok.atC {W : Wd} {H : Hp} {h : Hq} (k : Hok fa W H h) : ∀ a ∈ W.C, ∃ vs, H a = some (.lst vs) := fun a ha => by
  obtain ⟨i, hi⟩ := List.mem_iff_getElem?.mp ha
  have hl : i < h.length := by rw [← k.len]; exact (List.getElem?_eq_some_iff.mp hi).1
  obtain ⟨ds, hds⟩ : ∃ ds, h[i]? = some (.lst ds) := by
    rw [List.getElem?_eq_getElem hl]
    cases h[i] with
    | lst ds => exact ⟨ds, rfl⟩
  obtain ⟨vs, e1, _⟩ := k.cell i a ds hi hds
  exact ⟨vs, e1⟩
theorem pure_back {W W' : Wd} {H H' : Hp} {h : Hq} (k : Hok fa W H h) (e : Ext ⟨W.F, []⟩ H W' H') (k' : Hok fa W' H' []) :
    Ext W H ⟨W'.F, W.C⟩ H' ∧ Hok fa ⟨W'.F, W.C⟩ H' h ∧ ∀ {v : V} {d : D}, Rep fa W' v d → Rep fa ⟨W'.F, W.C⟩ v d := by
  have up : ∀ {v : V} {d : D}, Rep fa W v d → Rep fa ⟨W'.F, W.C⟩ v d := fun r => Rep.mono (W := W) (W' := ⟨W'.F, W.C⟩) e.f (fun _ _ h => h) r
  have upL : ∀ {v : List V} {d : List D}, RepL fa W v d → RepL fa ⟨W'.F, W.C⟩ v d := fun r => RepL.mono (W := W) (W' := ⟨W'.F, W.C⟩) e.f (fun _ _ h => h) r
  have noC : W'.C = [] := List.length_eq_zero_iff.mp k'.len
  refine ⟨⟨e.f, ⟨[], by simp, by simp⟩, fun a o h1 _ h3 => e.k a o h1 (by simp) h3, e.n, e.t, e.u⟩, ⟨k'.sub, k.len, k.nd, fun i a ds h1 h2 => ?_, fun a ha => ?_, k'.tab, k'.nf⟩, fun r => Rep.mono (W := W') (W' := ⟨W'.F, W.C⟩) (fun _ _ h => h) (fun n a h => ?_) r⟩
  · obtain ⟨vs, e1, r⟩ := k.cell i a ds h1 h2
    exact ⟨vs, e.k a _ e1 (by simp) noT_lst.1, upL r⟩
  · obtain ⟨vs, e1⟩ := k.atC a ha
    refine ⟨e.n a _ e1 noT_lst.2.2 (k.cf a ha).1, ?_⟩
    rw [e.k a _ e1 (by simp) noT_lst.1]
    simp
  · rw [noC] at h
    simp at h
end
/-! ### the slots of a lambda's body -/
def keepS (n : Nat) (cap : List Nat) : L2.St → L2.St
  | [] => []
  | s :: r => (if n ∈ cap then s else none) :: keepS (n + 1) cap r
theorem keepS_len (cap : List Nat) : ∀ (n : Nat) (σ : L2.St), (keepS n cap σ).length = σ.length
  | _, [] => rfl
  | n, s :: r => by rw [keepS, List.length_cons, List.length_cons, keepS_len cap (n + 1) r]
theorem keepE_len (cap : List Nat) : ∀ (n : Nat) (ρ : Env), (keepE n cap ρ).length = ρ.length
  | _, [] => rfl
  | n, s :: r => congrArg (· + 1) (keepE_len cap (n + 1) r)
theorem keepS_at (cap : List Nat) : ∀ (n : Nat) (σ : L2.St) (j : Nat) (v : V), (keepS n cap σ)[j]? = some (some v) → n + j ∈ cap ∧ σ[j]? = some (some v)
  | _, [], j, v, h => by simp [keepS] at h
  | n, s :: r, 0, v, h => by
    simp only [keepS, List.getElem?_cons_zero, Option.some.injEq] at h
    split at h
    · rename_i hm
      exact ⟨by simpa using hm, by simpa using h⟩
    · cases h
  | n, s :: r, j + 1, v, h => by
    have z := keepS_at cap (n + 1) r j v (by simpa [keepS] using h)
    exact ⟨by rw [show n + (j + 1) = n + 1 + j by omega]; exact z.1, by simpa using z.2⟩
theorem keepS_in (cap : List Nat) : ∀ (n : Nat) (σ : L2.St) (j : Nat) (v : V), n + j ∈ cap → σ[j]? = some (some v) → (keepS n cap σ)[j]? = some (some v)
  | _, [], j, v, _, h => by simp at h
  | n, s :: r, 0, v, hm, h => by
    have hm : n ∈ cap := by simpa using hm
    simp only [keepS, List.getElem?_cons_zero, Option.some.injEq, if_pos hm]
    simpa using h
  | n, s :: r, j + 1, v, hm, h => by
    have z := keepS_in cap (n + 1) r j v (by rw [show n + 1 + j = n + (j + 1) by omega]; exact hm) (by simpa using h)
    simpa [keepS] using z
theorem keepE_fz (cap : List Nat) : ∀ (n : Nat) (ρ : Env) (j : Nat) (d : D), (keepE n cap ρ)[j]? = some (.fz d) → n + j ∈ cap ∧ ρ[j]? = some (.fz d) ∧ D.plain 60 d = true
  | _, [], j, d, h => by simp [keepE] at h
  | n, s :: r, 0, d, h => by
    simp only [keepE, List.getElem?_cons_zero, Option.some.injEq] at h
    split at h
    · rename_i hm
      split at h
      · split at h
        · rename_i hp
          cases h
          exact ⟨by simpa using hm, rfl, hp⟩
        · cases h
      · cases h
    · cases h
  | n, s :: r, j + 1, d, h => by
    have z := keepE_fz cap (n + 1) r j d (by simpa [keepE] using h)
    exact ⟨by rw [show n + (j + 1) = n + 1 + j by omega]; exact z.1, by simpa using z.2.1, z.2.2⟩
theorem keepE_ow (cap : List Nat) : ∀ (n : Nat) (ρ : Env) (j : Nat) (d : D), (keepE n cap ρ)[j]? ≠ some (.ow d)
  | _, [], j, d, h => by simp [keepE] at h
  | n, s :: r, 0, d, h => by
    simp only [keepE, List.getElem?_cons_zero, Option.some.injEq] at h
    split at h
    · split at h
      · split at h <;> cases h
      · cases h
    · cases h
  | n, s :: r, j + 1, d, h => keepE_ow cap (n + 1) r j d (by simpa [keepE] using h)
theorem keep_sr {fa : FaT} {W : Wd} {H : Hp} {σ : L2.St} {ρ : Env} {i : Nat} {cap : List Nat} {v : V} {d : D} (r : Sr fa W H σ ρ) (rv : Rep fa ⟨W.F, []⟩ v d) : Sr fa ⟨W.F, []⟩ H ((keepS 0 cap σ).set i (some v)) ((keepE 0 cap ρ).set i (.fz d)) := by
  have no : ∀ (j : Nat) (e : D), ((keepE 0 cap ρ).set i (.fz d))[j]? ≠ some (.ow e) := fun j e h => by
    rw [List.getElem?_set] at h
    split at h
    · split at h <;> cases h
    · exact keepE_ow cap 0 ρ j e h
  refine ⟨by rw [List.length_set, List.length_set, keepS_len, keepE_len, r.len], fun j e h => ?_, fun j e h => absurd h (no j e), fun a b p e g h => absurd h (no a e)⟩
  rw [List.getElem?_set] at h
  split at h
  · rename_i hij
    split at h
    · rename_i hl
      cases h
      subst hij
      refine ⟨v, ?_, rv⟩
      rw [keepE_len, ← r.len, ← keepS_len cap 0] at hl
      rw [List.getElem?_set_self hl]
    · cases h
  · rename_i hij
    obtain ⟨z1, z2, z3⟩ := keepE_fz cap 0 ρ j e h
    obtain ⟨w, hw, rw'⟩ := r.fz j e z2
    refine ⟨w, ?_, rep_plain 60 e w z3 rw'⟩
    rw [List.getElem?_set_ne hij]
    exact keepS_in cap 0 σ j w z1 hw
section
variable {f : Env → Hq → R D} {i : Nat} {ρ : Env}
theorem keysF_len : ∀ {ds ks : List D}, keysF f i ρ ds = some ks → ks.length = ds.length
  | [], ks, h => by cases h; rfl
  | d :: ds, ks, h => by
    unfold keysF at h
    split at h
    · obtain ⟨r, h1, rfl⟩ := Option.map_eq_some_iff.mp h
      exact congrArg (· + 1) (keysF_len h1)
    · cases h
theorem keysF_get : ∀ {ds ks : List D}, keysF f i ρ ds = some ks → ∀ (j : Nat) (d k : D), ds[j]? = some d → ks[j]? = some k → f (ρ.set i (.fz d)) [] = .ok k []
  | [], ks, h, j, d, k, h1, _ => by simp at h1
  | d0 :: ds, ks, h, j, d, k, h1, h2 => by
    unfold keysF at h
    split at h
    · rename_i k0 e0
      obtain ⟨r, h3, rfl⟩ := Option.map_eq_some_iff.mp h
      match j, h1, h2 with
      | 0, h1, h2 =>
        cases h1
        cases h2
        exact e0
      | j + 1, h1, h2 => exact keysF_get h3 j d k (by simpa using h1) (by simpa using h2)
    · cases h
end
section
variable {c : Cn} {cf : Nat → List D → Hq → R D} {k : Nat} {E : XK} {N : List Str} {sc scope : Scope} {X : Cx} {pins : List (Addr × Obj)} {σ : L2.St} {H HZ : Hp} {s s1 : Shared} {p : Str}
theorem GX.lamp (G : GX c E N k sc X) (hcx : c.CX = L2.CX c.P c.w) {A : Around} {outer : List PySem.Env} {Ex : XK} {f c' : Addr} (hl : ownSc N scope = false) (gd : A.guards = some []) (hr : Room (k + 1) (A.deeper (LamX.lamEnv X scope s1.heap.objs.size f c'))) :
    GX c Ex N k scope (LamX.lamCx X A outer s1 HZ Ex scope f c') := by
  obtain ⟨g1, g2, g3, g4, g5, g6, g7, g8, g9, g10, g11, g12, g13, g14, g15, g16, g17⟩ := G
  have no : ∀ {P : Prop}, ownSc N scope = true → P := fun z => by rw [hl] at z; cases z
  refine ⟨g1, g2, g3, g4, g5, rfl, g7, g8, rfl, Room.mono hr (by omega), gd, ?_, g13, g14, fun _ => hr, fun z => no z, fun z => no z⟩
  rw [hcx]
  intro pins σ H1 s2 e s' I hc
  have hc : L2.CX c.P c.w (LamX.lamCx X A outer s1 HZ Ex scope f c').stack H1 s2 Ex e s' := hc
  rw [← g1, ← g2] at hc
  exact passes_call (takes_of (X := LamX.lamCx X A outer s1 HZ Ex scope f c') (E := Ex) rfl rfl rfl rfl) (fun _ _ _ _ h => h) pins σ H1 s2 e s' I hc
/-- the lambda called at each thing -/
theorem lam_go {i : Nat} {cap : List Nat} {ρ : Env} {W1 : Wd} {H1 : Hp} {h1 : Hq} {f c' : Addr} {params : Arguments} {body : Expr} {pm ctv : Value} {q : Str} {m : Mn.E} {ds ks : List D}
    (G : GX c E N k sc X) (hcx : c.CX = L2.CX c.P c.w) (hl : ownSc N scope = false) (L : LamP X.env.scope scope p) (hr : Room (k + 2) X.A) (hN : N[i]? = some p)
    (hm : ∀ X' E', GX c E' N k scope X' → PE X' body (tF c cf E' m)) (k1 : Hok c.fa W1 H1 h1) (isC : H1 c' = some (LamX.CodeO c' q)) (hq : X.env.qual ++ "<lambda>" = q)
    (hpin : (f, PySem.W.kla_obj "<lambda>" q params body scope (cloFrom X.env.cells scope.names []) pm c' ctv) ∈ pins)
    (bnd : ∀ (q : Str) (cl : List (Str × Addr)) (pm cv ctv u : Value), bindArgs (PySem.W.kla_fn "<lambda>" q params body scope cl pm cv ctv) ⟨[u], []⟩ = pure [(p, u)])
    (sr : Sr c.fa W1 H1 σ ρ) (hp : D.plainL 60 ds = true) (hks : keysF (evE cf m) i (keepE 0 cap ρ) ds = some ks) : KeyGo c X X.A.in1.in1 pins σ W1 H1 h1 f ds ks := by
  subst hq
  intro j d kd hd hk Hs Ws s v u I x1 x2 rv rp Q Er hQ
  obtain ⟨there, _⟩ := I.pin _ (List.mem_append_right _ hpin)
  have isC2 : Hs c' = some (LamX.CodeO c' (X.env.qual ++ "<lambda>")) := x1.k c' _ isC (fun z => by
    obtain ⟨vs, e⟩ := k1.atC c' z
    rw [isC] at e
    unfold LamX.CodeO at e
    cases e) fun ps z => LamX.codeO_ne ps z
  obtain ⟨⟨oc, vs, tt, hoc, hdc, hvc⟩, _⟩ := I.hok c' _ isC2
  have rp0 : Rep c.fa ⟨Ws.F, []⟩ v d := rep_plain 59 d v (plain_mem hp d (List.mem_of_getElem? hd)) rp
  have ev := keysF_get hks j d kd hd hk
  have hil : i < N.length := (List.getElem?_eq_some_iff.mp hN).1
  have hkk := hok_pure x2
  have C := capAt_of I L
  refine wpAny_call (codeAny_mono (R := CR (L2.CX X.prog X.w) X.stack X.prog X.w Hs s (fun kv H' => ∃ W', Ext Ws Hs W' H' ∧ Hok c.fa W' H' h1 ∧ Rep c.fa W' kv kd) fun _ _ _ => False) ?_ fun r s' fin => ?_)
  · refine PySem.W.kla_callFunE (A := X.A.in1.in1) hr.depth there rfl L.co L.gen rfl ⟨c', oc, vs, tt, rfl, hoc, hdc, hvc⟩ ?_
    rw [bnd]
    refine wpAny_pure (wpAny_newFunctionEnv L.nocell (fun y hy => ?_) (fun h₁ hns same => ⟨I.nolimit.fresh _ same, ?_⟩) L.kind)
    · rw [List.mem_singleton.mp hy]
      exact L.par
    have kept : ∀ b o, s.heap.get? b = some o → h₁.get? b = some o := fun b o e =>
      same.extBut b o (Nat.ne_of_lt (Heap.lt_size e)) (Heap.get?_push_of_some _ e)
    have srk := keep_sr (i := i) (cap := cap) (sr.ext x1) rp0
    have start0 := lamp_start (A := X.A.in1.in1) (outer := X.stack) (E := fun _ _ _ => False) (f := f) (c' := c') (tk := s.toks + 1) (σ' := (keepS 0 cap σ).set i (some v)) I.ok L I.env0.in1.in1 hr.hd C rv hns kept ?_ ?_ ?_
    · have GL : GX c (fun _ _ _ => False) N k scope (LamX.lamCx X X.A.in1.in1 X.stack s Hs (fun _ _ _ => False) scope f c') := G.lamp hcx hl G.gd ⟨hr.hd, ?_, ?_⟩
      · show codeAny _ _ (.expr body (LamX.lamEnv X scope s.heap.objs.size f c')) _ _
        have gd : Gd c (fun _ _ _ => False) ⟨Ws.F, []⟩ Hs (evE cf m ((keepE 0 cap ρ).set i (.fz d)) []) fun d' h' => ∀ v' H' W', Ext ⟨Ws.F, []⟩ Hs W' H' → Hok c.fa W' H' h' → Rep c.fa W' v' d' → ∃ W', Ext Ws Hs W' H' ∧ Hok c.fa W' H' h1 ∧ Rep c.fa W' v' kd := by
          rw [ev]
          intro v' H' W' e' k' r'
          obtain ⟨b1, b2, b3⟩ := pure_back x2 e' k'
          exact ⟨_, b1, b2, b3 r'⟩
        have run := (hm _ _ GL).run [] _ _ Hs (fun kv H' => ∃ W', Ext Ws Hs W' H' ∧ Hok c.fa W' H' h1 ∧ Rep c.fa W' kv kd) start0 ⟨⟨Ws.F, []⟩, _, [], hkk, srk, gd⟩
        refine PySem.W.kla_codeExpr (wpAny_mono run (fun v s' fin => ?_) fun e s' fin => fin)
        obtain ⟨w', H', J, rv', qq⟩ := fin
        exact ⟨w', H', J.os, J.bare, J.base, J.hok, rv', qq⟩
      · have := hr.dp
        show X.A.depth + 1 + 3 * (k + 1) + 5 < _
        omega
      · have := hr.un
        show X.A.units + 1 + 1 + 3 + 16 * (k + 1) + 200 < _
        omega
    · rw [List.length_set, keepS_len]
      exact I.len
    · intro j' v' e1 e2
      have e1 : N[j']? = some p := by rw [← G.nm]; exact e1
      have hj : j' = i := nodup_ix G.nd e1 hN
      subst hj
      rw [List.getElem?_set_self (by rw [keepS_len, I.len, G.nm]; exact hil)] at e2
      cases e2
      rfl
    · intro j' y v' e1 hne e2
      have e1 : N[j']? = some y := by rw [← G.nm]; exact e1
      have hj : i ≠ j' := fun z => by
        subst z
        rw [hN] at e1
        exact hne (Option.some.inj e1).symm
      rw [List.getElem?_set_ne hj] at e2
      exact (keepS_at cap 0 σ j' v' e2).2
  · match r, fin with
    | .error e, fin =>
      refine (G.cx X.stack Hs s e s' ?_).elim
      rw [hcx, ← G.prog, ← G.w]
      exact fin
    | .ok (.ret ku), fin =>
      obtain ⟨kv, H', os, bare, un, hok, r, W', q1, q2, q3⟩ := fin
      exact hQ ku s' H' W' kv (I.call' (ch := []) os un hok bare fun b z => absurd z (by simp)) q1 q2 r q3 un
    | .ok .next, fin => exact (show False from fin).elim
    | .ok .brk, fin => exact (show False from fin).elim
    | .ok .cont, fin => exact (show False from fin).elim
end
end Mn

namespace Mn
open PySem L2 PySem.Spec PyProof.Rows
theorem onePar_eq {a : Arguments} (h : onePar a = true) : ∃ y : Arg, a = parms [y] ∧ parOf a = y.arg := by
  obtain ⟨a1, a2, a3, a4, a5, a6, a7⟩ := a
  simp only [onePar, Bool.and_eq_true, List.isEmpty_iff, Option.isNone_iff_eq_none, decide_eq_true_eq] at h
  obtain ⟨h1, h2, h3, h4, h5, h6, h7⟩ := h
  subst h2 h3 h4 h5 h6 h7
  match a2, h1 with
  | [y], _ => exact ⟨y, rfl, rfl⟩
theorem bind_one (y : Arg) (body : Expr) (scope : Scope) (q : Str) (cl : List (Str × Addr)) (pm cv ctv u : Value) : bindArgs (PySem.W.kla_fn "<lambda>" q (parms [y]) body scope cl pm cv ctv) ⟨[u], []⟩ = pure [(y.arg, u)] := by
  have z := bind_plain (x := "<lambda>") (qual := q) (as := [y]) (body := []) (scope := scope) (kV := .none) (doc := .none) (pm := pm) (an := none) (cdv := cv) (ct := ctv) (us := [u]) (ws := []) (ks := []) (by simp) .nil rfl (fun y hy => by cases hy) (fun y hy => by
    simp at hy) rfl
  exact z
section
variable {c : Cn} {Γ : Gam} {cf : Nat → List D → Hq → R D} {k : Nat} {E : XK} {N : List Str} {sc scope : Scope} {X : Cx}
theorem pinned1 {pins : List (Addr × Obj)} {σ : L2.St} {H H1 : Hp} {s s1 : Shared} {f : Addr} {o : Obj} (I : Inv X pins σ H s) (I1 : Inv X pins σ H1 s1) (at_ : s1.heap.get? f = some o) (hn : H1 f = none) (hf : s.heap.objs.size ≤ f) (nc : ∀ v, o.data ≠ .cell v) : Inv X ((f, o) :: pins) σ H1 s1 :=
  I1.pins_of fun q hq => by
    rcases List.mem_cons.mp hq with rfl | hq
    · exact ⟨at_, hn, Nat.ne_of_gt (Nat.lt_of_lt_of_le I.lt hf), I.nofs hf, nc⟩
    · exact I1.pin q (List.mem_append_right _ hq)
theorem unpin1 {pins : List (Addr × Obj)} {σ : L2.St} {H : Hp} {s : Shared} {z : Addr × Obj} (I : Inv X (z :: pins) σ H s) : Inv X pins σ H s :=
  I.pins_of fun q hq => I.pin q (List.mem_append_right _ (List.mem_cons_of_mem _ hq))
theorem s_mink (O : Gok c Γ cf k) (G : GX c E N k sc X) {x kn : Str} {a m : Mn.E} {i : Nat} {cap : List Nat} {ex : Expr} {params : Arguments} {body : Expr} {lpos kpos p1 pos : Pos} (hx : isGl sc x = true) (hxn : x = "min") (hkn : kn = "key") (hfr : Γ.fr.contains x = true)
    (nb : isB a = false) (hs : notStar ex = true) (ha : SE c cf E X a ex) (hsc : ownSc N sc = true) (hNl : N.contains ("<lambda>" : Str) = true) (hlam : lamPB sc scope (parOf params) = true) (hpar : onePar params = true) (hlo : ownSc N scope = false) (hN : N[i]? = some (parOf params))
    (hm : ∀ X' E', GX c E' N k scope X' → PE X' body (tF c cf E' m)) : SE c cf E X (.mink i cap m a) (.Call (.Name x p1) [ex] [⟨some kn, .Lambda params body scope lpos, kpos⟩] pos) := by
  obtain ⟨g1, g2⟩ := gl_of G hx
  have hmg : X.mg x = none := by rw [G.mg]; exact O.fr x hfr
  subst hxn hkn
  have hcx := O.cx
  obtain ⟨y, rfl, hy⟩ := onePar_eq hpar
  rw [hy] at hlam hN
  have L : LamP X.env.scope scope y.arg := by rw [G.sc]; exact lamP_by hlam
  have r2 := G.r2 (by rw [G.sc]; exact hsc) (List.contains_iff_mem.mp hNl)
  obtain ⟨cc, P, code, TB, hmT, one⟩ := G.lm (by rw [G.sc]; exact hsc) (List.contains_iff_mem.mp hNl)
  refine .ofF ⟨fun pins s σ Hh Q I q => ?_⟩
  obtain ⟨W, ρ, h, kk, r, gd⟩ := q
  simp only [evE] at gd
  refine wpAny_Call_Name_kw (ld_blt I g1 hmg (show bootBuiltins ("min" : Str) = some (.builtin "min") by decide +kernel) ?_ (by decide) g2)
  have hA : PA X [ex] (tCons (tF c cf E a) tNil) := pa_cons (ha.f nb) pa_nil (star_cons hs)
  refine PyProof.Rows.callWith_kw (thn (hA.run pos pins s σ Hh (fun vs H1 => ∃ v W1 h1 d1, vs = [v] ∧ Ext W Hh W1 H1 ∧ Hok c.fa W1 H1 h1 ∧ Rep c.fa W1 v d1 ∧ Gd c E W Hh ((liftO (lstOf d1) h1).bind fun xs h => liftO ((if D.plainL 60 xs then keysF (evE cf m) i (keepE 0 cap ρ) xs else none).bind fun ks => if srtOk ks then minK (ks.zip xs) else none) h) fun d h' => ∀ v H' W', Ext W Hh W' H' → Hok c.fa W' H' h' → Rep c.fa W' v d → Q v H') I
      ⟨W, ρ, h, kk, r, (Gd.bind gd).mono fun d1 h1 g1 v H1 W1 e1 k1 r1 => ⟨v, W1, h1, d1, rfl, e1, k1, r1, g1⟩⟩) fun us s1 q1 => ?_) (by show backTo pos (starEach [ex] X.env) = _; rw [star_cons hs]; rfl) (star_any (by rw [List.all_cons, hs]; rfl)) (by rfl) (by rfl)
  obtain ⟨vs, H1, I1, rv, v, W1, h1, d1, rfl, e1, k1, r1, gd1⟩ := q1
  obtain ⟨u, rfl, ru⟩ : ∃ u, us = [u] ∧ RelV v u := by
    cases rv with
    | cons h1 h2 => cases h2; exact ⟨_, rfl, h1⟩
  obtain ⟨xs, hxs, gd2⟩ := (Gd.bind gd1).lift
  obtain ⟨d, hd, qd⟩ := gd2.lift
  obtain rfl : d1 = .lst xs := by
    unfold lstOf at hxs
    split at hxs
    · cases hxs; rfl
    · cases hxs
  rw [Option.bind_eq_some_iff] at hd
  obtain ⟨ks, hks, hd⟩ := hd
  split at hks
  case isFalse => cases hks
  rename_i hpl
  split at hd
  case isFalse => cases hd
  rename_i hok
  cases r1 with
  | lst hl rl =>
  rename_i l vsV
  obtain rfl : u = Value.ref l := ru
  show wpAny _ _ (evalAll ((do let v ← eval (.Lambda (parms [y]) body scope lpos) X.env; standAt pos; pure v) :: [])) _ _ s1
  refine wpAny_evalAll_cons (wpAny_bind (lam_new (T := c.fa.T) I1 TB code hmT one k1.tab (by rfl) (L.has I.ok) fun f c' pm ctv H2 s2 I2 grown T2 atF noH noF isC hsz => wpAny_bind (wpAny_standAt (wpAny_pure (wpAny_evalAll_nil ?_)))))
  obtain ⟨e2, k2⟩ := grown.ext k1 T2
  have I3 := pinned1 I1 I2 atF noH hsz (fun v z => by cases z)
  show wpAny _ _ (call (.builtin "min") [.ref l] [(Str.ofString "key", .ref f)]) _ _ s2
  have go_ : KeyGo c X X.A.in1 ((f, PySem.W.kla_obj "<lambda>" (X.env.qual ++ "<lambda>") (parms [y]) body scope (cloFrom X.env.cells scope.names []) pm c' ctv) :: pins) σ W1 H2 h1 f xs ks := (lam_go G hcx hlo L r2 hN hm k2 isC rfl (List.mem_cons_self ..) (fun q cl pm cv ctv u => bind_one y body scope q cl pm cv ctv u) ((r.ext e1).ext e2) hpl hks).less
  refine wpAny_mono (call_min_key G.calm (by have := G.room.un; omega) hl rl (keysF_len hks) hok go_ hd I3 k2 (Q := Q) fun v Hs Ws e3 k3 r3 => qd v Hs Ws ((e1.trans e2).trans e3) k3 r3) (fun v s' fin => ?_) fun e s' fin => fin
  obtain ⟨w', H', J, rr, qq⟩ := fin
  exact ⟨w', H', unpin1 J, rr, qq⟩
end
end Mn

namespace Mn
open PySem L2 PySem.Spec PyProof.Rows
/-! ### pairs by their keys, in order -/
theorem insK_perm (x : D × D) : ∀ l : List (D × D), (insK x l).Perm (x :: l)
  | [] => .refl _
  | y :: l => by
    unfold insK
    split
    · exact ((insK_perm x l).cons y).trans (.swap x y l)
    · exact .refl _
theorem sortK_perm : ∀ l : List (D × D), (sortK l).Perm l
  | [] => .refl _
  | x :: l => (insK_perm x _).trans ((sortK_perm l).cons x)
abbrev leK : D × D → D × D → Bool := PySem.W.dataLe false fun p => p.1.py
theorem leK_eq (a b : D × D) : leK a b = leD a.1 b.1 := rfl
theorem insK_sorted (x : D × D) : ∀ l : List (D × D), (∀ y ∈ l, D.alk y.1 x.1 = true) → l.Pairwise (fun a b => leK a b = true) → (insK x l).Pairwise (fun a b => leK a b = true)
  | [], _, _ => by unfold insK; simp
  | y :: l, hk, h => by
    unfold insK
    rw [List.pairwise_cons] at h
    have ky := hk y List.mem_cons_self
    split
    · rename_i hx
      have e1 : leK y x = true := by
        have t := leD_total y.1 x.1
        rw [leD_alk ky, hx] at t
        rw [leK_eq]
        simpa using t
      rw [List.pairwise_cons]
      refine ⟨fun z hz => ?_, insK_sorted x l (fun z hz => hk z (List.mem_cons_of_mem _ hz)) h.2⟩
      rcases List.mem_cons.mp ((insK_perm x l).mem_iff.mp hz) with rfl | hz
      · exact e1
      · exact h.1 z hz
    · rename_i hx
      have e1 : leK x y = true := by rw [leK_eq, leD_alk ky]; simpa using hx
      rw [List.pairwise_cons, List.pairwise_cons]
      refine ⟨fun z hz => ?_, h⟩
      rcases List.mem_cons.mp hz with rfl | hz
      · exact e1
      · exact leD_trans x.1 y.1 z.1 e1 (h.1 z hz)
theorem sortK_sorted : ∀ l : List (D × D), (∀ x ∈ l, ∀ y ∈ l, D.alk x.1 y.1 = true) → (sortK l).Pairwise (fun a b => leK a b = true)
  | [], _ => .nil
  | x :: l, h => insK_sorted x _ (fun y hy => h y (List.mem_cons_of_mem _ ((sortK_perm l).mem_iff.mp hy)) x List.mem_cons_self) (sortK_sorted l fun a ha b hb => h a (List.mem_cons_of_mem _ ha) b (List.mem_cons_of_mem _ hb))
theorem merge_sortK (l : List (D × D)) (h : ∀ x ∈ l, ∀ y ∈ l, D.alk x.1 y.1 = true) (u : ∀ x ∈ l, ∀ y ∈ l, x.1 = y.1 → x = y) : l.mergeSort (PySem.W.dataLe false fun p => p.1.py) = sortK l := by
  have p : (l.mergeSort leK).Perm (sortK l) := (List.mergeSort_perm l leK).trans (sortK_perm l).symm
  refine p.eq_of_pairwise (fun a b ha hb h1 h2 => ?_) (List.pairwise_mergeSort (fun a b c => leD_trans a.1 b.1 c.1) (fun a b => leD_total a.1 b.1) l) (sortK_sorted l h)
  have ha' := (List.mergeSort_perm l leK).mem_iff.mp ha
  have hb' := (sortK_perm l).mem_iff.mp hb
  exact u a ha' b hb' (leD_anti (h a ha' b hb') h1 h2)
theorem nodup_of : ∀ {ks : List D}, nodupD ks = true → (∀ x ∈ ks, D.eqv x x = true) → ks.Nodup
  | [], _, _ => .nil
  | x :: l, h, hr => by
    have h : ((l.all fun y => !D.eqv x y) && nodupD l) = true := h
    rw [Bool.and_eq_true] at h
    rw [List.nodup_cons]
    refine ⟨fun z => ?_, nodup_of h.2 fun y hy => hr y (List.mem_cons_of_mem _ hy)⟩
    have q := List.all_eq_true.mp h.1 x z
    rw [hr x List.mem_cons_self] at q
    exact Bool.noConfusion q
theorem zip_uniq {ks ds : List D} (nd : ks.Nodup) : ∀ x ∈ ks.zip ds, ∀ y ∈ ks.zip ds, x.1 = y.1 → x = y := by
  intro x hx y hy e
  obtain ⟨i, hi, rfl⟩ := List.mem_iff_getElem.mp hx
  obtain ⟨j, hj, rfl⟩ := List.mem_iff_getElem.mp hy
  rw [List.getElem_zip, List.getElem_zip] at e
  have hij : i = j := (List.getElem_inj nd).mp e
  subst hij
  rfl
section
variable {X : Cx} {pins : List (Addr × Obj)} {σ : L2.St} {H : Hp} {s : Shared} {h' : Heap}
/-- an object of the walk's own is tracked from now on -/
theorem own_track {p : Addr} {o : HO} (I : Inv X pins σ H s) (F : FpOk X pins H p) (new : ObjOk X.prog X.w (upd H p o) s.heap p o) : Inv X pins σ (upd H p o) s := by
  obtain ⟨f0, f1, f2, f3⟩ := F
  have ne : ∀ {b : Addr} {u : HO}, H b = some u → b ≠ p := fun e z => by rw [z, f0] at e; cases e
  refine I.step (h' := s.heap) (t' := s.toks) (g' := s.gens) (d' := s.drawn) (ch := [p]) (fun b hb => ?_) (fun b o _ _ _ e _ => e) (fun b o _ _ _ e _ => ⟨o.slots, e⟩) (fun b o hc _ n => ?_) (fun b o _ e => ⟨o, e⟩) (fun b xs e => ?_) (fun b o u e => ?_) (fun b ps e => ⟨#[], ?_⟩) (fun _ hm => hm) (HOk.laidN I.hok (fun _ _ e => e) f0 new) I.bare
  · rw [List.mem_singleton.mp hb]; exact ⟨f3.1, f1, f3.2.1, f3.2.2⟩
  · rw [upd_ne (fun z => hc (by simp [z]))]; exact n
  · rw [upd_ne (ne e)]; exact e
  · rw [upd_ne (ne e)]; exact e
  · rw [upd_ne (ne e), e]; simp
/-- .. some of them are written, the frame's map stays -/
theorem own_turn {ch : List Addr} {t' : Nat} (I : Inv X pins σ H s) (hf : ∀ b ∈ ch, FpOk X pins H b) (k : ∀ b o, b ∉ ch → b ≠ X.env.locals → s.heap.get? b = some o → h'.get? b = some o) (ns : ∀ m, s.heap.Ns X.env.locals m → h'.Ns X.env.locals m) : Inv X pins σ H { s with heap := h', toks := t' } := by
  have nit : ∀ b u, H b = some u → b ∉ ch := fun b u e z => by
    have q := (hf b z).1
    rw [q] at e; cases e
  have nl : ∀ b u, H b = some u → b ≠ X.env.locals := fun b u e z => by
    rw [z, I.free] at e; cases e
  refine I.step (g' := s.gens) (d' := s.drawn) (ch := ch) (fun b hb => ⟨(hf b hb).2.2.2.1, (hf b hb).2.1, (hf b hb).2.2.2.2.1, (hf b hb).2.2.2.2.2⟩) (fun b o n1 _ hc e _ => k b o hc n1 e) (fun b o n1 _ hc e _ => ⟨o.slots, k b o hc n1 e⟩)
    (fun _ _ _ _ n => n) (fun b o hc e => ?_) (fun _ _ e => e) (fun _ _ _ e => e) (fun b ps e => ⟨#[], by rw [e]; simp⟩) ns (fun b u e => ?_) I.bare
  · by_cases z : b = X.env.locals
    · obtain ⟨m, hn, _⟩ := I.loc
      obtain ⟨o', _, _, ho', _⟩ := ns m hn
      exact ⟨o', by rw [z]; exact ho'⟩
    · exact ⟨o, k b o hc z e⟩
  · refine (I.hok b u e).stay (fun c v hc q => ?_) (fun _ q => q) fun _ _ q => q
    have hc2 : c ∉ ch ∧ c ≠ X.env.locals := by
      rcases hc with z | z
      · rw [z]; exact ⟨nit b u e, nl b u e⟩
      · exact ⟨nit c _ z, nl c _ z⟩
    exact k c v hc2.1 hc2.2 q
/-- the end of a sort by keys, in a def's body -/
theorem sort_end {A : Around} {κ : PyProof.Rows.KeyKind} {a kS : Addr} {keys : Array Value} {vs : List Value} {e e1 : Nat} {P : PySem.Fin → Shared → Prop} {E : Value → Shared → Prop} (I : Inv X pins σ H s) (fk : FpOk X pins H kS) (fa : FpOk X pins H a)
    (nk : s.heap.get? kS = some (seqObj "list" keys e)) (na : s.heap.get? a = some (seqObj "list" #[] e1)) (hka : kS ≠ a) (S : PySem.W.SortsAt X.prog X.w A s κ keys.toList) (hsz : keys.size = vs.length) (hZ : vs.length ≤ sizeLine)
    (h : ∀ h' tk c, Inv X pins σ H { s with heap := h', toks := tk } → h'.get? a = some (seqObj "list" (PySem.W.sortVals κ false keys.toList vs).toArray c) → P (.done (.ret .none)) { s with heap := h', toks := tk }) :
    wpAny (model X.prog X.w) A (PyProof.Rows.ksk_end a false vs.toArray e1 (.ref kS) keys) P E s := by
  obtain ⟨m, hn, hlook⟩ := I.loc
  have memN : ∀ b o, b ≠ X.env.locals → b ≠ kS → b ≠ a → s.heap.get? b = some o → (b, o) ∈ ((List.range s.heap.objs.size).filterMap fun b => if b = X.env.locals ∨ b = kS ∨ b = a then none else (s.heap.get? b).map fun o => (b, o)) := fun b o h1 h2 h3 h4 => by
    rw [List.mem_filterMap]
    refine ⟨b, List.mem_range.mpr (Heap.lt_size h4), ?_⟩
    rw [if_neg (by rintro (z | z | z) <;> contradiction), h4]
    rfl
  have ofN : ∀ q ∈ ((List.range s.heap.objs.size).filterMap fun b => if b = X.env.locals ∨ b = kS ∨ b = a then none else (s.heap.get? b).map fun o => (b, o)), s.heap.get? q.1 = some q.2 ∧ q.1 ≠ X.env.locals ∧ q.1 ≠ kS ∧ q.1 ≠ a := fun q hq => by
    rw [List.mem_filterMap] at hq
    obtain ⟨b, _, hb⟩ := hq
    split at hb
    · cases hb
    · rename_i hne
      rw [Option.map_eq_some_iff] at hb
      obtain ⟨o, ho, rfl⟩ := hb
      exact ⟨ho, fun z => hne (.inl z), fun z => hne (.inr (.inl z)), fun z => hne (.inr (.inr z))⟩
  have none0 : ∀ b : Addr, ({} : Heap).get? b = none := fun b => Heap.get?_none_of_le (Nat.zero_le _)
  generalize ((List.range s.heap.objs.size).filterMap fun b => if b = X.env.locals ∨ b = kS ∨ b = a then none else (s.heap.get? b).map fun o => (b, o)) = news at memN ofN
  refine PySem.W.key_end (h₀ := {}) (L := X.env.locals) (m := m) (news := news) (e := e) ⟨hn, (fun b o q => by rw [none0] at q; cases q), Nat.zero_le _⟩ (fun q hq => ?_) hka (fun q hq => (ofN q hq).2.2.1) (fun q hq => (ofN q hq).2.2.2) S hsz hZ fun h' tk c F N => ?_
  · rcases List.mem_append.mp hq with hq | hq
    · exact ⟨(ofN q hq).1, (ofN q hq).2.1, none0 _⟩
    · rcases List.mem_cons.mp hq with rfl | hq
      · exact ⟨nk, fk.2.1, none0 _⟩
      · rw [List.mem_singleton.mp hq]
        exact ⟨na, fa.2.1, none0 _⟩
  · refine h h' tk c (own_turn (ch := [kS, a]) I (fun b hb => ?_) (fun b o hb hL q => ?_) fun m' hm' => ?_) (N _ List.mem_cons_self).1
    · rcases List.mem_cons.mp hb with rfl | hb
      · exact fk
      · rw [List.mem_singleton.mp hb]; exact fa
    · exact (N (b, o) (List.mem_cons_of_mem _ (memN b o hL (fun z => hb (by simp [z])) (fun z => hb (by simp [z])) q))).1
    · have : m' = m := funext fun y => hm'.agree hn y
      rw [this]
      exact F.ns
end
section
variable {c : Cn} {X : Cx} {pins : List (Addr × Obj)} {σ : L2.St} {W1 : Wd} {H1 : Hp} {h1 : Hq} {l f a kS : Addr} {vsV : List V} {ds ks : List D} {its : List Value}
theorem each_zip {fa : FaT} {W : Wd} : ∀ {vs : List V} {us : List Value} {ks ds : List D}, Vals vs us → RepL fa W vs ds → ks.length = ds.length → PySem.W.EachIs (fun u (p : D × D) => ∃ v, RelV v u ∧ Rep fa W v p.2) us (ks.zip ds)
  | _, _, [], [], .nil, .nil, _ => .nil
  | _, _, [], _ :: _, _, _, h => by cases h
  | _, _, _ :: _, [], _, _, h => by cases h
  | _, _, k :: ks, d :: ds, .cons r t, .cons q s, h => .cons ⟨_, r, q⟩ (each_zip t s (Nat.succ.inj h))
theorem each_map2 {fa : FaT} {W : Wd} : ∀ {us : List Value} {ps : List (D × D)}, PySem.W.EachIs (fun u (p : D × D) => ∃ v, RelV v u ∧ Rep fa W v p.2) us ps → PySem.W.EachIs (fun u d => ∃ v, RelV v u ∧ Rep fa W v d) us (ps.map (·.2))
  | _, _, .nil => .nil
  | _, _, .cons h t => .cons h (each_map2 t)
theorem each_mapPy {h : Heap} : ∀ {us : List Value} {ds : List D}, PySem.W.EachIs (fun u d => ∃ as, Reads h u (D.py d) as) us ds → PySem.W.EachIs (fun u d => ∃ as, Reads h u d as) us (ds.map D.py)
  | _, _, .nil => .nil
  | _, _, .cons h t => .cons h (each_mapPy t)
theorem sort_rest (hu : X.A.units + 70 < cLine) (hr : RepL c.fa W1 vsV ds) (hv : Vals vsV its) (hZ : its.length ≤ sizeLine) (hk : ks.length = ds.length) (ok : srtOk ks = true) (nd : nodupD ks = true) (go_ : KeyGo c X X.A.in1.in1 pins σ W1 H1 h1 f ds ks)
    {P : PySem.Fin → Shared → Prop} {E : Value → Shared → Prop} {s : Shared} {e1 : Nat} (I0 : Inv X pins σ H1 s) (x2 : Hok c.fa W1 H1 h1) (fk : FpOk X pins H1 kS) (fa : FpOk X pins H1 a) (hka : kS ≠ a) (nk : s.heap.get? kS = some (seqObj "list" #[] 0)) (na : s.heap.get? a = some (seqObj "list" #[] e1))
    (h : ∀ (s' : Shared) (H' : Hp) (W' : Wd) (ws : List V), Inv X pins σ (upd H' a (.lst ws)) s' → Ext W1 H1 W' H' → Hok c.fa W' H' h1 → H' a = none → RepL c.fa W' ws ((sortK (ks.zip ds)).map (·.2)) → P (.done (.ret .none)) s') :
    wpAny (model X.prog X.w) X.A.in1.in1 (PyProof.Rows.ksk_rest a (.ref f) false its.toArray e1 (.ref kS)) P E s := by
  have hlen : its.length = ds.length := by rw [← hv.length, hr.length]
  obtain ⟨q1, q2, q3⟩ := srt_alk ok
  unfold PyProof.Rows.ksk_rest
  refine wpAny_bind (wpAny_rule ?_)
  rw [List.forIn_toArray]
  refine wpAny_bind (PyProof.Rows.ksk_fold (fun j s' => ∃ (Hs : Hp) (Ws : Wd) (kA : Array Value) (e : Nat), Inv X pins σ Hs s' ∧ Ext W1 H1 Ws Hs ∧ Hok c.fa Ws Hs h1 ∧ FpOk X pins Hs kS ∧ FpOk X pins Hs a ∧ s'.heap.get? kS = some (seqObj "list" kA e) ∧ s'.heap.get? a = some (seqObj "list" #[] e1) ∧
    PySem.W.EachIs (fun u d => ∃ v, RelV v u ∧ Rep c.fa Ws v d) kA.toList (ks.take j)) its 0 s ⟨H1, W1, #[], 0, I0, .refl _ _, x2, fk, fa, nk, na, by rw [List.take_zero]; exact .nil⟩ ?step ?done)
  case step =>
    rintro j x s' hx ⟨Hs, Ws, kA, e, I, y1, y2, gk, ga, mk, ma, each⟩
    simp only [Nat.zero_add] at each ⊢
    have hj : j < its.length := (List.getElem?_eq_some_iff.mp hx).1
    have hjd : j < ds.length := by omega
    have hjk : j < ks.length := by omega
    obtain ⟨vj, evj, rpj⟩ := hr.get (List.getElem?_eq_getElem hjd)
    obtain ⟨uj, euj, ruj⟩ := hv.get evj
    rw [hx] at euj
    cases euj
    have hsz : kA.size ≤ its.length := by
      have z := each.length
      rw [Array.length_toList, List.length_take] at z
      omega
    refine wpAny_bind (wpAny_attempt (go_ j ds[j] ks[j] (List.getElem?_eq_getElem hjd) (List.getElem?_eq_getElem hjk) Hs Ws s' vj x I y1 y2 ruj (y1.rep rpj) _ _ fun ku s2 H2 W2 kv J z1 z2 rk pk un => ?_))
    obtain ⟨mk2, gk2⟩ := fp_keep I gk un mk
    obtain ⟨ma2, ga2⟩ := fp_keep I ga un ma
    have s1 := Heap.SameBut.update s2.heap kS (Obj.mapSeq (·.push ku))
    obtain ⟨c2, hc2⟩ : ∃ c2, (s2.heap.update kS (Obj.mapSeq (·.push ku))).get? kS = some (seqObj "list" (kA.push ku) c2) := ⟨_, PyProof.Rows.get?_update_seq mk2 (·.push ku)⟩
    refine wpAny_bind (PyProof.Rows.listUpdate_at mk2 rfl ?_ (Nat.le_trans hsz hZ) (by rw [Array.size_push]; omega))
    have J2 : Inv X pins σ H2 { s2 with heap := s2.heap.update kS (Obj.mapSeq (·.push ku)) } := own_write (tk := s2.toks) J gk2 fun b o hb q => (s1.2 b hb).trans q
    refine wpAny_pure ⟨rfl, H2, W2, kA.push ku, c2, J2, y1.trans z1, z2, gk2, ga2, hc2, (s1.2 a (Ne.symm hka)).trans ma2, ?_⟩
    have ek : ks.take (j + 1) = ks.take j ++ [ks[j]] := by rw [List.take_add_one, List.getElem?_eq_getElem hjk]; rfl
    rw [ek, Array.toList_push]
    exact PySem.W.each_snoc (R := fun (u : Value) (d : D) => ∃ v, RelV v u ∧ Rep c.fa W2 v d) ⟨kv, rk, pk⟩ (each.mono fun u d ⟨v, r1, r2⟩ => ⟨v, r1, z1.rep r2⟩)
  case done =>
    rintro s' ⟨Hs, Ws, kA, e, I, y1, y2, gk, ga, mk, ma, each⟩
    rw [Nat.zero_add, List.take_of_length_le (by omega)] at each
    have hsz : kA.size = its.length := by
      have z := each.length
      rw [Array.length_toList] at z
      omega
    refine wpAny_bind (PyProof.Rows.listItems_at mk rfl ?_)
    obtain ⟨kvs, kv1, kv2⟩ := of_each each
    have reads : PySem.W.EachIs (fun u d => ∃ as, Reads s'.heap u d as) kA.toList (ks.map D.py) := each_mapPy (each_reads I y2 q1 kv1 kv2)
    have hal : PySem.W.AllAlike (ks.map D.py) := fun d hd d' hd' => by
      obtain ⟨x, hx, rfl⟩ := List.mem_map.mp hd
      obtain ⟨y, hy, rfl⟩ := List.mem_map.mp hd'
      exact alk_py x y (q2 x hx y hy)
    have hso : PySem.W.Sortable (ks.map D.py) := .inl fun d hd => by
      obtain ⟨x, hx, rfl⟩ := List.mem_map.mp hd
      obtain ⟨z, l, rfl⟩ := q3 x hx
      exact ⟨z.py, D.pyL l, rfl⟩
    have S := PySem.W.SortsAt.data (prog := X.prog) (w := X.w) (A := X.A.in1.in1) (s := s') reads hal hso fun d hd => by
      obtain ⟨x, hx, rfl⟩ := List.mem_map.mp hd
      have z := plain_depth 59 x (plain_mem q1 x hx)
      show X.A.units + 1 + 1 + _ < _
      omega
    refine sort_end I gk ga mk ma hka S hsz hZ fun h' tk c' J na' => ?_
    have eq1 : ks.map D.py = (ks.zip ds).map fun p => p.1.py := by
      have z : (ks.zip ds).map (·.1) = ks := List.map_fst_zip (by omega)
      rw [show (fun p : D × D => p.1.py) = D.py ∘ (fun p : D × D => p.1) from rfl, ← List.map_map, z]
    have ko : PySem.W.KeyedOut false (ks.map D.py) its (PySem.W.sortVals (PySem.W.dataKind s'.heap (ks.map D.py)) false kA.toList its) := ⟨s'.heap, kA.toList, hal, rfl, reads⟩
    rw [eq1] at ko
    have hall : ∀ x ∈ ks, ∀ y ∈ ks, D.alk x y = true := q2
    have hin : ∀ x ∈ ks.zip ds, x.1 ∈ ks := fun x hx => (List.of_mem_zip hx).1
    have es := PySem.W.keyedOut_each (R := fun (u : Value) (p : D × D) => ∃ v, RelV v u ∧ Rep c.fa Ws v p.2) (fun p : D × D => p.1.py) ko (each_zip hv (y1.repL hr) hk)
    rw [merge_sortK _ (fun x hx y hy => q2 _ (hin x hx) _ (hin y hy)) (zip_uniq (nodup_of nd fun x hx => alk_refl x (q2 x hx x hx)))] at es
    obtain ⟨ws, w1, w2⟩ := of_each (each_map2 es)
    have hl2 : ws.length ≤ sizeLine := by
      rw [w1.length, PySem.W.sortVals_length false (by rw [Array.length_toList]; exact hsz)]; exact hZ
    rw [eq1] at na'
    exact h _ Hs Ws ws (own_track J ga ⟨hl2, _, c', w1, na'⟩) y1 y2 ga.1 w2
/-- sorted(xs, key=f) -/
theorem call_sorted_key {d : D} (hu : X.A.units + 70 < cLine) (hl : H1 l = some (.lst vsV)) (hr : RepL c.fa W1 vsV ds) (hk : ks.length = ds.length) (ok : srtOk ks = true) (nd : nodupD ks = true) (go_ : KeyGo c X X.A.in1.in1 pins σ W1 H1 h1 f ds ks) {Q : VK} {E : Value → Shared → Prop} {s : Shared}
    (I0 : Inv X pins σ H1 s) (x2 : Hok c.fa W1 H1 h1) (q : ∀ p ws H' W', Ext W1 H1 W' H' → Hok c.fa W' H' h1 → H' p = none → H1 p = none → RepL c.fa W' ws ((sortK (ks.zip ds)).map (·.2)) → Q (.ref p) (upd H' p (.lst ws))) :
    wpAny (model X.prog X.w) X.A (call (.builtin "sorted") [.ref l] [(Str.ofString "key", .ref f)]) (EP X pins σ Q) E s := by
  obtain ⟨its, rv, hil, hz⟩ := I0.list (.inl (.of hl))
  have hZ : its.length ≤ sizeLine := by rw [← rv.length]; exact hz
  refine PySem.W.sorted_of_sort hil.isList hZ (PyProof.Rows.ksk_s1 _ _) (fun _ => PyProof.Rows.ksk_l1 _ _) fun E' => ?_
  rw [PyProof.Rows.ksk_t1]
  unfold PyProof.Rows.ksk_tree
  have at1 := PySem.W.copyHeap_at s.heap its
  have I1 : Inv X pins σ H1 { s with heap := PySem.W.copyHeap s.heap its } := I0.kept (t' := s.toks) fun b o e => PySem.W.copyHeap_old e
  have hn1 : H1 (s.heap.objs.size + 1) = none := I0.hok.fresh (Nat.le_succ _)
  have fa : FpOk X pins H1 (s.heap.objs.size + 1) := I0.fpOk (Nat.le_succ _) hn1
  refine wpAny_bind (PyProof.Rows.listItems_at at1 rfl ?_)
  refine wpAny_bind (PyProof.Rows.listUpdate_at at1 rfl ?_ (by rw [List.size_toArray]; exact hZ) (Nat.zero_le _))
  obtain ⟨e1, at2⟩ : ∃ e1, ((PySem.W.copyHeap s.heap its).update (s.heap.objs.size + 1) (Obj.mapSeq fun _ => (#[] : Array Value))).get? (s.heap.objs.size + 1) = some (seqObj "list" #[] e1) := ⟨_, PyProof.Rows.get?_update_seq at1 fun _ => #[]⟩
  have I2 : Inv X pins σ H1 { s with heap := (PySem.W.copyHeap s.heap its).update (s.heap.objs.size + 1) (Obj.mapSeq fun _ => (#[] : Array Value)) } := own_write (s := { s with heap := PySem.W.copyHeap s.heap its }) (tk := s.toks) I1 fa fun b o hb e => (Heap.get?_update_other _ _ (Ne.symm hb)).trans e
  refine wpAny_bind (PyProof.Rows.seqEpoch_at at2 rfl ?_)
  refine wpAny_bind (wpAny_newTuple ?_ (by simpa using hZ))
  refine wpAny_bind (wpAny_newList ?_ (Nat.zero_le _))
  refine wpAny_holding ?_
  have I3 := I2.kept (t' := s.toks) (h' := ((PySem.W.copyHeap s.heap its).update (s.heap.objs.size + 1) (Obj.mapSeq fun _ => (#[] : Array Value))).push { cls := .type "tuple", data := .seq its.toArray.toList.toArray }) fun b o e => Heap.get?_push_of_some _ e
  have fk : FpOk X pins H1 _ := I3.fpOk (Nat.le_refl _) (I3.hok.fresh (Nat.le_refl _))
  have I4 := I3.kept (t' := s.toks) (h' := (((PySem.W.copyHeap s.heap its).update (s.heap.objs.size + 1) (Obj.mapSeq fun _ => (#[] : Array Value))).push { cls := .type "tuple", data := .seq its.toArray.toList.toArray }).push { cls := .type "list", data := .seq #[] }) fun b o e => Heap.get?_push_of_some _ e
  have at3 := Heap.get?_push_of_some { cls := .type "tuple", data := .seq its.toArray.toList.toArray } at2
  have at4 := Heap.get?_push_of_some { cls := .type "list", data := .seq #[] } at3
  have hka := Nat.ne_of_gt (Heap.lt_size at3)
  refine sort_rest hu hr rv hZ hk ok nd go_ I4 x2 fk fa hka (Heap.get?_push_size _ rfl) at4 fun s' H' W' ws J y1 y2 hn r => ⟨rfl, .ref _, _, J, rfl, q _ ws H' W' y1 y2 hn hn1 r⟩
end
section
variable {c : Cn} {Γ : Gam} {cf : Nat → List D → Hq → R D} {k : Nat} {E : XK} {N : List Str} {sc scope : Scope} {X : Cx}
theorem s_sortk (O : Gok c Γ cf k) (G : GX c E N k sc X) {x kn : Str} {a m : Mn.E} {i : Nat} {cap : List Nat} {ex : Expr} {params : Arguments} {body : Expr} {lpos kpos p1 pos : Pos} (hx : isGl sc x = true) (hxn : x = "sorted") (hkn : kn = "key") (hfr : Γ.fr.contains x = true)
    (hs : notStar ex = true) (ha : SE c cf E X a ex) (hsc : ownSc N sc = true) (hNl : N.contains ("<lambda>" : Str) = true) (hlam : lamPB sc scope (parOf params) = true) (hpar : onePar params = true) (hlo : ownSc N scope = false) (hN : N[i]? = some (parOf params))
    (hm : ∀ X' E', GX c E' N k scope X' → PE X' body (tF c cf E' m)) : SE c cf E X (.sortk i cap m a) (.Call (.Name x p1) [ex] [⟨some kn, .Lambda params body scope lpos, kpos⟩] pos) := by
  obtain ⟨g1, g2⟩ := gl_of G hx
  have hmg : X.mg x = none := by rw [G.mg]; exact O.fr x hfr
  subst hxn hkn
  have hcx := O.cx
  obtain ⟨y, rfl, hy⟩ := onePar_eq hpar
  rw [hy] at hlam hN
  have L : LamP X.env.scope scope y.arg := by rw [G.sc]; exact lamP_by hlam
  have r2 := G.r2 (by rw [G.sc]; exact hsc) (List.contains_iff_mem.mp hNl)
  obtain ⟨cc, P, code, TB, hmT, one⟩ := G.lm (by rw [G.sc]; exact hsc) (List.contains_iff_mem.mp hNl)
  refine .ofN ⟨fun pins s σ Hh Q I q => ?_⟩
  obtain ⟨W, ρ, h, kk, r, gd⟩ := q
  simp only [evE] at gd
  refine wpAny_Call_Name_kw (ld_blt I g1 hmg (show bootBuiltins ("sorted" : Str) = some (.builtin "sorted") by decide +kernel) ?_ (by decide) g2)
  have hA : PA X [ex] (tCons (tB c cf E a) tNil) := pa_cons ha.b pa_nil (star_cons hs)
  refine PyProof.Rows.callWith_kw (thn (hA.run pos pins s σ Hh (fun vs H1 => ∃ v W1 h1 d1, vs = [v] ∧ Ext W Hh W1 H1 ∧ Hok c.fa W1 H1 h1 ∧ Rdb c.fa W1 H1 v d1 ∧ Gd c E W Hh ((liftO (lstOf d1) h1).bind fun xs h => liftO ((if xs.length ≤ 1000000 && D.plainL 60 xs then keysF (evE cf m) i (keepE 0 cap ρ) xs else none).bind fun ks => if srtOk ks && nodupD ks then some (.lst ((sortK (ks.zip xs)).map (·.2))) else none) h) fun d h' => ∀ v H' W', Ext W Hh W' H' → Hok c.fa W' H' h' → ResN c.fa W Hh W' H' v d → Q v H') I
      ⟨W, ρ, h, kk, r, (Gd.bind gd).mono fun d1 h1 g1 v H1 W1 e1 k1 r1 => ⟨v, W1, h1, d1, rfl, e1, k1, r1, g1⟩⟩) fun us s1 q1 => ?_) (by show backTo pos (starEach [ex] X.env) = _; rw [star_cons hs]; rfl) (star_any (by rw [List.all_cons, hs]; rfl)) (by rfl) (by rfl)
  obtain ⟨vs, H1, I1, rv, v, W1, h1, d1, rfl, e1, k1, r1, gd1⟩ := q1
  obtain ⟨u, rfl, ru⟩ : ∃ u, us = [u] ∧ RelV v u := by
    cases rv with
    | cons h1 h2 => cases h2; exact ⟨_, rfl, h1⟩
  obtain ⟨xs, hxs, gd2⟩ := (Gd.bind gd1).lift
  obtain ⟨d, hd, qd⟩ := gd2.lift
  obtain rfl : d1 = .lst xs := by
    unfold lstOf at hxs
    split at hxs
    · cases hxs; rfl
    · cases hxs
  rw [Option.bind_eq_some_iff] at hd
  obtain ⟨ks, hks, hd⟩ := hd
  split at hks
  case isFalse => cases hks
  rename_i hpl
  rw [Bool.and_eq_true] at hpl
  split at hd
  case isFalse => cases hd
  rename_i hok
  rw [Bool.and_eq_true] at hok
  cases hd
  obtain ⟨l, vsV, rfl, hl, hlC, rl⟩ := r1.lst k1
  obtain rfl : u = Value.ref l := ru
  show wpAny _ _ (evalAll ((do let v ← eval (.Lambda (parms [y]) body scope lpos) X.env; standAt pos; pure v) :: [])) _ _ s1
  refine wpAny_evalAll_cons (wpAny_bind (lam_new (T := c.fa.T) I1 TB code hmT one k1.tab (by rfl) (L.has I.ok) fun f c' pm ctv H2 s2 I2 grown T2 atF noH noF isC hsz => wpAny_bind (wpAny_standAt (wpAny_pure (wpAny_evalAll_nil ?_)))))
  obtain ⟨e2, k2⟩ := grown.ext k1 T2
  have I3 := pinned1 I1 I2 atF noH hsz (fun v z => by cases z)
  show wpAny _ _ (call (.builtin "sorted") [.ref l] [(Str.ofString "key", .ref f)]) _ _ s2
  have hl2 : H2 l = some (.lst vsV) := e2.k l _ hl hlC (fun ps z => by cases z)
  have go_ : KeyGo c X X.A.in1.in1 ((f, PySem.W.kla_obj "<lambda>" (X.env.qual ++ "<lambda>") (parms [y]) body scope (cloFrom X.env.cells scope.names []) pm c' ctv) :: pins) σ W1 H2 h1 f xs ks := lam_go G hcx hlo L r2 hN hm k2 isC rfl (List.mem_cons_self ..) (fun q cl pm cv ctv u => bind_one y body scope q cl pm cv ctv u) ((r.ext e1).ext e2) hpl.2 hks
  have et := e1.trans e2
  refine wpAny_mono (call_sorted_key (d := .non) (by have := G.room.un; omega) hl2 rl (keysF_len hks) hok.1 hok.2 go_ I3 k2 (Q := Q) fun p ws H' W' y1 y2 hn hn2 r' => ?_) (fun v s' fin => ?_) fun e s' fin => fin
  · obtain ⟨z1, z2, z3, z4⟩ := fresh_ext (o := .lst ws) y2 hn
    exact qd _ _ W' ((et.trans y1).trans z1) z2 (ResN.newLst (et.trans y1) y2 hn r')
  · obtain ⟨w', H', J, rr, qq⟩ := fin
    exact ⟨w', H', unpin1 J, rr, qq⟩
end
end Mn

namespace Mn
open PySem L2 PySem.Spec PyProof.Rows
/-! ### set(xs), a list of ints -/
section
variable {P : Program} {w : World} {A : Around} {E : Value → Shared → Prop} {s : Shared}
abbrev set0 (w : World) : Obj := { cls := .type "set", dict := none, data := .set #[] 0 (.fresh 0 0 (!w.params.followText "set-order")) }
/-- what the set's init leaves -/
def SetMade (w : World) (s : Shared) (ns : List Int) (s₂ : Shared) : Prop := ∃ (h' : Heap) (tk c : Nat), s₂ = { s with heap := h', toks := tk } ∧ SetR w h' s.heap.objs.size (fun j => decide (j ∈ ns)) c ∧ c ≤ ns.length ∧ ∀ b o, s.heap.get? b = some o → h'.get? b = some o
theorem set_fill {l : Addr} {items : Array Value} (ns : List Int) (hh : A.handled = none) (hl : s.heap.IsList l items) (hit : IntsAre items.toList ns) (hb : ns.length + 1 < scanBound) {R : Result → Shared → Prop} (h : ∀ s₂, SetMade w s ns s₂ → R (.ok (.ret .none)) s₂) :
    codeAny (model P w) A (.builtin "set.update.loop" ⟨[.ref s.heap.objs.size, .ref (s.heap.objs.size + 1)], []⟩) R { s with heap := (s.heap.push (set0 w)).push { cls := .type "list_iterator", data := .fields #[.ref l, .int 0 0] } } := by
  have hsz : items.size = ns.length := by
    have q := IntsAre.length hit
    rwa [Array.length_toList] at q
  obtain ⟨ol, hol, rest⟩ := id hl
  have lt := Heap.lt_size hol
  have z1 : (s.heap.push (set0 w)).objs.size = s.heap.objs.size + 1 := Heap.size_push ..
  have ne1 : l ≠ s.heap.objs.size + 1 := Nat.ne_of_lt (Nat.lt_succ_of_lt lt)
  have out : s.heap.objs.size ∉ [s.heap.objs.size + 1, l] := by
    simp only [List.mem_cons, List.not_mem_nil, or_false, not_or]
    exact ⟨Nat.ne_of_lt (Nat.lt_succ_self _), Nat.ne_of_gt lt⟩
  have at0 : ((s.heap.push (set0 w)).push { cls := .type "list_iterator", data := .fields #[.ref l, .int 0 0] }).get? s.heap.objs.size = some (set0 w) := Heap.get?_push_of_some _ (Heap.get?_push_size _ rfl)
  have at1 : ((s.heap.push (set0 w)).push { cls := .type "list_iterator", data := .fields #[.ref l, .int 0 0] }).get? (s.heap.objs.size + 1) = some { cls := .type "list_iterator", data := .fields #[.ref l, .int 0 0] } := by
    rw [← z1]
    exact Heap.get?_push_size _ rfl
  refine set_update_ints ((Walks.list (A := A.in1) hh (s.heap.objs.size + 1) l ne1 items).toS) s.heap.objs.size out ns hsz hb (fun i v hv => ?_) (items.size - 0) 0 _ (by omega) (Nat.zero_le _) ⟨⟨_, at1, rfl, rfl⟩, (hl.push _).push _⟩ ⟨0, Nat.le_refl 0, setR_new_at at0⟩ fun s' c hm hc hS => ?_
  · have hi : i < ns.length := by rw [← hsz]; exact (Array.getElem?_eq_some_iff.mp hv).1
    obtain ⟨t, e⟩ := PyProof.Rows.IntsAre.int_at hit i v (by rw [Array.getElem?_toList]; exact hv)
    exact ⟨ns[i], t, List.getElem?_eq_getElem hi, by rw [e, List.getD_eq_getElem?_getD, List.getElem?_eq_getElem hi] <;> rfl⟩
  · obtain ⟨h', g2, d', tk', os'⟩ := s'
    have eg : g2 = s.gens := hm.gens
    have ed : d' = s.drawn := hm.drawn
    have eo : os' = s.os := hm.os
    subst eg ed eo
    rw [hsz] at hc
    refine h _ ⟨h', tk', c, rfl, hS, hc, fun b o e => ?_⟩
    have lb := Heap.lt_size e
    refine hm.heap b o (fun z => ?_) (Heap.get?_push_of_some _ (Heap.get?_push_of_some _ e))
    simp only [List.mem_cons, List.not_mem_nil, or_false] at z
    rcases z with z | z
    · exact absurd z (Nat.ne_of_lt lb)
    · exact absurd z (Nat.ne_of_lt (Nat.lt_succ_of_lt lb))
set_option maxHeartbeats 8000000 in
theorem call_set_ints {l : Addr} {items : Array Value} (ns : List Int) {Q : Value → Shared → Prop} (hh : A.handled = none) (hl : s.heap.IsList l items) (hit : IntsAre items.toList ns) (hb : ns.length + 1 < scanBound)
    (h : ∀ s₂, SetMade w s ns s₂ → Q (.ref s.heap.objs.size) s₂) : wpAny (model P w) A (call (.type "set") [.ref l]) Q E s := by
  obtain ⟨c, tl, hmro⟩ := F.called_set.mro
  have m1 := F.called_set.made
  have m2 := F.called_set.sub
  have m3 := F.called_set.notType
  have m4 := F.called_set.canCreate
  have m5 := F.typeCall_set_1 (.ref l)
  refine wpAny_call (codeAny_of_tree ?_)
  show wpAny _ _ (callAny (.type "set") _) _ _ _
  refine wpAny_pure ⟨Code.quiet_builtin _ (by decide +kernel), codeAny_builtin F.entry_type_call ?_⟩
  rw [Around.under_plain (weight_type_call_type "set" [.ref l] []) rfl]
  repeat (any_goals (first | assumption | wp_step))
  refine codeAny_mono (code_set_led1 (.ref l) (E := E) (Q₁ := fun obj s₁ => obj = .ref s.heap.objs.size ∧ s₁ = { s with heap := s.heap.push (set0 w) }) ⟨rfl, rfl⟩) fun r s₁ hr => ?_
  match r, hr with
  | .error e, hr => exact hr
  | .ok .next, hr => exact hr.elim
  | .ok .brk, hr => exact hr.elim
  | .ok .cont, hr => exact hr.elim
  | .ok (.ret obj), hr =>
    obtain ⟨rfl, rfl⟩ := hr
    have hS : (s.heap.push (set0 w)).get? s.heap.objs.size = some (set0 w) := Heap.get?_push_size _ rfl
    have hT : Shared.TypeIs { s with heap := s.heap.push (set0 w) } (.ref s.heap.objs.size) "set" := ⟨_, hS, rfl⟩
    have i1 := F.called_set.init.lookup
    have i2 := F.called_set.init.bind (.ref s.heap.objs.size)
    repeat (any_goals (first | assumption | wp_step))
    refine codeAny_mono (codeAny_call_builtin (R := wants (fun r s₂ => r = .none ∧ SetMade w s ns s₂) E) F.called_set.init.plain F.entry_set_init (check_set_init_1 hT ?_)) fun r₂ s₂ hr₂ => ?_
    · obtain ⟨ol, hol, hcl, nl, hdl⟩ := id hl
      obtain ⟨ocls, odict, odata, oslots⟩ := ol
      simp only at hcl hdl
      subst hcl hdl
      have at1 := Heap.get?_push_of_some (set0 w) hol
      have l1 : (s.heap.push (set0 w)).IsList l items := hl.push _
      have q1 := F.sub_list_set
      have q2 := F.sub_list_frozenset
      have q3 : (Value.type "list" == Value.type "dict") = false := by decide
      unfold Builtin.«set.__init__» noKeywords Builtin.Frozenset.updateFrom
      generalize hPI : pyIter = PI
      wp_walk
      subst hPI
      refine wpAny_pyIter_list l1 ?_
      refine wpAny_bind (wpAny_runValue ?_)
      have z1 : (s.heap.push (set0 w)).objs.size = s.heap.objs.size + 1 := Heap.size_push ..
      rw [z1]
      refine set_fill ns (by simp [hh]) hl hit hb fun s₂ made => ?_
      show wpAny _ _ _ _ _ _
      refine wpAny_pure ?_
      show wpAny _ _ (ret Value.none) _ _ _
      exact wpAny_pure ⟨rfl, made⟩
    · match r₂, hr₂ with
      | .error e, hr₂ => exact hr₂
      | .ok .next, hr₂ => exact hr₂.elim
      | .ok .brk, hr₂ => exact hr₂.elim
      | .ok .cont, hr₂ => exact hr₂.elim
      | .ok (.ret r), hr₂ =>
        obtain ⟨rfl, made⟩ := hr₂
        repeat (any_goals (first | assumption | wp_step))
        exact h _ made
end
section
variable {X : Cx}
/-- set(xs) -/
def rSetI (K : PySem.W.Frag) (w : World) : List V → Hp → VK → Prop := fun vs H Q => ∃ (a : Addr) (ns : List Int), vs = [V.ref a] ∧ SqL K H a (ns.map V.int) ∧ ns.length < 60 ∧ ∀ (p : Addr) (n : Nat), H p = none → n ≤ ns.length → Q (.ref p) (upd H p (SetO w p (fun j => decide (j ∈ ns)) n))
theorem cr_setI (hc : X.calm = true) : CallR X (.type "set") (rSetI X.K X.w) := by
  intro pins s σ H vs us Q I r h
  obtain ⟨a, ns, rfl, hs, hl, q⟩ := h
  obtain ⟨its, rv, pl, _⟩ := I.list hs
  rw [Vals.ref1 r]
  refine call_set_ints ns (I.ok.hd hc) pl.isList (by simpa using rv.ints) (Nat.lt_of_lt_of_le (Nat.succ_lt_succ hl) (by decide)) fun s₂ made => ?_
  obtain ⟨h', tk, n, rfl, R, hn, k⟩ := made
  exact ⟨.ref s.heap.objs.size, _, I.laid (t' := tk) k (Nat.le_refl _) (setO_new R), rfl, q _ n (I.hok.fresh (Nat.le_refl _)) hn⟩
end
theorem dedupI_mem : ∀ {l : List Int} {k : Int}, k ∈ dedupI l ↔ k ∈ l
  | [], k => Iff.rfl
  | x :: l, k => by
    unfold dedupI
    split
    · rename_i hx
      rw [dedupI_mem, List.mem_cons]
      exact ⟨.inr, fun z => z.elim (fun e => by rw [e]; exact hx) id⟩
    · rw [List.mem_cons, List.mem_cons, dedupI_mem]
theorem dedupI_nodup : ∀ l : List Int, (dedupI l).Nodup
  | [] => .nil
  | x :: l => by
    unfold dedupI
    split
    · exact dedupI_nodup l
    · rename_i hx
      exact List.nodup_cons.mpr ⟨fun z => hx (dedupI_mem.mp z), dedupI_nodup l⟩
theorem dedup_uniq {l ns : List Int} (h1 : ns.Pairwise (· < ·)) (h2 : ∀ k : Int, k ∈ ns ↔ decide (k ∈ l) = true) : ns = sortI (dedupI l) := by
  have nd : ns.Nodup := h1.imp fun h => by omega
  have p : ns.Perm (dedupI l) := (List.perm_ext_iff_of_nodup nd (dedupI_nodup l)).mpr fun k => by rw [h2, dedupI_mem]; simp
  exact sorted_uniq (p.trans (sortI_perm _).symm) (h1.imp fun h => by omega) (sortI_sorted _)
section
variable {c : Cn} {Γ : Gam} {cf : Nat → List D → Hq → R D} {k : Nat} {E : XK} {N : List Str} {sc : Scope} {X : Cx}
theorem s_sset {a : Mn.E} {f g : Str} {x : Expr} {p p2 pos pos2 : Pos} (O : Gok c Γ cf k) (G : GX c E N k sc X) (hg : isGl sc f = true) (hn : f = "sorted") (hfr : Γ.fr.contains f = true) (hg2 : isGl sc g = true) (hn2 : g = "set") (hfr2 : Γ.fr.contains g = true) (hs : notStar x = true) (h : SE c cf E X a x) :
    SE c cf E X (.sset a) (.Call (.Name f p) [.Call (.Name g p2) [x] [] pos2] [] pos) := by
  obtain ⟨g1, d1⟩ := gl_of G hg
  obtain ⟨g2, d2⟩ := gl_of G hg2
  have hm1 : X.mg f = none := by rw [G.mg]; exact O.fr f hfr
  have hm2 : X.mg g = none := by rw [G.mg]; exact O.fr g hfr2
  subst hn hn2
  have inner : PE X (.Call (.Name "set" p2) [x] [] pos2) (tCB (rSetI X.K X.w) (tCons (tB c cf E a) tNil)) := pe_callTy (cr_setI G.calm) g2 hm2 (by decide +kernel) (pa_cons h.b pa_nil (star_cons hs)) (by decide) d2 (star_cons hs) (by rfl)
  have outer : PE X (.Call (.Name "sorted" p) [.Call (.Name "set" p2) [x] [] pos2] [] pos) (tCB (rSortedSet X.w) (tCons (tCB (rSetI X.K X.w) (tCons (tB c cf E a) tNil)) tNil)) := pe_callB (cr_sortedSet G.calm) g1 hm1 (by decide +kernel) (pa_cons inner pa_nil (by rfl)) (by decide) d1 (by rfl) (by rfl)
  refine .ofN (weakE outer fun σ H Q q => ?_)
  obtain ⟨W, ρ, h, kk, r, g⟩ := q
  simp only [evE] at g
  refine ⟨W, ρ, h, kk, r, (Gd.bind g).mono fun d1 h1 g1 v H1 W1 e1 k1 r1 => ?_⟩
  obtain ⟨d, hd, q⟩ := g1.lift
  rw [Option.bind_eq_some_iff] at hd
  obtain ⟨xs, hxs, hd⟩ := hd
  rw [Option.bind_eq_some_iff] at hd
  obtain ⟨l, hl, hd⟩ := hd
  obtain rfl : d1 = .lst xs := by
    unfold lstOf at hxs
    split at hxs
    · cases hxs; rfl
    · cases hxs
  split at hd
  case isFalse => cases hd
  rename_i hlen
  cases hd
  obtain ⟨a1, vs, rfl, hp, hpc, rl⟩ := r1.lst k1
  obtain rfl := rl.ints hl
  refine ⟨a1, l, rfl, .inl (.of hp), hlen, fun a n ha hn => ?_⟩
  obtain ⟨e2, k2, _, _⟩ := fresh_ext (o := SetO X.w a (fun j => decide (j ∈ l)) n) k1 ha
  refine ⟨a, _, n, rfl, upd_same, by omega, fun ns p h1 h2 h3 h4 => ?_⟩
  have e := dedup_uniq h1 h2
  subst e
  obtain ⟨e3, k3, _, _⟩ := fresh_ext (o := .lst ((sortI (dedupI l)).map V.int)) k2 h4
  exact q _ _ W1 ((e1.trans e2).trans e3) k3 (ResN.newLst (e1.trans e2) k2 h4 (repL_ints _))
end
end Mn

namespace Mn
open PySem L2 PySem.Spec PyProof.Rows
section
variable {c : Cn} {Γ : Gam} {cf : Nat → List D → Hq → R D} {k : Nat} {N : List Str}
def isBO : Expr → Bool
  | .BoolOp _ (_ :: _ :: _) _ => true
  | _ => false
structure SX (c : Cn) (cf : Nat → List D → Hq → R D) (E : XK) (X : Cx) (m : Mn.E) (e : Expr) : Prop where
  se : SE c cf E X m e
  sw : isBO e = true → SW c cf E X m e
  ls : isLC e = true → LS c cf E X m e
theorem SE.x {E : XK} {X : Cx} {m : Mn.E} {e : Expr} (h : SE c cf E X m e) (hb : isBO e = false := by rfl) (hl : isLC e = false := by rfl) : SX c cf E X m e := ⟨h, fun z => by rw [hb] at z; exact Bool.noConfusion z, fun z => by rw [hl] at z; exact Bool.noConfusion z⟩
theorem ls_no {E : XK} {X : Cx} {e : Expr} : LS c cf E X .no e := fun j y py spos _ _ _ => ⟨fun pins s σ H D I q => by
  obtain ⟨W, ρ, h, kk, r, g⟩ := q
  exact False.elim g⟩
theorem sw_no {E : XK} {X : Cx} {e : Expr} : SW c cf E X .no e := by
  refine ⟨s_no.f rfl, ⟨fun wh pins s σ H Q I q => ?_⟩⟩
  obtain ⟨W, ρ, h, kk, r, g⟩ := q
  exact False.elim g
/-- the parts of arguments, one by one -/
def AllE (c : Cn) (cf : Nat → List D → Hq → R D) (E : XK) (X : Cx) : Es → List Expr → Prop
  | .nil, [] => True
  | .cons m ms, e :: es => notStar e = true ∧ SE c cf E X m e ∧ AllE c cf E X ms es
  | _, _ => False
theorem AllE.pa {E : XK} {X : Cx} : ∀ {ms : Es} {es : List Expr}, AllE c cf E X ms es → PA X es (tA c cf E ms) ∧ es.all notStar = true ∧ ms.len = es.length
  | .nil, [], _ => ⟨sa_nil, rfl, rfl⟩
  | .cons m ms, e :: es, h => by
    obtain ⟨h1, h2, h3⟩ := h
    obtain ⟨z1, z2, z3⟩ := AllE.pa h3
    exact ⟨sa_cons h2 h1 z1, by rw [List.all_cons, h1, z2]; rfl, by show ms.len + 1 = _; rw [z3]; rfl⟩
  | .nil, _ :: _, h => False.elim h
  | .cons _ _, [], h => False.elim h
theorem AllE.pk {E : XK} {X : Cx} : ∀ {ms : Es} {kws : List Keyword}, noB ms = true → AllE c cf E X ms (kwVals kws) → PK X kws (tA c cf E ms)
  | .nil, [], _, _ => sk_nil
  | .cons m ms, ⟨n, e, p⟩ :: kws, hn, h => by
    obtain ⟨h1, h2, h3⟩ := h
    simp only [noB, Bool.and_eq_true, Bool.not_eq_true'] at hn
    exact sk_cons h2 hn.1 (AllE.pk hn.2 h3)
  | .nil, ⟨_, _, _⟩ :: _, _, h => False.elim h
  | .cons _ _, [], _, h => False.elim h
theorem kw_len : ∀ {kws : List Keyword} {ns : List Str}, kwNames kws = some ns → (kwVals kws).length = ns.length
  | [], ns, h => by simp only [kwNames, Option.some.injEq] at h; subst h; rfl
  | ⟨some n, e, p⟩ :: r, ns, h => by
    simp only [kwNames, Option.map_eq_some_iff] at h
    obtain ⟨ns', h1, rfl⟩ := h
    show (kwVals r).length + 1 = _
    rw [kw_len h1]; rfl
  | ⟨none, _, _⟩ :: _, _, h => by cases h
theorem rngd_shape {a b : Mn.E} {tg : Tg} {sc : Scope} {e : Expr} (h : chkI Γ N (.rngd a b) tg sc e = true) : ∃ f p x y j p1 p2 pos, e = .Call (.Name f p) [x, y, .UnaryOp .USub (.Constant (.int 1) j p1) p2] [] pos ∧ (isGl sc f && decide (f = "range") && Γ.fr.contains f && chkE Γ N a sc x && chkE Γ N b sc y && notStar x && notStar y) = true := by
  unfold chkI at h
  split at h
  all_goals first
    | (rename_i e1; cases e1; exact ⟨_, _, _, _, _, _, _, _, rfl, h⟩)
    | (rename_i e1 e2; cases e1; exact ⟨_, _, _, _, _, _, _, _, rfl, h⟩)
    | exact Bool.noConfusion h
    | (exfalso; simp_all)
theorem rgArg_eq {z : Expr} {g : Str} {as : List Expr} (h : rgArg z = some (g, as)) : ∃ p pos, z = .Call (.Name g p) as [] pos := by
  unfold rgArg at h
  split at h
  · cases h
    exact ⟨_, _, rfl⟩
  · cases h
theorem tg_tup {tg : Tg} {sc : Scope} {t : Expr} (h : chkTg N sc tg t = true) : ∀ is, tg = .tp is → ∃ es z p, t = .Tuple es z p := fun is e => by
  subst e
  cases t <;> first | exact ⟨_, _, _, rfl⟩ | exact Bool.noConfusion h
theorem rev_shape {a : Mn.E} {sc : Scope} {x y : Expr} {pos : Pos} (h : chkE Γ N (.rev a) sc (.Subscript x y pos) = true) : ∃ j p1 p2 p3, y = .Slice none none (some (.UnaryOp .USub (.Constant (.int 1) j p1) p2)) p3 ∧ chkE Γ N a sc x = true := by
  unfold chkE at h
  split at h <;> first | exact Bool.noConfusion h | skip
  all_goals first
    | (rename_i e1 e2; cases e2; cases e1; exact ⟨_, _, _, _, rfl, h⟩)
    | (rename_i e1 e2 e3; cases e1; exact ⟨_, _, _, _, rfl, h⟩)
    | (exfalso; simp_all)
    | skip
theorem heard_shape {tb : List (Nat × Str × Bool)} {a : Mn.E} {sc : Scope} {e : Expr} (h : chkE Γ N (.heard tb a) sc e = true) : ∃ x p params body scope lpos pos, e = .Call (.Name x p) [.Lambda params body scope lpos] [] pos ∧ (isGl sc x && decide (Γ.hd = some (x, tb)) && ownSc N sc && N.contains ("<lambda>" : Str) && LamX.lamSB sc scope && lamSc scope && noPar params && !isB a && chkE Γ N a scope body) = true := by
  cases e with
  | Call f as kws pos =>
    cases f with
    | Name x p =>
      cases as with
      | nil => exact Bool.noConfusion h
      | cons y r =>
        cases r with
        | nil =>
          cases kws with
          | nil => cases y <;> first | exact ⟨_, _, _, _, _, _, _, rfl, h⟩ | exact Bool.noConfusion h
          | cons _ _ => cases y <;> exact Bool.noConfusion h
        | cons _ _ => cases y <;> exact Bool.noConfusion h
    | _ => exact Bool.noConfusion h
  | _ => exact Bool.noConfusion h
theorem setArg_eq {e : Expr} {f g : Str} {x : Expr} (h : setArg e = some (f, g, x)) : ∃ p p2 pos2 pos, e = .Call (.Name f p) [.Call (.Name g p2) [x] [] pos2] [] pos := by
  unfold setArg at h
  split at h
  · cases h
    exact ⟨_, _, _, _, rfl⟩
  · cases h
theorem keyArg_eq {e : Expr} {f : Str} {x : Expr} {kn : Str} {params : Arguments} {body : Expr} {scope : Scope} (h : keyArg e = some (f, x, kn, params, body, scope)) : ∃ p lpos kpos pos, e = .Call (.Name f p) [x] [⟨some kn, .Lambda params body scope lpos, kpos⟩] pos := by
  unfold keyArg at h
  split at h
  · cases h
    exact ⟨_, _, _, _, rfl⟩
  · cases h
theorem dc_shape {mk mv : Mn.E} {tg : Tg} {it : Mn.It} {sc : Scope} {e : Expr} (h : chkE Γ N (.dc mk mv tg it) sc e = true) : ∃ kx vx t i z scope pos, e = .DictComp kx vx [⟨t, i, [], z⟩] scope pos ∧ ((!lamSc sc && (ownSc N sc || !ownSc N (relab scope sc))) && chkI Γ N it tg sc i && chkTg N scope tg t && blkC N sc scope (tgNames N tg) && decide (tg.slots.length = (tgNames N tg).length) && !isB mk && !isB mv && chkE Γ N mk (relab scope sc) kx && chkE Γ N mv (relab scope sc) vx && decide (z = 0)) = true := by
  cases e with
  | DictComp kx vx gs scope pos =>
    match gs, h with
    | [⟨t, i, [], z⟩], h => exact ⟨_, _, _, _, _, _, _, rfl, h⟩
    | [], h => exact Bool.noConfusion h
    | ⟨t, i, _ :: _, _⟩ :: _, h => exact Bool.noConfusion h
    | ⟨t, i, [], _⟩ :: _ :: _, h => exact Bool.noConfusion h
  | _ => exact Bool.noConfusion h
theorem vals_shape {a : Mn.E} {sc : Scope} {e : Expr} (h : chkE Γ N (.vals a) sc e = true) : ∃ f p x nm apos cpos pos, e = .Call (.Name f p) [.Call (.Attribute x nm apos) [] [] cpos] [] pos ∧ (isGl sc f && decide (f = "list") && Γ.fr.contains f && decide (nm = "values") && chkE Γ N a sc x && notSup x && (apos.endLine == cpos.line)) = true := by
  unfold chkE at h
  split at h
  all_goals first
    | (rename_i e1; cases e1; exact ⟨_, _, _, _, _, _, _, rfl, h⟩)
    | (rename_i e1 e2; cases e1; exact ⟨_, _, _, _, _, _, _, rfl, h⟩)
    | exact ⟨_, _, _, _, _, _, _, rfl, h⟩
    | exact Bool.noConfusion h
    | (exfalso; simp_all)
mutual
theorem sE (O : Gok c Γ cf k) : ∀ (m : Mn.E) {sc : Scope} {e : Expr} {E : XK} {X : Cx}, GX c E N k sc X → chkE Γ N m sc e = true → SX c cf E X m e
  | .no, sc, e, E, X, G, h => ⟨s_no, fun _ => sw_no, fun _ => ls_no⟩
  | .non, sc, e, E, X, G, h => by
    cases e with
    | Constant cst a b => cases cst with
      | none => exact (s_const pe_non (fun _ _ => rfl) fun _ => .non).x
      | _ => exact Bool.noConfusion h
    | _ => exact Bool.noConfusion h
  | .bl b, sc, e, E, X, G, h => by
    cases e with
    | Constant cst _ _ => cases cst with
      | bool b2 =>
        have h : (b == b2) = true := h
        obtain rfl : b = b2 := by simpa using h
        exact (s_const pe_bl (fun _ _ => rfl) fun _ => .bl b).x
      | _ => exact Bool.noConfusion h
    | _ => exact Bool.noConfusion h
  | .int i, sc, e, E, X, G, h => by
    cases e with
    | Constant cst _ _ => cases cst with
      | int j =>
        obtain rfl : i = j := bdec h
        exact (s_const pe_int (fun _ _ => rfl) fun _ => .int i).x
      | _ => exact Bool.noConfusion h
    | _ => exact Bool.noConfusion h
  | .str s, sc, e, E, X, G, h => by
    cases e with
    | Constant cst _ _ => cases cst with
      | str t =>
        obtain rfl : s = t := bdec h
        exact (s_const pe_str (fun _ _ => rfl) fun _ => .str s).x
      | _ => exact Bool.noConfusion h
    | _ => exact Bool.noConfusion h
  | .var i, sc, e, E, X, G, h => by
    cases e with
    | Name x pos => exact (s_var G h).x
    | _ => exact Bool.noConfusion h
  | .own i, sc, e, E, X, G, h => by
    cases e with
    | Name x pos => exact (s_own G h).x
    | _ => exact Bool.noConfusion h
  | .gint i, sc, e, E, X, G, h => by
    cases e with
    | Name x pos => exact (s_gint O G (band h).1 (bdec (band h).2)).x
    | _ => exact Bool.noConfusion h
  | .gfn n, sc, e, E, X, G, h => by
    cases e with
    | Name x pos => exact (s_gfn O G (band h).1 (bdec (band h).2)).x
    | _ => exact Bool.noConfusion h
  | .bin op a b, sc, e, E, X, G, h => by
    cases e with
    | BinOp l o r pos =>
      obtain ⟨h3, h2⟩ := band h
      obtain ⟨h0, h1⟩ := band h3
      have e0 := bdec h0
      rw [e0]
      exact (s_bin (sE O a G h1).se (sE O b G h2).se).x
    | _ => exact Bool.noConfusion h
  | .neg a, sc, e, E, X, G, h => by
    cases e with
    | UnaryOp o l pos => cases o with
      | USub => exact (s_neg (sE O a G h).se).x
      | _ => exact Bool.noConfusion h
    | _ => exact Bool.noConfusion h
  | .not a, sc, e, E, X, G, h => by
    cases e with
    | UnaryOp o l pos => cases o with
      | Not => exact (s_not (sE O a G (band h).1).se (band h).2).x
      | _ => exact Bool.noConfusion h
    | _ => exact Bool.noConfusion h
  | .cmp op a b, sc, e, E, X, G, h => by
    cases e with
    | Compare l ops rs pos =>
      match ops, rs, h with
      | [o], [r], h =>
        obtain ⟨h, h4⟩ := band h
        obtain ⟨h, h3⟩ := band h
        obtain ⟨h1, h2⟩ := band h
        obtain rfl := bdec h1
        exact (s_cmp G (sE O a G h2).se (sE O b G h3).se h4).x
      | [_, _], [_, _], h => exact Bool.noConfusion h
      | [], _, h => exact Bool.noConfusion h
      | [_], [], h => exact Bool.noConfusion h
      | [_], _ :: _ :: _, h => exact Bool.noConfusion h
      | _ :: _ :: _, [], h => exact Bool.noConfusion h
      | _ :: _ :: _, [_], h => exact Bool.noConfusion h
      | _ :: _ :: _ :: _, _ :: _ :: _, h => exact Bool.noConfusion h
      | [_, _], _ :: _ :: _ :: _, h => exact Bool.noConfusion h
    | _ => exact Bool.noConfusion h
  | .chain o p a b d, sc, e, E, X, G, h => by
    cases e with
    | Compare l ops rs pos =>
      match ops, rs, h with
      | [o', p'], [m, r], h =>
        obtain ⟨h, h6⟩ := band h
        obtain ⟨h, h5⟩ := band h
        obtain ⟨h, h4⟩ := band h
        obtain ⟨h, h3⟩ := band h
        obtain ⟨h1, h2⟩ := band h
        obtain rfl := bdec h1
        obtain rfl := bdec h2
        exact (s_chain G (sE O a G h3).se (sE O b G h4).se (sE O d G h5).se h6).x
      | [], _, h => exact Bool.noConfusion h
      | [_], _, h => exact Bool.noConfusion h
      | [_, _], [], h => exact Bool.noConfusion h
      | [_, _], [_], h => exact Bool.noConfusion h
      | _ :: _ :: _ :: _, [], h => exact Bool.noConfusion h
      | _ :: _ :: _ :: _, [_], h => exact Bool.noConfusion h
      | _ :: _ :: _ :: _, _ :: _ :: _, h => exact Bool.noConfusion h
      | [_, _], _ :: _ :: _ :: _, h => exact Bool.noConfusion h
    | _ => exact Bool.noConfusion h
  | .and a b, sc, e, E, X, G, h => by
    cases e with
    | BoolOp o es pos => cases o with
      | And =>
        match es, h with
        | l :: r :: rest, h =>
          obtain ⟨h, h5⟩ := band h
          obtain ⟨h, h4⟩ := band h
          obtain ⟨h, h3⟩ := band h
          obtain ⟨h1, h2⟩ := band h
          have key : SW c cf E X (.and a b) (.BoolOp .And (l :: r :: rest) pos) := by
            cases rest with
            | nil =>
              obtain ⟨h6, h7⟩ := band h5
              exact sw_and (sE O a G h3).se h4 (bnot h1) (sw_one (sE O b G h6).se (bnot h2) h7)
            | cons r2 rest => exact sw_and (sE O a G h3).se h4 (bnot h1) ((sE O b G h5).sw rfl)
          exact ⟨key.se rfl, fun _ => key, fun z => Bool.noConfusion z⟩
        | [], h => exact Bool.noConfusion h
        | [_], h => exact Bool.noConfusion h
      | _ => exact Bool.noConfusion h
    | _ => exact Bool.noConfusion h
  | .or a b, sc, e, E, X, G, h => by
    cases e with
    | BoolOp o es pos => cases o with
      | Or =>
        match es, h with
        | l :: r :: rest, h =>
          obtain ⟨h, h5⟩ := band h
          obtain ⟨h, h4⟩ := band h
          obtain ⟨h, h3⟩ := band h
          obtain ⟨h1, h2⟩ := band h
          have key : SW c cf E X (.or a b) (.BoolOp .Or (l :: r :: rest) pos) := by
            cases rest with
            | nil =>
              obtain ⟨h6, h7⟩ := band h5
              exact sw_or (sE O a G h3).se h4 (bnot h1) (sw_one (sE O b G h6).se (bnot h2) h7)
            | cons r2 rest => exact sw_or (sE O a G h3).se h4 (bnot h1) ((sE O b G h5).sw rfl)
          exact ⟨key.se rfl, fun _ => key, fun z => Bool.noConfusion z⟩
        | [], h => exact Bool.noConfusion h
        | [_], h => exact Bool.noConfusion h
      | _ => exact Bool.noConfusion h
    | _ => exact Bool.noConfusion h
  | .ife d a b, sc, e, E, X, G, h => by
    cases e with
    | IfExp t x y pos =>
      obtain ⟨h, h6⟩ := band h
      obtain ⟨h, h5⟩ := band h
      obtain ⟨h, h4⟩ := band h
      obtain ⟨h, h3⟩ := band h
      obtain ⟨h1, h2⟩ := band h
      exact (s_ife (sE O d G h3).se h6 (sE O a G h4).se (sE O b G h5).se (bnot h1) (bnot h2)).x
    | _ => exact Bool.noConfusion h
  | .call n es, sc, e, E, X, G, h => by
    cases e with
    | Call f as ks pos => cases f with
      | Name f p =>
        match as, ks, h with
        | a :: as, [], h =>
          obtain ⟨h, h5⟩ := band h
          obtain ⟨h, h4⟩ := band h
          obtain ⟨h, h3⟩ := band h
          obtain ⟨h1, h2⟩ := band h
          obtain ⟨z1, z2, z3⟩ := (sEs O es G h5).pa
          exact (s_call O G h1 (bdec h2) h3 (bdec h4) z1 z2).x
        | [], _, h => exact Bool.noConfusion h
        | _ :: _, _ :: _, h => exact Bool.noConfusion h
      | _ => exact Bool.noConfusion h
    | _ => exact Bool.noConfusion h
  | .callk n es zs p, sc, e, E, X, G, h => by
    cases e with
    | Call f as ks pos => cases f with
      | Name f pp =>
        match ks, h with
        | kk :: ks, h =>
          obtain ⟨h, h7⟩ := band h
          obtain ⟨h, h6⟩ := band h
          obtain ⟨h, h5⟩ := band h
          obtain ⟨h, h4⟩ := band h
          obtain ⟨h, h3⟩ := band h
          obtain ⟨h1, h2⟩ := band h
          split at h7
          · rename_i ns hns
            obtain ⟨h, g5⟩ := band h7
            obtain ⟨h, g4⟩ := band h
            obtain ⟨h, g3⟩ := band h
            obtain ⟨g1, g2⟩ := band h
            obtain ⟨z1, z2, z3⟩ := (sEs O es G h5).pa
            have za := sEs O zs G h6
            obtain ⟨_, _, y3⟩ := za.pa
            exact (s_callk O G h1 (bdec h2) h3 h4 z1 z2 (za.pk h4) hns (bdec g1) (bdec g2) (bdec g3) (bdec g4) (bdec g5) z3 (by rw [y3, kw_len hns])).x
          · exact Bool.noConfusion h7
        | [], h => cases as <;> exact Bool.noConfusion h
      | _ => cases ks <;> exact Bool.noConfusion h
    | _ => exact Bool.noConfusion h
  | .calll i es, sc, e, E, X, G, h => by
    cases e with
    | Call f as ks pos => cases f with
      | Name f p =>
        match as, ks, h with
        | a :: as, [], h =>
          obtain ⟨h, h3⟩ := band h
          obtain ⟨h1, h2⟩ := band h
          obtain ⟨z1, z2, z3⟩ := (sEs O es G h3).pa
          exact (s_calll O G h1 h2 z1 z2).x
        | [], _, h => exact Bool.noConfusion h
        | _ :: _, _ :: _, h => exact Bool.noConfusion h
      | _ => exact Bool.noConfusion h
    | _ => exact Bool.noConfusion h
  | .bi f es, sc, e, E, X, G, h => by
    cases e with
    | Call g as ks pos => cases g with
      | Name g p =>
        have plain : ∀ {a : Expr} {as : List Expr}, (f.ok && isGl sc g && decide (g = f.name) && Γ.fr.contains g && chkEs Γ N es sc (a :: as)) = true → SX c cf E X (.bi f es) (.Call (.Name g p) (a :: as) [] pos) := fun {a as} h => by
          obtain ⟨h, h5⟩ := band h
          obtain ⟨h, h4⟩ := band h
          obtain ⟨h, h3⟩ := band h
          obtain ⟨h1, h2⟩ := band h
          obtain ⟨z1, z2, z3⟩ := (sEs O es G h5).pa
          exact (s_bi O G h1 h2 (bdec h3) h4 z1 z2).x
        match as, ks, h with
        | a :: as, [], h =>
          refine plain ?_
          cases f <;> first
            | exact h
            | (cases es with
              | nil => exact h
              | cons m ms => cases ms <;> first | exact h | (cases as <;> exact h))
        | [x], [⟨kn, v, kp⟩], h =>
          cases f with
          | sortedr => match es, h with
            | .cons a .nil, h =>
              cases kn with
              | none => cases v <;> exact Bool.noConfusion h
              | some kn =>
                cases v with
                | Constant cst j p2 => cases cst with
                  | bool bb => cases bb with
                    | true =>
                      obtain ⟨h, h6⟩ := band h
                      obtain ⟨h, h5⟩ := band h
                      obtain ⟨h, h4⟩ := band h
                      obtain ⟨h, h3⟩ := band h
                      obtain ⟨h1, h2⟩ := band h
                      exact (s_sr O G h1 (bdec h2) (bdec h3) h4 (sE O a G h5).se h6).x
                    | false => exact Bool.noConfusion h
                  | _ => exact Bool.noConfusion h
                | _ => exact Bool.noConfusion h
            | .nil, h => exact Bool.noConfusion h
            | .cons _ (.cons _ _), h => exact Bool.noConfusion h
          | _ => exact Bool.noConfusion h
        | [], _, h => cases f <;> first | exact Bool.noConfusion h | (cases es with
              | nil => exact Bool.noConfusion h
              | cons m ms => cases ms <;> exact Bool.noConfusion h)
        | _ :: _ :: _, _ :: _, h => cases f <;> first | exact Bool.noConfusion h | (cases es with
              | nil => exact Bool.noConfusion h
              | cons m ms => cases ms <;> exact Bool.noConfusion h)
        | [_], ⟨kn, v, _⟩ :: _ :: _, h => cases f <;> first | exact Bool.noConfusion h | (cases es with
              | nil => exact Bool.noConfusion h
              | cons m ms => cases ms <;> first | exact Bool.noConfusion h | (cases kn <;> first | exact Bool.noConfusion h | (cases v <;> first | exact Bool.noConfusion h | (rename_i cst _ _; cases cst <;> first | exact Bool.noConfusion h | (rename_i bb; cases bb <;> exact Bool.noConfusion h)))))
      | _ => exfalso; cases f <;> first | exact Bool.noConfusion h | (cases es with
              | nil => exact Bool.noConfusion h
              | cons m ms => cases ms <;> exact Bool.noConfusion h)
    | _ => exfalso; cases f <;> first | exact Bool.noConfusion h | (cases es with
              | nil => exact Bool.noConfusion h
              | cons m ms => cases ms <;> exact Bool.noConfusion h)
  | .isi t a, sc, e, E, X, G, h => by
    cases e with
    | Call g as ks pos => cases g with
      | Name g p =>
        match as, ks, h with
        | [x, y], [], h =>
          cases y with
          | Name t' p2 =>
            obtain ⟨h, h9⟩ := band h
            obtain ⟨h, h8⟩ := band h
            obtain ⟨h, h7⟩ := band h
            obtain ⟨h, h6⟩ := band h
            obtain ⟨h, h5⟩ := band h
            obtain ⟨h, h4⟩ := band h
            obtain ⟨h, h3⟩ := band h
            obtain ⟨h1, h2⟩ := band h
            exact (s_isi O G h1 (bdec h2) h3 h4 (bdec h5) h6 h7 (sE O a G h8).se h9).x
          | _ => exact Bool.noConfusion h
        | [], _, h => exact Bool.noConfusion h
        | [_], _, h => exact Bool.noConfusion h
        | _ :: y :: _ :: _, _, h => exfalso; cases y <;> exact Bool.noConfusion h
        | [_, y], _ :: _, h => exfalso; cases y <;> exact Bool.noConfusion h
      | _ => exact Bool.noConfusion h
    | _ => exact Bool.noConfusion h
  | .mt mm a es, sc, e, E, X, G, h => by
    cases mm with
    | index =>
      match es, h with
      | .cons b .nil, h =>
        cases e with
        | Call g as ks pos => cases g with
          | Attribute x nm apos =>
            match as, ks, h with
            | [y], [], h =>
              obtain ⟨h, h6⟩ := band h
              obtain ⟨h, h5⟩ := band h
              obtain ⟨h, h4⟩ := band h
              obtain ⟨h, h3⟩ := band h
              obtain ⟨h1, h2⟩ := band h
              exact (s_index (bdec h1) (sE O a G h2).se (sE O b G h3).se h4 h5 h6).x
            | [], _, h => exact Bool.noConfusion h
            | _ :: _ :: _, _, h => exact Bool.noConfusion h
            | [_], _ :: _, h => exact Bool.noConfusion h
          | _ => exact Bool.noConfusion h
        | _ => exact Bool.noConfusion h
      | .nil, h => exact Bool.noConfusion h
      | .cons _ (.cons _ _), h => exact Bool.noConfusion h
    | tindex => cases e <;> exact Bool.noConfusion h
    | count =>
      match es, h with
      | .cons b .nil, h =>
        cases e with
        | Call g as ks pos => cases g with
          | Attribute x nm apos =>
            match as, ks, h with
            | [y], [], h =>
              obtain ⟨h, h6⟩ := band h
              obtain ⟨h, h5⟩ := band h
              obtain ⟨h, h4⟩ := band h
              obtain ⟨h, h3⟩ := band h
              obtain ⟨h1, h2⟩ := band h
              exact (s_count (bdec h1) (sE O a G h2).se (sE O b G h3).se h4 h5 h6).x
            | [], _, h => exact Bool.noConfusion h
            | _ :: _ :: _, _, h => exact Bool.noConfusion h
            | [_], _ :: _, h => exact Bool.noConfusion h
          | _ => exact Bool.noConfusion h
        | _ => exact Bool.noConfusion h
      | .nil, h => exact Bool.noConfusion h
      | .cons _ (.cons _ _), h => exact Bool.noConfusion h
    | get =>
      match es, h with
      | .cons b (.cons z .nil), h =>
        cases e with
        | Call g as ks pos => cases g with
          | Attribute x nm apos =>
            match as, ks, h with
            | [y, w], [], h =>
              obtain ⟨h, h9⟩ := band h
              obtain ⟨h, h8⟩ := band h
              obtain ⟨h, h7⟩ := band h
              obtain ⟨h, h6⟩ := band h
              obtain ⟨h, h5⟩ := band h
              obtain ⟨h, h4⟩ := band h
              obtain ⟨h, h3⟩ := band h
              obtain ⟨h1, h2⟩ := band h
              exact (s_get G (bdec h1) (sE O a G h2).se (sE O b G h3).se (sE O z G h4).se (bnot h5) h6 h7 h8 h9).x
            | [], _, h => exact Bool.noConfusion h
            | [_], _, h => exact Bool.noConfusion h
            | _ :: _ :: _ :: _, _, h => exact Bool.noConfusion h
            | [_, _], _ :: _, h => exact Bool.noConfusion h
          | _ => exact Bool.noConfusion h
        | _ => exact Bool.noConfusion h
      | .nil, h => exact Bool.noConfusion h
      | .cons _ .nil, h => exact Bool.noConfusion h
      | .cons _ (.cons _ (.cons _ _)), h => exact Bool.noConfusion h
  | .tup es, sc, e, E, X, G, h => by
    cases e with
    | Tuple as z pos =>
      obtain ⟨h, h3⟩ := band h
      obtain ⟨h1, h2⟩ := band h
      exact (s_tup h1 (bdec h2) (sEs O es G h3).pa.1).x
    | _ => exact Bool.noConfusion h
  | .lst es, sc, e, E, X, G, h => by
    cases e with
    | List as pos =>
      obtain ⟨h, h3⟩ := band h
      obtain ⟨h1, h2⟩ := band h
      exact (s_lst h1 (bdec h2) (sEs O es G h3).pa.1).x
    | _ => exact Bool.noConfusion h
  | .cell es, sc, e, E, X, G, h => by
    cases e with
    | List as pos =>
      obtain ⟨h, h3⟩ := band h
      obtain ⟨h1, h2⟩ := band h
      exact (s_cell h1 (bdec h2) (sEs O es G h3).pa.1).x
    | _ => exact Bool.noConfusion h
  | .dnew t, sc, e, E, X, G, h => by
    cases e with
    | Dict ks vs pos =>
      match ks, vs, h with
      | [], [], h => exact (SE.ofD pe_dnew_t).x
      | [], _ :: _, h => exact Bool.noConfusion h
      | _ :: _, _, h => exact Bool.noConfusion h
    | _ => exact Bool.noConfusion h
  | .ddisp t a b, sc, e, E, X, G, h => by
    cases e with
    | Dict ks vs pos =>
      match ks, vs, h with
      | [some x], [y], h =>
        obtain ⟨h, h5⟩ := band h
        obtain ⟨h, h4⟩ := band h
        obtain ⟨h2, h3⟩ := band h
        exact (SE.ofD (pe_ddisp_any (by have := G.room.un; omega) (sE O a G h4).se (sE O b G h5).se (bnot h2) (bnot h3))).x
      | [], _, h => exact Bool.noConfusion h
      | [none], _, h => exact Bool.noConfusion h
      | [some _], [], h => exact Bool.noConfusion h
      | [some _], _ :: _ :: _, h => exact Bool.noConfusion h
      | none :: _ :: _, _, h => exact Bool.noConfusion h
      | some _ :: _ :: _, _, h => exact Bool.noConfusion h
    | _ => exact Bool.noConfusion h
  | .lc e1 tg it, sc, e, E, X, G, h => by
    cases e with
    | ListComp elt gs scope pos =>
      match gs, h with
      | [⟨t, i, [], z⟩], h =>
        obtain ⟨hh, h0⟩ := band h
        obtain rfl := bdec h0
        obtain ⟨hh, h6⟩ := band hh
        obtain ⟨hh, h5⟩ := band hh
        obtain ⟨hh, h4⟩ := band hh
        obtain ⟨hh, h3⟩ := band hh
        obtain ⟨hh, h2⟩ := band hh
        obtain ⟨hn, h1⟩ := band hh
        obtain ⟨y1, y2⟩ := sI O it tg false (t := t) G h1 (tg_tup h2) (fun z => Bool.noConfusion z)
        obtain ⟨w1, w2⟩ := s_lc (pos := pos) (LcP.of G (bnot (band hn).1) (band hn).2 y1 h2 h3 (bdec h4) (fun X' G' => st_nil) (fun X' G' => (sE O e1 G' h6).se.f (bnot h5)) y2)
        exact ⟨w1, fun z => Bool.noConfusion z, fun _ => w2⟩
      | [], h => exact Bool.noConfusion h
      | ⟨t, i, _ :: _, _⟩ :: _, h => exact Bool.noConfusion h
      | ⟨t, i, [], _⟩ :: _ :: _, h => exact Bool.noConfusion h
    | _ => exact Bool.noConfusion h
  | .lcif e1 tg it cc, sc, e, E, X, G, h => by
    cases e with
    | ListComp elt gs scope pos =>
      match gs, h with
      | [⟨t, i, [f], z⟩], h =>
        obtain ⟨hh, h0⟩ := band h
        obtain rfl := bdec h0
        obtain ⟨hh, h8⟩ := band hh
        obtain ⟨hh, h7⟩ := band hh
        obtain ⟨hh, h6⟩ := band hh
        obtain ⟨hh, h5⟩ := band hh
        obtain ⟨hh, h4⟩ := band hh
        obtain ⟨hh, h3⟩ := band hh
        obtain ⟨hh, h2⟩ := band hh
        obtain ⟨hn, h1⟩ := band hh
        obtain ⟨y1, y2⟩ := sI O it tg false (t := t) G h1 (tg_tup h2) (fun z => Bool.noConfusion z)
        obtain ⟨w1, w2⟩ := s_lcif (pos := pos) (LcP.of G (bnot (band hn).1) (band hn).2 y1 h2 h3 (bdec h4) (fun X' G' => st_one ((sE O cc G' h7).se.t h8)) (fun X' G' => (sE O e1 G' h6).se.f (bnot h5)) y2)
        exact ⟨w1, fun z => Bool.noConfusion z, fun _ => w2⟩
      | [], h => exact Bool.noConfusion h
      | ⟨t, i, [], _⟩ :: _, h => exact Bool.noConfusion h
      | ⟨t, i, _ :: _ :: _, _⟩ :: _, h => exact Bool.noConfusion h
      | ⟨t, i, [_], _⟩ :: _ :: _, h => exact Bool.noConfusion h
    | _ => exact Bool.noConfusion h
  | .ix a i, sc, e, E, X, G, h => by
    cases e with
    | Subscript x y pos =>
      obtain ⟨h, h3⟩ := band h
      obtain ⟨h1, h2⟩ := band h
      exact (s_ix G (sE O a G h1).se (sE O i G h2).se h3).x
    | _ => exact Bool.noConfusion h
  | .slab a lo hi, sc, e, E, X, G, h => by
    cases e with
    | Subscript x y pos => cases y with
      | Slice l u st p2 =>
        cases l with
        | none => exact Bool.noConfusion h
        | some l => cases u with
          | none => exact Bool.noConfusion h
          | some u => cases st with
            | some _ => exact Bool.noConfusion h
            | none =>
              obtain ⟨h, h3⟩ := band h
              obtain ⟨h1, h2⟩ := band h
              exact (s_slab G (sE O a G h1).se (sE O lo G h2).se (sE O hi G h3).se).x
      | _ => exact Bool.noConfusion h
    | _ => exact Bool.noConfusion h
  | .sla a lo, sc, e, E, X, G, h => by
    cases e with
    | Subscript x y pos => cases y with
      | Slice l u st p2 =>
        cases l with
        | none => exact Bool.noConfusion h
        | some l => cases u with
          | some _ => exact Bool.noConfusion h
          | none => cases st with
            | some _ => exact Bool.noConfusion h
            | none =>
              obtain ⟨h1, h2⟩ := band h
              exact (s_sla G (sE O a G h1).se (sE O lo G h2).se).x
      | _ => exact Bool.noConfusion h
    | _ => exact Bool.noConfusion h
  | .slb a hi, sc, e, E, X, G, h => by
    cases e with
    | Subscript x y pos => cases y with
      | Slice l u st p2 =>
        cases l with
        | some _ => exact Bool.noConfusion h
        | none => cases u with
          | none => exact Bool.noConfusion h
          | some u => cases st with
            | some _ => exact Bool.noConfusion h
            | none =>
              obtain ⟨h1, h2⟩ := band h
              exact (s_slb G (sE O a G h1).se (sE O hi G h2).se).x
      | _ => exact Bool.noConfusion h
    | _ => exact Bool.noConfusion h
  | .rev a, sc, e, E, X, G, h => by
    cases e with
    | Subscript x y pos =>
      obtain ⟨j, p1, p2, p3, rfl, h1⟩ := rev_shape h
      exact (s_rev (sE O a G h1).se).x
    | _ => exact Bool.noConfusion h
  | .lrg t a b, sc, e, E, X, G, h => by
    cases e with
    | Call f as ks pos => cases f with
      | Name f p =>
        match as, ks, h with
        | [z], [], h =>
          have h : (match rgArg z with
            | some (g, [x, y]) => isGl sc f && decide (f = (if t then "tuple" else "list")) && Γ.fr.contains f && isGl sc g && decide (g = "range") && Γ.fr.contains g && chkE Γ N a sc x && chkE Γ N b sc y && notStar x && notStar y
            | _ => false) = true := h
          split at h
          · rename_i g x y hz
            obtain ⟨p2, pos2, rfl⟩ := rgArg_eq hz
            obtain ⟨h, h10⟩ := band h
            obtain ⟨h, h9⟩ := band h
            obtain ⟨h, h8⟩ := band h
            obtain ⟨h, h7⟩ := band h
            obtain ⟨h, h6⟩ := band h
            obtain ⟨h, h5⟩ := band h
            obtain ⟨h, h4⟩ := band h
            obtain ⟨h, h3⟩ := band h
            obtain ⟨h1, h2⟩ := band h
            exact (s_lrg O G h1 (bdec h2) h3 h4 (bdec h5) h6 (sE O a G h7).se (sE O b G h8).se h9 h10).x
          · exact Bool.noConfusion h
        | [], _, h => exact Bool.noConfusion h
        | _ :: _ :: _, _, h => exact Bool.noConfusion h
        | [_], _ :: _, h => exact Bool.noConfusion h
      | _ => exact Bool.noConfusion h
    | _ => exact Bool.noConfusion h
  | .lrg1 t a, sc, e, E, X, G, h => by
    cases e with
    | Call f as ks pos => cases f with
      | Name f p =>
        match as, ks, h with
        | [z], [], h =>
          have h : (match rgArg z with
            | some (g, [x]) => isGl sc f && decide (f = (if t then "tuple" else "list")) && Γ.fr.contains f && isGl sc g && decide (g = "range") && Γ.fr.contains g && chkE Γ N a sc x && notStar x
            | _ => false) = true := h
          split at h
          · rename_i g x hz
            obtain ⟨p2, pos2, rfl⟩ := rgArg_eq hz
            obtain ⟨h, h8⟩ := band h
            obtain ⟨h, h7⟩ := band h
            obtain ⟨h, h6⟩ := band h
            obtain ⟨h, h5⟩ := band h
            obtain ⟨h, h4⟩ := band h
            obtain ⟨h, h3⟩ := band h
            obtain ⟨h1, h2⟩ := band h
            exact (s_lrg1 O G h1 (bdec h2) h3 h4 (bdec h5) h6 (sE O a G h7).se h8).x
          · exact Bool.noConfusion h
        | [], _, h => exact Bool.noConfusion h
        | _ :: _ :: _, _, h => exact Bool.noConfusion h
        | [_], _ :: _, h => exact Bool.noConfusion h
      | _ => exact Bool.noConfusion h
    | _ => exact Bool.noConfusion h
  | .rgv1 a, sc, e, E, X, G, h => by
    cases e with
    | Call f as ks pos => cases f with
      | Name f p =>
        match as, ks, h with
        | [x], [], h =>
          obtain ⟨h, h5⟩ := band h
          obtain ⟨h, h4⟩ := band h
          obtain ⟨h, h3⟩ := band h
          obtain ⟨h1, h2⟩ := band h
          exact (s_rgv1 O G h1 (bdec h2) h3 (sE O a G h4).se h5).x
        | [], _, h => exact Bool.noConfusion h
        | _ :: _ :: _, _, h => exact Bool.noConfusion h
        | [_], _ :: _, h => exact Bool.noConfusion h
      | _ => exact Bool.noConfusion h
    | _ => exact Bool.noConfusion h
  | .rgv2 a b, sc, e, E, X, G, h => by
    cases e with
    | Call f as ks pos => cases f with
      | Name f p =>
        match as, ks, h with
        | [x, y], [], h =>
          obtain ⟨h, h7⟩ := band h
          obtain ⟨h, h6⟩ := band h
          obtain ⟨h, h5⟩ := band h
          obtain ⟨h, h4⟩ := band h
          obtain ⟨h, h3⟩ := band h
          obtain ⟨h1, h2⟩ := band h
          exact (s_rgv2 O G h1 (bdec h2) h3 (sE O a G h4).se (sE O b G h5).se h6 h7).x
        | [], _, h => exact Bool.noConfusion h
        | [_], _, h => exact Bool.noConfusion h
        | _ :: _ :: _ :: _, _, h => exact Bool.noConfusion h
        | [_, _], _ :: _, h => exact Bool.noConfusion h
      | _ => exact Bool.noConfusion h
    | _ => exact Bool.noConfusion h
  | .lamv _ _, sc, e, E, X, G, h => by cases e <;> exact Bool.noConfusion h
  | .sset a, sc, e, E, X, G, h => by
    have h : (match setArg e with
      | some (f, g, x) => isGl sc f && decide (f = "sorted") && Γ.fr.contains f && isGl sc g && decide (g = "set") && Γ.fr.contains g && notStar x && chkE Γ N a sc x
      | none => false) = true := h
    split at h
    · rename_i f g x hk
      obtain ⟨p, p2, pos2, pos, rfl⟩ := setArg_eq hk
      obtain ⟨h, h8⟩ := band h
      obtain ⟨h, h7⟩ := band h
      obtain ⟨h, h6⟩ := band h
      obtain ⟨h, h5⟩ := band h
      obtain ⟨h, h4⟩ := band h
      obtain ⟨h, h3⟩ := band h
      obtain ⟨h1, h2⟩ := band h
      exact (s_sset O G h1 (bdec h2) h3 h4 (bdec h5) h6 h7 (sE O a G h8).se).x
    · exact Bool.noConfusion h
  | .sortk i cap m a, sc, e, E, X, G, h => by
    have h : (match keyArg e with
      | some (f, x, kn, params, body, scope) => isGl sc f && decide (f = "sorted") && decide (kn = "key") && Γ.fr.contains f && notStar x && chkE Γ N a sc x && ownSc N sc && N.contains ("<lambda>" : Str) && lamPB sc scope (parOf params) && onePar params && !ownSc N scope && decide (N[i]? = some (parOf params)) && !isB m && chkE Γ N m scope body
      | none => false) = true := h
    split at h
    · rename_i f x kn params body scope hk
      obtain ⟨p, lpos, kpos, pos, rfl⟩ := keyArg_eq hk
      obtain ⟨h, h14⟩ := band h
      obtain ⟨h, h13⟩ := band h
      obtain ⟨h, h12⟩ := band h
      obtain ⟨h, h11⟩ := band h
      obtain ⟨h, h10⟩ := band h
      obtain ⟨h, h9⟩ := band h
      obtain ⟨h, h8⟩ := band h
      obtain ⟨h, h7⟩ := band h
      obtain ⟨h, h6⟩ := band h
      obtain ⟨h, h5⟩ := band h
      obtain ⟨h, h4⟩ := band h
      obtain ⟨h, h3⟩ := band h
      obtain ⟨h1, h2⟩ := band h
      exact (s_sortk O G h1 (bdec h2) (bdec h3) h4 h5 (sE O a G h6).se h7 h8 h9 h10 (bnot h11) (bdec h12) fun X' E' G' => (sE O m G' h14).se.f (bnot h13)).x
    · exact Bool.noConfusion h
  | .mink i cap m a, sc, e, E, X, G, h => by
    have h : (match keyArg e with
      | some (f, x, kn, params, body, scope) => isGl sc f && decide (f = "min") && decide (kn = "key") && Γ.fr.contains f && !isB a && notStar x && chkE Γ N a sc x && ownSc N sc && N.contains ("<lambda>" : Str) && lamPB sc scope (parOf params) && onePar params && !ownSc N scope && decide (N[i]? = some (parOf params)) && !isB m && chkE Γ N m scope body
      | none => false) = true := h
    split at h
    · rename_i f x kn params body scope hk
      obtain ⟨p, lpos, kpos, pos, rfl⟩ := keyArg_eq hk
      obtain ⟨h, h15⟩ := band h
      obtain ⟨h, h14⟩ := band h
      obtain ⟨h, h13⟩ := band h
      obtain ⟨h, h12⟩ := band h
      obtain ⟨h, h11⟩ := band h
      obtain ⟨h, h10⟩ := band h
      obtain ⟨h, h9⟩ := band h
      obtain ⟨h, h8⟩ := band h
      obtain ⟨h, h7⟩ := band h
      obtain ⟨h, h6⟩ := band h
      obtain ⟨h, h5⟩ := band h
      obtain ⟨h, h4⟩ := band h
      obtain ⟨h, h3⟩ := band h
      obtain ⟨h1, h2⟩ := band h
      exact (s_mink O G h1 (bdec h2) (bdec h3) h4 (bnot h5) h6 (sE O a G h7).se h8 h9 h10 h11 (bnot h12) (bdec h13) fun X' E' G' => (sE O m G' h15).se.f (bnot h14)).x
    · exact Bool.noConfusion h
  | .heard tb e1, sc, e, E, X, G, h => by
    obtain ⟨x, p, params, body, scope, lpos, pos, rfl, h⟩ := heard_shape h
    obtain ⟨h, h9⟩ := band h
    obtain ⟨h, h8⟩ := band h
    obtain ⟨h, h7⟩ := band h
    obtain ⟨h, h6⟩ := band h
    obtain ⟨h, h5⟩ := band h
    obtain ⟨h, h4⟩ := band h
    obtain ⟨h, h3⟩ := band h
    obtain ⟨h1, h2⟩ := band h
    exact (SE.ofN (pe_heard O G (bdec h2) h1 h3 h4 h5 h6 h7 fun X' E' G' => (sE O e1 G' h9).se.f (bnot h8))).x
  | .vals a, sc, e, E, X, G, h => by
    obtain ⟨f, p, x, nm, apos, cpos, pos, rfl, h⟩ := vals_shape h
    obtain ⟨h, h7⟩ := band h
    obtain ⟨h, h6⟩ := band h
    obtain ⟨h, h5⟩ := band h
    obtain ⟨h, h4⟩ := band h
    obtain ⟨h, h3⟩ := band h
    obtain ⟨h1, h2⟩ := band h
    exact (s_vals O G h1 (bdec h2) h3 (bdec h4) (sE O a G h5).se h6 h7).x
  | .dc mk mv tg it, sc, e, E, X, G, h => by
    obtain ⟨kx, vx, t, i, z, scope, pos, rfl, h⟩ := dc_shape h
    obtain ⟨hh, h0⟩ := band h
    obtain rfl := bdec h0
    obtain ⟨hh, h8⟩ := band hh
    obtain ⟨hh, h7⟩ := band hh
    obtain ⟨hh, h6⟩ := band hh
    obtain ⟨hh, h5⟩ := band hh
    obtain ⟨hh, h4⟩ := band hh
    obtain ⟨hh, h3⟩ := band hh
    obtain ⟨hh, h2⟩ := band hh
    obtain ⟨hn, h1⟩ := band hh
    obtain ⟨y1, y2⟩ := sI O it tg false (t := t) G h1 (tg_tup h2) (fun z => Bool.noConfusion z)
    exact (SE.ofD (pe_dc_t G (bnot (band hn).1) (band hn).2 y1 h2 h3 (bdec h4) (fun X' G' => (sE O mk G' h7).se.f (bnot h5)) (fun X' G' => (sE O mv G' h8).se.f (bnot h6)) y2)).x
theorem sEs (O : Gok c Γ cf k) : ∀ (ms : Es) {sc : Scope} {es : List Expr} {E : XK} {X : Cx}, GX c E N k sc X → chkEs Γ N ms sc es = true → AllE c cf E X ms es
  | .nil, sc, es, E, X, G, h => by
    cases es with
    | nil => trivial
    | cons _ _ => exact Bool.noConfusion h
  | .cons m ms, sc, es, E, X, G, h => by
    cases es with
    | nil => exact Bool.noConfusion h
    | cons e es =>
      obtain ⟨h, h3⟩ := band h
      obtain ⟨h1, h2⟩ := band h
      exact ⟨h1, (sE O m G h2).se, sEs O ms G h3⟩
theorem sI (O : Gok c Γ cf k) : ∀ (it : Mn.It) (tg : Tg) (fz : Bool) {t : Expr} {sc : Scope} {e : Expr} {E : XK} {X : Cx}, GX c E N k sc X → chkI Γ N it tg sc e = true → (∀ is, tg = .tp is → ∃ es z p, t = .Tuple es z p) → (fz = true → itB it = false) → PI X t e (tI c cf E fz it) ∧ ∀ x, foldedSetIterable e X.env x = pure x
  | .val m, tg, fz, t, sc, e, E, X, G, h, ht, hz => ⟨si_val (sE O m G (band h).1).se hz, not_set (band h).2⟩
  | .rng1 a, tg, fz, t, sc, e, E, X, G, h, ht, hz => by
    cases e with
    | Call g as ks pos => cases g with
      | Name g p =>
        match as, ks, h with
        | [x], [], h =>
          obtain ⟨h, h5⟩ := band h
          obtain ⟨h, h4⟩ := band h
          obtain ⟨h, h3⟩ := band h
          obtain ⟨h1, h2⟩ := band h
          exact ⟨si_rng1 O G h1 (bdec h2) h3 (sE O a G h4).se h5, not_set rfl⟩
        | [], _, h => exact Bool.noConfusion h
        | _ :: _ :: _, _, h => exact Bool.noConfusion h
        | [_], _ :: _, h => exact Bool.noConfusion h
      | _ => exact Bool.noConfusion h
    | _ => exact Bool.noConfusion h
  | .rng2 a b, tg, fz, t, sc, e, E, X, G, h, ht, hz => by
    cases e with
    | Call g as ks pos => cases g with
      | Name g p =>
        match as, ks, h with
        | [x, y], [], h =>
          obtain ⟨h, h7⟩ := band h
          obtain ⟨h, h6⟩ := band h
          obtain ⟨h, h5⟩ := band h
          obtain ⟨h, h4⟩ := band h
          obtain ⟨h, h3⟩ := band h
          obtain ⟨h1, h2⟩ := band h
          exact ⟨si_rng2 O G h1 (bdec h2) h3 (sE O a G h4).se (sE O b G h5).se h6 h7, not_set rfl⟩
        | [], _, h => exact Bool.noConfusion h
        | [_], _, h => exact Bool.noConfusion h
        | _ :: _ :: _ :: _, _, h => exact Bool.noConfusion h
        | [_, _], _ :: _, h => exact Bool.noConfusion h
      | _ => exact Bool.noConfusion h
    | _ => exact Bool.noConfusion h
  | .rngd a b, tg, fz, t, sc, e, E, X, G, h, ht, hz => by
    obtain ⟨f, p, x, y, j, p1, p2, pos, rfl, h⟩ := rngd_shape h
    obtain ⟨h, h7⟩ := band h
    obtain ⟨h, h6⟩ := band h
    obtain ⟨h, h5⟩ := band h
    obtain ⟨h, h4⟩ := band h
    obtain ⟨h, h3⟩ := band h
    obtain ⟨h1, h2⟩ := band h
    exact ⟨si_rngd O G h1 (bdec h2) h3 (sE O a G h4).se (sE O b G h5).se h6 h7, not_set rfl⟩
  | .enum a, tg, fz, t, sc, e, E, X, G, h, ht, hz => by
    cases tg with
    | nm _ => cases e <;> exact Bool.noConfusion h
    | tp is =>
      obtain ⟨es, z, p', rfl⟩ := ht is rfl
      cases e with
      | Call g as ks pos => cases g with
        | Name g p =>
          match as, ks, h with
          | [x], [], h =>
            obtain ⟨h, h5⟩ := band h
            obtain ⟨h, h4⟩ := band h
            obtain ⟨h, h3⟩ := band h
            obtain ⟨h1, h2⟩ := band h
            exact ⟨si_enum O G h1 (bdec h2) h3 (sE O a G h4).se h5 hz, not_set rfl⟩
          | [], _, h => exact Bool.noConfusion h
          | _ :: _ :: _, _, h => exact Bool.noConfusion h
          | [_], _ :: _, h => exact Bool.noConfusion h
        | _ => exact Bool.noConfusion h
      | _ => exact Bool.noConfusion h
  | .zip a b, tg, fz, t, sc, e, E, X, G, h, ht, hz => by
    cases tg with
    | nm _ => cases e <;> exact Bool.noConfusion h
    | tp is =>
      obtain ⟨es, z, p', rfl⟩ := ht is rfl
      cases e with
      | Call g as ks pos => cases g with
        | Name g p =>
          match as, ks, h with
          | [x, y], [], h =>
            obtain ⟨h, h7⟩ := band h
            obtain ⟨h, h6⟩ := band h
            obtain ⟨h, h5⟩ := band h
            obtain ⟨h, h4⟩ := band h
            obtain ⟨h, h3⟩ := band h
            obtain ⟨h1, h2⟩ := band h
            exact ⟨si_zip O G h1 (bdec h2) h3 (sE O a G h4).se (sE O b G h5).se h6 h7 (fun z => by simpa [itB] using hz z), not_set rfl⟩
          | [], _, h => exact Bool.noConfusion h
          | [_], _, h => exact Bool.noConfusion h
          | _ :: _ :: _ :: _, _, h => exact Bool.noConfusion h
          | [_, _], _ :: _, h => exact Bool.noConfusion h
        | _ => exact Bool.noConfusion h
      | _ => exact Bool.noConfusion h
  | .zipm a b, tg, fz, t, sc, e, E, X, G, h, ht, hz => by
    cases tg with
    | nm _ => cases e <;> exact Bool.noConfusion h
    | tp is =>
      obtain ⟨es, z, p', rfl⟩ := ht is rfl
      cases e with
      | Call g as ks pos => cases g with
        | Name g p =>
          match as, ks, h with
          | [x, y], [], h =>
            obtain ⟨h, h7⟩ := band h
            obtain ⟨h, h6⟩ := band h
            obtain ⟨h, h5⟩ := band h
            obtain ⟨h, h4⟩ := band h
            obtain ⟨h, h3⟩ := band h
            obtain ⟨h1, h2⟩ := band h
            exact ⟨si_zipm O G h1 (bdec h2) h3 (sE O a G h4).se (sE O b G h5).se h6 h7 (fun z => by simpa [itB] using hz z), not_set rfl⟩
          | [], _, h => exact Bool.noConfusion h
          | [_], _, h => exact Bool.noConfusion h
          | _ :: _ :: _ :: _, _, h => exact Bool.noConfusion h
          | [_, _], _ :: _, h => exact Bool.noConfusion h
        | _ => exact Bool.noConfusion h
      | _ => exact Bool.noConfusion h
  | .items a, tg, fz, t, sc, e, E, X, G, h, ht, hz => by
    cases tg with
    | nm i => cases e <;> exact Bool.noConfusion h
    | tp is =>
      obtain ⟨es, z, p, rfl⟩ := ht is rfl
      cases e with
      | Call f as ks pos => cases f with
        | Attribute x nm apos =>
          match as, ks, h with
          | [], [], h =>
            obtain ⟨h, h5⟩ := band h
            obtain ⟨h, h4⟩ := band h
            obtain ⟨h, h3⟩ := band h
            obtain ⟨h1, h2⟩ := band h
            exact ⟨si_items (bdec h1) (sE O a G h2).se (bnot h3) h4 h5, not_set rfl⟩
          | _ :: _, _, h => exact Bool.noConfusion h
          | [], _ :: _, h => exact Bool.noConfusion h
        | _ => exact Bool.noConfusion h
      | _ => exact Bool.noConfusion h
end
theorem sDm (O : Gok c Γ cf k) {m : Mn.E} {sc : Scope} {e : Expr} {E : XK} {X : Cx} (G : GX c E N k sc X) (hd : isDm m = true) (h : chkE Γ N m sc e = true) : PE X e (tD c cf E m) := by
  cases m with
  | dnew t =>
    cases e with
    | Dict ks vs pos =>
      match ks, vs, h with
      | [], [], h => exact pe_dnew_t
      | [], _ :: _, h => exact Bool.noConfusion h
      | _ :: _, _, h => exact Bool.noConfusion h
    | _ => exact Bool.noConfusion h
  | ddisp t a b =>
    cases e with
    | Dict ks vs pos =>
      match ks, vs, h with
      | [some x], [y], h =>
        obtain ⟨h, h5⟩ := band h
        obtain ⟨h, h4⟩ := band h
        obtain ⟨h2, h3⟩ := band h
        exact pe_ddisp_any (by have := G.room.un; omega) (sE O a G h4).se (sE O b G h5).se (bnot h2) (bnot h3)
      | [], _, h => exact Bool.noConfusion h
      | [none], _, h => exact Bool.noConfusion h
      | [some _], [], h => exact Bool.noConfusion h
      | [some _], _ :: _ :: _, h => exact Bool.noConfusion h
      | none :: _ :: _, _, h => exact Bool.noConfusion h
      | some _ :: _ :: _, _, h => exact Bool.noConfusion h
    | _ => exact Bool.noConfusion h
  | dc mk mv tg it =>
    obtain ⟨kx, vx, t, i, z, scope, pos, rfl, h⟩ := dc_shape h
    obtain ⟨hh, h0⟩ := band h
    obtain rfl := bdec h0
    obtain ⟨hh, h8⟩ := band hh
    obtain ⟨hh, h7⟩ := band hh
    obtain ⟨hh, h6⟩ := band hh
    obtain ⟨hh, h5⟩ := band hh
    obtain ⟨hh, h4⟩ := band hh
    obtain ⟨hh, h3⟩ := band hh
    obtain ⟨hh, h2⟩ := band hh
    obtain ⟨hn, h1⟩ := band hh
    obtain ⟨y1, y2⟩ := sI O it tg false (t := t) G h1 (tg_tup h2) (fun z => Bool.noConfusion z)
    exact pe_dc_t G (bnot (band hn).1) (band hn).2 y1 h2 h3 (bdec h4) (fun X' G' => (sE O mk G' h7).se.f (bnot h5)) (fun X' G' => (sE O mv G' h8).se.f (bnot h6)) y2
  | _ => exact Bool.noConfusion hd
end
end Mn

namespace Mn
open PySem L2 PySem.Spec PyProof.Rows
section
variable {c : Cn} {Γ : Gam} {cf : Nat → List D → Hq → R D} {k : Nat} {E : XK} {N : List Str} {sc : Scope} {X : Cx} {W0 : Wd} {H0 : Hp} {wf : Nat}
/-- where a def's body stands: W0, H0 the world at its entry -/
structure At (c : Cn) (W0 : Wd) (H0 : Hp) (W : Wd) (H : Hp) (h : Hq) (σ : L2.St) (ρ : Env) : Prop where
  ext : Ext W0 H0 W H
  ok : Hok c.fa W H h
  sr : Sr c.fa W H σ ρ
  fr : ∀ (i : Nat) (d : D) (p : Addr), ρ[i]? = some (.ow d) → σ[i]? = some (some (.ref p)) → H0 p = none
theorem At.next {W W' : Wd} {H H' : Hp} {h h' : Hq} {σ : L2.St} {ρ : Env} (a : At c W0 H0 W H h σ ρ) (e : Ext W H W' H') (k : Hok c.fa W' H' h') : At c W0 H0 W' H' h' σ ρ := ⟨a.ext.trans e, k, a.sr.ext e, a.fr⟩
theorem Sl.set_ow {ρ : Env} {i j : Nat} {s : Sl} {d : D} (h : (ρ.set i s)[j]? = some (.ow d)) (hs : ∀ e, s ≠ .ow e) : i ≠ j ∧ ρ[j]? = some (.ow d) := by
  have hj : i ≠ j := fun e => by
    subst e
    have hl : i < ρ.length := by
      have := (List.getElem?_eq_some_iff.mp h).1
      rwa [List.length_set] at this
    rw [List.getElem?_set_self hl] at h
    cases h
    exact hs _ rfl
  rw [List.getElem?_set_ne hj] at h
  exact ⟨hj, h⟩
theorem At.set {W : Wd} {H : Hp} {h : Hq} {σ : L2.St} {ρ : Env} {v : V} {d : D} (a : At c W0 H0 W H h σ ρ) (r : Rep c.fa W v d) (i : Nat) : At c W0 H0 W H h (σ.set i (some v)) (ρ.set i (.fz d)) := by
  refine ⟨a.ext, a.ok, a.sr.set r i, fun j e p h1 h2 => ?_⟩
  obtain ⟨hj, h1⟩ := Sl.set_ow h1 (fun _ => by simp)
  rw [List.getElem?_set_ne hj] at h2
  exact a.fr j e p h1 h2
theorem At.no {W : Wd} {H : Hp} {h : Hq} {σ : L2.St} {ρ : Env} (a : At c W0 H0 W H h σ ρ) (i : Nat) : At c W0 H0 W H h σ (ρ.set i .no) := by
  have z := a.sr.no i (σ[i]?.getD none)
  have e : σ.set i (σ[i]?.getD none) = σ := by
    refine List.ext_getElem? fun j => ?_
    rw [List.getElem?_set]
    by_cases hj : i = j
    · subst hj
      rw [if_pos rfl]
      by_cases hl : i < σ.length
      · rw [if_pos hl, List.getElem?_eq_getElem hl]; rfl
      · rw [if_neg hl, List.getElem?_eq_none (by omega)]
    · rw [if_neg hj]
  rw [e] at z
  refine ⟨a.ext, a.ok, z, fun j e p h1 h2 => ?_⟩
  obtain ⟨hj, h1⟩ := Sl.set_ow h1 (fun _ => by simp)
  exact a.fr j e p h1 h2
/-- a list, a dict of one's own put into a slot -/
theorem At.ownG {W : Wd} {H H1 : Hp} {W1 : Wd} {h h1 : Hq} {σ : L2.St} {ρ : Env} {p : Addr} {dd : D} (a : At c W0 H0 W H h σ ρ) (e : Ext W H W1 H1) (k : Hok c.fa W1 H1 h1) (q1 : H p = none) (q2 : W1.F p = none) (q3 : p ∉ W1.C) (q4 : OwnAt c.fa W1 H1 p dd) (i : Nat) : At c W0 H0 W1 H1 h1 (σ.set i (some (.ref p))) (ρ.set i (.ow dd)) := by
  have b := a.next e k
  have hp0 : H0 p = none := by
    cases u : H0 p with
    | none => rfl
    | some u' => exact absurd q1 (a.ext.t p (by rw [u]; simp))
  have key : ∀ {j : Nat} {d : D}, (ρ.set i (.ow dd))[j]? = some (.ow d) → (i = j ∧ d = dd ∧ i < ρ.length) ∨ (i ≠ j ∧ ρ[j]? = some (.ow d)) := fun {j d} h => by
    by_cases hj : i = j
    · subst hj
      have hl : i < ρ.length := by
        have := (List.getElem?_eq_some_iff.mp h).1
        rwa [List.length_set] at this
      rw [List.getElem?_set_self hl] at h
      cases h
      exact .inl ⟨rfl, rfl, hl⟩
    · rw [List.getElem?_set_ne hj] at h
      exact .inr ⟨hj, h⟩
  have old : ∀ {j : Nat} {d : D} {p' : Addr}, ρ[j]? = some (.ow d) → σ[j]? = some (some (.ref p')) → p' ≠ p := fun {j d p'} h1 h2 z => by
    obtain ⟨p2, g1, _, _, g4⟩ := a.sr.ow j d h1
    rw [h2] at g1
    cases g1
    obtain ⟨u, hu⟩ := g4.there
    rw [z, q1] at hu
    cases hu
  refine ⟨b.ext, k, ⟨by rw [List.length_set, List.length_set]; exact b.sr.len, fun j d h => ?_, fun j d h => ?_, fun j l p' d d' h1 h2 h3 h4 => ?_⟩, fun j d p' h1 h2 => ?_⟩
  · by_cases hj : i = j
    · subst hj
      have hl : i < ρ.length := by
        have := (List.getElem?_eq_some_iff.mp h).1
        rwa [List.length_set] at this
      rw [List.getElem?_set_self hl] at h
      cases h
    · rw [List.getElem?_set_ne hj] at h ⊢
      exact b.sr.fz j d h
  · rcases key h with ⟨rfl, rfl, hl⟩ | ⟨hj, h⟩
    · exact ⟨p, List.getElem?_set_self (by rw [a.sr.len]; exact hl), q2, q3, q4⟩
    · rw [List.getElem?_set_ne hj]
      exact b.sr.ow j d h
  · rcases key h1 with ⟨rfl, rfl, hl⟩ | ⟨hj, h1⟩
    · rcases key h2 with ⟨rfl, _, _⟩ | ⟨hl2, h2⟩
      · rfl
      · rw [List.getElem?_set_self (by rw [a.sr.len]; exact hl)] at h3
        cases h3
        rw [List.getElem?_set_ne hl2] at h4
        exact absurd rfl (old h2 h4)
    · rw [List.getElem?_set_ne hj] at h3
      rcases key h2 with ⟨rfl, _, hl⟩ | ⟨hl2, h2⟩
      · rw [List.getElem?_set_self (by rw [a.sr.len]; exact hl)] at h4
        cases h4
        exact absurd rfl (old h1 h3)
      · rw [List.getElem?_set_ne hl2] at h4
        exact b.sr.ne j l p' d d' h1 h2 h3 h4
  · rcases key h1 with ⟨rfl, rfl, hl⟩ | ⟨hj, h1⟩
    · rw [List.getElem?_set_self (by rw [a.sr.len]; exact hl)] at h2
      cases h2
      exact hp0
    · rw [List.getElem?_set_ne hj] at h2
      exact a.fr j d p' h1 h2
/-- a list of one's own put into a slot -/
theorem At.own {W : Wd} {H H1 : Hp} {W1 : Wd} {h h1 : Hq} {σ : L2.St} {ρ : Env} {v : V} {ds : List D} (a : At c W0 H0 W H h σ ρ) (e : Ext W H W1 H1) (k : Hok c.fa W1 H1 h1) (r : ResN c.fa W H W1 H1 v (.lst ds)) (i : Nat) : At c W0 H0 W1 H1 h1 (σ.set i (some v)) (ρ.set i (.ow (.lst ds))) := by
  rcases r with ⟨_, z⟩ | ⟨p, rfl, q1, q2, q3, q4⟩
  · exact Bool.noConfusion z
  exact a.ownG e k q1 q2 q3 (.inl q4) i
/-- what is one's own is let be from now on: a dict's object is locked -/
theorem At.frz {W : Wd} {H : Hp} {h : Hq} {σ : L2.St} {ρ : Env} (a : At c W0 H0 W H h σ ρ) (i : Nat) : (∃ W', LeW W W' ∧ At c W0 H0 W' H h σ (fzS i ρ)) ∨ ∃ p u, H p = some u ∧ Mut (some u) ∧ ∀ o : Obj, ∃ W', LeW W W' ∧ At c W0 H0 W' (upd H p (.frz o u)) h σ (fzS i ρ) := by
  unfold fzS
  split
  · rename_i d hd
    obtain ⟨p, g1, g2, g3, og⟩ := a.sr.ow i d hd
    have hp0 := a.fr i _ p hd g1
    have hl : i < ρ.length := (List.getElem?_eq_some_iff.mp hd).1
    have key : ∀ (W' : Wd) (H' : Hp), (∀ b o, W.F b = some o → W'.F b = some o) → W'.C = W.C → (∀ b, b ≠ p → W'.F b = W.F b) → (∀ b, b ≠ p → H' b = H b) → Rep c.fa W' (.ref p) d → Ext W0 H0 W' H' → Hok c.fa W' H' h → At c W0 H0 W' H' h σ (ρ.set i (.fz d)) := fun W' H' hf hC hF hH rp e1 k1 => by
      have le : LeW W W' := ⟨hf, [], by rw [hC]; simp⟩
      refine ⟨e1, k1, ⟨by rw [List.length_set]; exact a.sr.len, fun j d h => ?_, fun j d h => ?_, fun j l p' d d' h1 h2 => ?_⟩, fun j d p' h1 => ?_⟩
      · by_cases hj : i = j
        · subst hj
          rw [List.getElem?_set_self hl] at h
          cases h
          exact ⟨_, g1, rp⟩
        · rw [List.getElem?_set_ne hj] at h
          obtain ⟨v, h1, h2⟩ := a.sr.fz j d h
          exact ⟨v, h1, le.rep h2⟩
      · obtain ⟨hj, h⟩ := Sl.set_ow h (fun _ => by simp)
        obtain ⟨p', f1, f2, f3, f4⟩ := a.sr.ow j d h
        have hne : p' ≠ p := fun z => hj (a.sr.ne i j p _ _ hd h g1 (by rw [z] at f1; exact f1))
        refine ⟨p', f1, by rw [hF p' hne]; exact f2, by rw [hC]; exact f3, ?_⟩
        rcases f4 with ⟨es, us, rfl, f4, f5⟩ | ⟨u, f4, f5⟩
        · exact .inl ⟨es, us, rfl, by rw [hH p' hne]; exact f4, le.repL f5⟩
        · exact .inr ⟨u, by rw [hH p' hne]; exact f4, f5.mono le.1 le.cells⟩
      · obtain ⟨_, h1⟩ := Sl.set_ow h1 (fun _ => by simp)
        obtain ⟨_, h2⟩ := Sl.set_ow h2 (fun _ => by simp)
        exact a.sr.ne j l p' d d' h1 h2
      · obtain ⟨_, h1⟩ := Sl.set_ow h1 (fun _ => by simp)
        exact a.fr j d p' h1
    rcases og with ⟨ds, vs, rfl, g4, g5⟩ | ⟨u, g4, g5⟩
    · left
      obtain ⟨e1, k1⟩ := put_ext a.ext a.ok hp0 g2 g3 g4
      have hf : ∀ b o, W.F b = some o → (W.put p (.lst vs)).F b = some o := fun b o hb => by
        show upd W.F p (.lst vs) b = some o
        rw [upd_ne (ne_of_none hb g2)]; exact hb
      have le : LeW W (W.put p (.lst vs)) := ⟨hf, [], by show W.C = _; simp⟩
      exact ⟨_, le, key _ _ hf rfl (fun b hb => by show upd W.F p _ b = _; rw [upd_ne hb]) (fun _ _ => rfl) (.lst (by show upd W.F p _ p = _; rw [upd_same]) (le.repL g5)) e1 k1⟩
    · right
      refine ⟨p, u, g4, g5.mut, fun o => ?_⟩
      obtain ⟨e1, k1, rp, hf⟩ := lock_ext (o := o) a.ext a.ok hp0 g2 g3 g4 g5
      exact ⟨_, ⟨hf, [], by show W.C = _; simp⟩, key _ _ hf rfl (fun b hb => by show upd W.F p _ b = _; rw [upd_ne hb]) (fun b hb => upd_ne hb) rp e1 k1⟩
  · exact .inl ⟨W, .refl W, a⟩
/-! ### what a statement reaches -/
def Po (c : Cn) (W0 : Wd) (H0 : Hp) (D : Ends) (W : Wd) (h : Hq) : Fl → Prop
  | .nx ρ => ∀ W' H' σ', LeW W W' → At c W0 H0 W' H' h σ' ρ → D.nx σ' H'
  | .bk ρ => ∀ W' H' σ', LeW W W' → At c W0 H0 W' H' h σ' ρ → D.bk σ' H'
  | .ct ρ => ∀ W' H' σ', LeW W W' → At c W0 H0 W' H' h σ' ρ → D.ct σ' H'
  | .rt d => ∀ W' H' v, LeW W W' → Ext W0 H0 W' H' → Hok c.fa W' H' h → Rep c.fa W' v d → D.rt v H'
theorem Po.mono {D : Ends} {W W1 : Wd} {h : Hq} {fl : Fl} (le : LeW W W1) (p : Po c W0 H0 D W h fl) : Po c W0 H0 D W1 h fl := by
  cases fl with
  | nx ρ => exact fun W' H' σ' l a => p W' H' σ' (le.trans l) a
  | bk ρ => exact fun W' H' σ' l a => p W' H' σ' (le.trans l) a
  | ct ρ => exact fun W' H' σ' l a => p W' H' σ' (le.trans l) a
  | rt d => exact fun W' H' v l e k r => p W' H' v (le.trans l) e k r
def tS (c : Cn) (cf : Nat → List D → Hq → R D) (E : XK) (wf : Nat) (W0 : Wd) (H0 : Hp) (m : Mn.S) : TS := fun D σ H => ∃ W ρ h, At c W0 H0 W H h σ ρ ∧ Gd c E W0 H0 (exS cf wf m ρ h) fun fl h' => Po c W0 H0 D W h' fl
def tSs (c : Cn) (cf : Nat → List D → Hq → R D) (E : XK) (wf : Nat) (W0 : Wd) (H0 : Hp) (m : Ss) : TS := fun D σ H => ∃ W ρ h, At c W0 H0 W H h σ ρ ∧ Gd c E W0 H0 (exSs cf wf m ρ h) fun fl h' => Po c W0 H0 D W h' fl
theorem weakSs {sts : List Stmt} {t t' : TS} (h : PSs X sts t) (i : ∀ D σ H, t' D σ H → t D σ H) : PSs X sts t' := ⟨fun pins s σ H D I q => h.run pins s σ H D I (i D σ H q)⟩
theorem ss_nil : PSs X [] (tSs c cf E wf W0 H0 .nil) := by
  refine weakSs pss_nil fun D σ H q => ?_
  obtain ⟨W, ρ, h, a, g⟩ := q
  exact g W H σ (.refl W) a
theorem ss_cons {m : Mn.S} {ms : Ss} {st : Stmt} {sts : List Stmt} (h1 : PS X st (tS c cf E wf W0 H0 m)) (h2 : PSs X sts (tSs c cf E wf W0 H0 ms)) : PSs X (st :: sts) (tSs c cf E wf W0 H0 (.cons m ms)) := by
  refine weakSs (pss_cons h1 h2) fun D σ H q => ?_
  obtain ⟨W, ρ, h, a, g⟩ := q
  simp only [exSs] at g
  refine ⟨W, ρ, h, a, (Gd.bind g).mono fun fl h' g1 => ?_⟩
  cases fl with
  | nx ρ' => exact fun W' H' σ' le a' => ⟨W', ρ', h', a', g1.mono fun fl' h'' p => p.mono le⟩
  | bk ρ' => exact g1
  | ct ρ' => exact g1
  | rt d => exact g1
theorem ss_frz {i : Nat} {ms : Ss} {sts : List Stmt} (h2 : PSs X sts (tSs c cf E wf W0 H0 ms)) : PSs X sts (tSs c cf E wf W0 H0 (.cons (.frz i) ms)) := by
  refine ⟨fun pins s σ H D I q => ?_⟩
  obtain ⟨W, ρ, h, a, g⟩ := q
  rcases a.frz i with ⟨W', le, a'⟩ | ⟨p, u, hp, mu, z⟩
  · exact h2.run pins s σ H D I ⟨W', _, h, a', Gd.mono g fun fl' h'' p => p.mono le⟩
  · obtain ⟨od, I2⟩ := I.lock hp mu
    obtain ⟨W', le, a'⟩ := z od
    exact h2.run pins s σ _ D I2 ⟨W', _, h, a', Gd.mono g fun fl' h'' p => p.mono le⟩
theorem ss_drop {i : Nat} {ms : Ss} {sts : List Stmt} (h2 : PSs X sts (tSs c cf E wf W0 H0 ms)) : PSs X sts (tSs c cf E wf W0 H0 (.cons (.drop i) ms)) := by
  refine weakSs h2 fun D σ H q => ?_
  obtain ⟨W, ρ, h, a, g⟩ := q
  exact ⟨W, _, h, a.no i, g⟩
theorem s_noS {st : Stmt} : PS X st (tS c cf E wf W0 H0 .no) := weakS ps_never fun D σ H q => by
  obtain ⟨W, ρ, h, a, g⟩ := q
  exact g
/-- an expression read within a statement -/
theorem useF {m : Mn.E} {σ : L2.St} {H : Hp} {Q : VK} {W : Wd} {ρ : Env} {h : Hq} {α : Type} {F : D → Hq → R α} {Qf : α → Hq → Prop} (a : At c W0 H0 W H h σ ρ) (g : Gd c E W0 H0 ((evE cf m ρ h).bind F) Qf)
    (fin : ∀ d h' v H' W', Ext W H W' H' → At c W0 H0 W' H' h' σ ρ → Rep c.fa W' v d → Gd c E W0 H0 (F d h') Qf → Q v H') : tF c cf E m σ H Q :=
  ⟨W, ρ, h, a.ok, a.sr, ((Gd.bind g).ext a.ext).mono fun d h' g1 v H' W' e k r => fin d h' v H' W' e (a.next e k) r g1⟩
theorem useN {m : Mn.E} {σ : L2.St} {H : Hp} {Q : VK} {W : Wd} {ρ : Env} {h : Hq} {α : Type} {F : D → Hq → R α} {Qf : α → Hq → Prop} (a : At c W0 H0 W H h σ ρ) (g : Gd c E W0 H0 ((evE cf m ρ h).bind F) Qf)
    (fin : ∀ d h' v H' W', Ext W H W' H' → Hok c.fa W' H' h' → ResN c.fa W H W' H' v d → Gd c E W0 H0 (F d h') Qf → Q v H') : tN c cf E m σ H Q :=
  ⟨W, ρ, h, a.ok, a.sr, ((Gd.bind g).ext a.ext).mono fun d h' g1 v H' W' e k r => fin d h' v H' W' e k r g1⟩
theorem useT {m : Mn.E} {σ : L2.St} {H : Hp} {Q : Bool → Hp → Prop} {W : Wd} {ρ : Env} {h : Hq} {α : Type} {F : Bool → Hq → R α} {Qf : α → Hq → Prop} (a : At c W0 H0 W H h σ ρ) (g : Gd c E W0 H0 ((evE cf m ρ h).bind fun x h => (liftO (truthy x) h).bind F) Qf)
    (fin : ∀ b h' H' W', Ext W H W' H' → At c W0 H0 W' H' h' σ ρ → Gd c E W0 H0 (F b h') Qf → Q b H') : tT c cf E m σ H Q := by
  have g2 : Gd c E W0 H0 ((evE cf m ρ h).bind fun d h => liftO (truthy d) h) fun b h' => Gd c E W0 H0 (F b h') Qf := by
    generalize evE cf m ρ h = y at g ⊢
    cases y with
    | ok d h1 => exact Gd.bind (r := liftO (truthy d) h1) g
    | exc n d h => exact g
    | bad => exact g
  exact ⟨W, ρ, h, a.ok, a.sr, (g2.ext a.ext).mono fun b h' g1 H' W' e k => fin b h' H' W' e (a.next e k) g1⟩
end
end Mn

namespace Mn
open PySem L2 PySem.Spec PyProof.Rows
section
variable {c : Cn} {Γ : Gam} {cf : Nat → List D → Hq → R D} {k : Nat} {E : XK} {N : List Str} {sc : Scope} {X : Cx} {W0 : Wd} {H0 : Hp} {wf : Nat}
/-! ### stores into items -/
theorem repL_set {W : Wd} {vs : List V} {ds : List D} {v : V} {d : D} {i : Int} {j : Nat} (r : RepL c.fa W vs ds) (rv : Rep c.fa W v d) (h : Mn.ixN ds.length i = some j) : L2.ixN vs.length i = some j ∧ RepL c.fa W (vs.set j v) (ds.set j d) :=
  ⟨by rw [r.length]; exact h, r.set rv j⟩
theorem At.upG {W : Wd} {H : Hp} {h : Hq} {σ : L2.St} {ρ : Env} {i : Nat} {p : Addr} {d0 d1 : D} {o : HO} (a : At c W0 H0 W H h σ ρ) (hd : ρ[i]? = some (.ow d0)) (hp : σ[i]? = some (some (.ref p))) (ho : OwnAt c.fa W (upd H p o) p d1) :
    At c W0 H0 W (upd H p o) h σ (ρ.set i (.ow d1)) := by
  obtain ⟨p', g1, g2, g3, og⟩ := a.sr.ow i _ hd
  rw [hp] at g1
  cases g1
  obtain ⟨u0, g4⟩ := og.there
  have hp0 := a.fr i _ p hd hp
  obtain ⟨e1, k1⟩ := own_upd (o := o) a.ext a.ok hp0 g2 g3 g4 (og.noT _ g4)
  have hl : i < ρ.length := (List.getElem?_eq_some_iff.mp hd).1
  have key : ∀ {j : Nat} {d : D}, (ρ.set i (.ow d1))[j]? = some (.ow d) → (i = j ∧ d = d1) ∨ (i ≠ j ∧ ρ[j]? = some (.ow d)) := fun {j d} h => by
    by_cases hj : i = j
    · subst hj
      rw [List.getElem?_set_self hl] at h
      cases h
      exact .inl ⟨rfl, rfl⟩
    · rw [List.getElem?_set_ne hj] at h
      exact .inr ⟨hj, h⟩
  have had : ∀ {j : Nat} {d : D}, (ρ.set i (.ow d1))[j]? = some (.ow d) → ∃ d', ρ[j]? = some (.ow d') := fun {j d} h => by
    rcases key h with ⟨rfl, _⟩ | ⟨_, h⟩
    · exact ⟨_, hd⟩
    · exact ⟨_, h⟩
  refine ⟨e1, k1, ⟨by rw [List.length_set]; exact a.sr.len, fun j d h => ?_, fun j d h => ?_, fun j l p' d d' h1 h2 => ?_⟩, fun j d p' h1 h2 => ?_⟩
  · by_cases hj : i = j
    · subst hj
      rw [List.getElem?_set_self hl] at h
      cases h
    · rw [List.getElem?_set_ne hj] at h
      exact a.sr.fz j d h
  · rcases key h with ⟨rfl, rfl⟩ | ⟨hj, h⟩
    · exact ⟨p, hp, g2, g3, ho⟩
    · obtain ⟨p', f1, f2, f3, f4⟩ := a.sr.ow j d h
      have hne : p' ≠ p := fun z => hj (a.sr.ne i j p _ _ hd h hp (by rw [z] at f1; exact f1))
      refine ⟨p', f1, f2, f3, ?_⟩
      rcases f4 with ⟨es', us', rfl, f4, f5⟩ | ⟨u, f4, f5⟩
      · exact .inl ⟨es', us', rfl, by rw [upd_ne hne]; exact f4, f5⟩
      · exact .inr ⟨u, by rw [upd_ne hne]; exact f4, f5⟩
  · obtain ⟨_, h1⟩ := had h1
    obtain ⟨_, h2⟩ := had h2
    exact a.sr.ne j l p' _ _ h1 h2
  · obtain ⟨_, h1⟩ := had h1
    exact a.fr j _ p' h1 h2
theorem At.upOwn {W : Wd} {H : Hp} {h : Hq} {σ : L2.St} {ρ : Env} {i : Nat} {p : Addr} {ds es : List D} {us : List V} (a : At c W0 H0 W H h σ ρ) (hd : ρ[i]? = some (.ow (.lst ds))) (hp : σ[i]? = some (some (.ref p))) (r : RepL c.fa W us es) :
    At c W0 H0 W (upd H p (.lst us)) h σ (ρ.set i (.ow (.lst es))) := a.upG hd hp (.inl ⟨es, us, rfl, upd_same, r⟩)
theorem At.upCell {W : Wd} {H : Hp} {h : Hq} {σ : L2.St} {ρ : Env} {n : Nat} {p : Addr} {es : List D} {us : List V} (a : At c W0 H0 W H h σ ρ) (hp : W.C[n]? = some p) (r : RepL c.fa W us es) :
    At c W0 H0 W (upd H p (.lst us)) (h.set n (.lst es)) σ ρ := by
  have hm : p ∈ W.C := List.mem_of_getElem? hp
  have hF := (a.ok.cf p hm).1
  obtain ⟨new, q1, q2⟩ := a.ext.c
  have nt : ∀ u, H p = some u → NoT u := fun u e => by
    have hl : n < h.length := by rw [← a.ok.len]; exact (List.getElem?_eq_some_iff.mp hp).1
    cases hh : h[n] with
    | lst ds0 =>
      obtain ⟨vs, e1, _⟩ := a.ok.cell n p ds0 hp (by rw [List.getElem?_eq_getElem hl, hh])
      rw [e] at e1; cases e1; exact noT_lst
  refine ⟨⟨a.ext.f, a.ext.c, fun b o h1 h2 h3 => ?_, a.ext.n, fun b h1 => ?_, fun b y h1 h0 vs z => ?_⟩, ⟨fun b o h1 => ?_, by rw [List.length_set]; exact a.ok.len, a.ok.nd, fun i b ds h1 h2 => ?_, fun b hb => ⟨(a.ok.cf b hb).1, ?_⟩, tab_upd a.ok.tab nt, a.ok.nf⟩, ⟨a.sr.len, a.sr.fz, fun j d h => ?_, a.sr.ne⟩, a.fr⟩
  · have hne : b ≠ p := fun z => by
      subst z
      rw [q1] at hm
      rcases List.mem_append.mp hm with z | z
      · exact h2 z
      · rw [q2 b z] at h1; cases h1
    rw [upd_ne hne]; exact a.ext.k b o h1 h2 h3
  · by_cases z : b = p
    · subst z; rw [upd_same]; simp
    · rw [upd_ne z]; exact a.ext.t b h1
  · by_cases y2 : b = p
    · subst y2; rw [upd_same] at z; cases z
    · rw [upd_ne y2] at z; exact a.ext.u b y h1 h0 vs z
  · rw [upd_ne (ne_of_none h1 hF)]; exact a.ok.sub b o h1
  · by_cases hi : n = i
    · subst hi
      rw [hp] at h1
      cases h1
      have hl : n < h.length := by rw [← a.ok.len]; exact (List.getElem?_eq_some_iff.mp hp).1
      rw [List.getElem?_set_self hl] at h2
      cases h2
      exact ⟨us, upd_same, r⟩
    · rw [List.getElem?_set_ne hi] at h2
      obtain ⟨vs, e1, r1⟩ := a.ok.cell i b ds h1 h2
      have hne : b ≠ p := fun z => by
        subst z
        exact hi ((List.getElem?_inj (List.getElem?_eq_some_iff.mp hp).1 a.ok.nd).mp (hp.trans h1.symm))
      exact ⟨vs, by rw [upd_ne hne]; exact e1, r1⟩
  · by_cases z : b = p
    · subst z; rw [upd_same]; simp
    · rw [upd_ne z]; exact (a.ok.cf b hb).2
  · obtain ⟨p', f1, f2, f3, f4⟩ := a.sr.ow j d h
    have hne : p' ≠ p := fun z => f3 (z ▸ hm)
    refine ⟨p', f1, f2, f3, ?_⟩
    rcases f4 with ⟨es', us', rfl, f4, f5⟩ | ⟨u, f4, f5⟩
    · exact .inl ⟨es', us', rfl, by rw [upd_ne hne]; exact f4, f5⟩
    · exact .inr ⟨u, by rw [upd_ne hne]; exact f4, f5⟩
theorem liftI {α : Type} {o : Option α} {h : Hq} {b : α} {hh : Hq} (e : liftO o h = .ok b hh) : o = some b ∧ hh = h := by
  cases o with
  | none => cases e
  | some a => cases e; exact ⟨rfl, rfl⟩
theorem store_rule {W : Wd} {H : Hp} {h h' : Hq} {σ : L2.St} {ρ ρ' : Env} {i : Nat} {z d : D} {kv v : V} {Q : Hp → Prop} (a : At c W0 H0 W H h σ ρ) (rk : Rep c.fa W kv z) (rv : Rep c.fa W v d) (e : setI i z d ρ h = .ok ρ' h')
    (q : ∀ H', At c W0 H0 W H' h' σ ρ' → Q H') : ∃ o, σ[i]? = some (some o) ∧ rSetA o kv v H Q := by
  unfold setI at e
  split at e
  · rename_i o hd
    obtain ⟨e1, rfl⟩ := liftI e
    rw [Option.map_eq_some_iff] at e1
    obtain ⟨o', e2, rfl⟩ := e1
    obtain ⟨p, g1, g2, g3, og⟩ := a.sr.ow i _ hd
    unfold setD at e2
    split at e2
    · rename_i xs n
      obtain ⟨vs, g4, g5⟩ := og.lst
      rw [Option.map_eq_some_iff] at e2
      obtain ⟨j, e3, rfl⟩ := e2
      obtain rfl := rk.int_inv
      obtain ⟨s1, s2⟩ := repL_set g5 rv e3
      exact ⟨_, g1, .inl ⟨p, vs, n, j, rfl, rfl, g4, s1, q _ (a.upOwn hd g1 s2)⟩⟩
    · rename_i ks vs n
      split at e2
      · rename_i hlt
        cases e2
        obtain ⟨u, g4, g5⟩ := og.dct rfl
        obtain rfl := rk.int_inv
        cases u <;> first | exact False.elim g5 | skip
        rename_i kvs
        obtain ⟨o1, o2⟩ := g5
        have hlen : kvs.length = ks.length := by have := congrArg List.length o1; simpa using this
        obtain ⟨p1, p2⟩ := putK_rep (inj := (Sum.inl : Int → L2.Key)) inl_inj' (k := n) rv o1 o2
        refine ⟨_, g1, .inr ⟨p, _, rfl, .inl ⟨kvs, .inl n, g4, rfl, by rw [hlen, sizeLine_eq]; exact hlt, rfl⟩, q _ (a.upG hd g1 (.inr ⟨_, upd_same, p1, p2⟩))⟩⟩
      · cases e2
    · rename_i ks vs
      rw [Option.bind_eq_some_iff] at e2
      obtain ⟨l, hl, e2⟩ := e2
      split at e2
      · rename_i hlt
        cases e2
        obtain ⟨u, g4, g5⟩ := og.dct rfl
        obtain ⟨b, rfl, hb⟩ := keyT_rep a.ok (.inl rk) hl
        cases u <;> first | exact False.elim g5 | skip
        rename_i kvs
        obtain ⟨o1, o2⟩ := g5
        have hlen : kvs.length = ks.length := by have := congrArg List.length o1; simpa using this
        obtain ⟨p1, p2⟩ := putK_rep (inj := List.map (Sum.inl : Int → L2.Key)) inlL_inj (k := l) rv o1 o2
        refine ⟨_, g1, .inr ⟨p, _, rfl, .inr ⟨kvs, l.map Sum.inl, b, g4, rfl, hb, by rw [hlen, sizeLine_eq]; exact hlt, rfl⟩, q _ (a.upG hd g1 (.inr ⟨_, upd_same, p1, p2⟩))⟩⟩
      · cases e2
    · cases e2
  · rename_i n hd
    obtain ⟨u, g1, g2⟩ := a.sr.fz i _ hd
    cases g2 with
    | cell hc =>
      split at e
      · rename_i xs zz hx
        split at e
        · rename_i j hj
          cases e
          obtain ⟨vs, g4, g5⟩ := a.ok.cell _ _ _ hc hx
          obtain rfl := rk.int_inv
          obtain ⟨s1, s2⟩ := repL_set g5 rv hj
          exact ⟨_, g1, .inl ⟨_, vs, zz, j, rfl, rfl, g4, s1, q _ (a.upCell hc s2)⟩⟩
        · cases e
      · cases e
  · cases e
/-! ### the statements -/
def noComp : Expr → Bool
  | .ListComp _ _ _ _ => false
  | .SetComp _ _ _ _ => false
  | .DictComp _ _ _ _ _ => false
  | _ => true
theorem sw_none {v : Expr} {t : Option Expr} {l : Nat} {env : PySem.Env} (h : noComp v = true) : swapsWith v t l env = pure false := by
  cases v <;> first | rfl | exact Bool.noConfusion h
def locC (N : List Str) (sc : Scope) (i : Nat) (x : Str) : Bool := decide (N[i]? = some x) && (sc.names.lookup x == some .local || sc.names.lookup x == some .cell)
theorem t_set {i : Nat} {e : Mn.E} (hb : isB e = false) {D : Ends} {σ : L2.St} {H : Hp} (q : tS c cf E wf W0 H0 (.set i e) D σ H) : tAsg (tF c cf E e) (gName i) D σ H := by
  obtain ⟨W, ρ, h, a, g⟩ := q
  simp only [exS] at g
  exact useF a g fun d h' v H' W' e' a' r g1 => g1 W' H' _ e'.le (a'.set r i)
theorem st_set {i : Nat} {e : Mn.E} {x : Str} {v : Expr} {p pos : Pos} (G : GX c E N k sc X) (hf : FnT X sc) (h1 : locC N sc i x = true) (hb : isB e = false) (hv : SX c cf E X e v) (hs : (noComp v || isLC v) = true) : PS X (.Assign [.Name x p] v pos) (tS c cf E wf W0 H0 (.set i e)) := by
  obtain ⟨h1, h2⟩ := band h1
  have hi : X.N[i]? = some x := by rw [G.nm]; exact bdec h1
  have hN : X.N.Nodup := by rw [G.nm]; exact G.nd
  obtain ⟨f1, f2⟩ := hf x h2
  by_cases hc : noComp v = true
  · exact weakS (ps_set hN hi f1 (hv.se.f hb) (sw_none hc) f2) fun D σ H q => t_set hb q
  · have hl : isLC v = true := by
      rw [Bool.or_eq_true] at hs
      exact hs.resolve_left hc
    cases v with
    | ListComp elt gs scope pos' =>
      have e : swapsWith (.ListComp elt gs scope pos') (some (.Name x p)) pos.line X.env = pure (X.env.blockKind == .function && X.env.kindOf x == some .local && p.line == pos'.line && !(scope.names.any fun (n, k) => n == x && (k == .local || k == .cell))) := rfl
      by_cases hz : (X.env.blockKind == .function && X.env.kindOf x == some .local && p.line == pos'.line && !(scope.names.any fun (n, k) => n == x && (k == .local || k == .cell))) = true
      · rw [hz] at e
        have hloc : X.env.scope.names.lookup x = some .local := by
          have z := (band (band (band hz).1).1).2
          exact (beq_iff_eq.mp z)
        refine weakS (hv.ls rfl i x p pos hi hloc e) fun D σ H q => ?_
        have z := t_set hb q
        exact tF_of_tN z
      · have hz' : (X.env.blockKind == .function && X.env.kindOf x == some .local && p.line == pos'.line && !(scope.names.any fun (n, k) => n == x && (k == .local || k == .cell))) = false := (Bool.not_eq_true _).mp hz
        rw [hz'] at e
        exact weakS (ps_set hN hi f1 (hv.se.f hb) e f2) fun D σ H q => t_set hb q
    | _ => exact Bool.noConfusion hl
theorem t_own {i : Nat} {e : Mn.E} {D : Ends} {σ : L2.St} {H : Hp} (q : tS c cf E wf W0 H0 (.own i e) D σ H) : tAsg (tN c cf E e) (gName i) D σ H := by
  obtain ⟨W, ρ, h, a, g⟩ := q
  simp only [exS] at g
  refine useN a g fun d h' v H' W' e' k' r g1 => ?_
  split at g1
  · exact g1 W' H' _ e'.le (a.own e' k' r i)
  · rcases r with ⟨r, z⟩ | ⟨p, _, _, _, _, _, _, z, _⟩
    · exact Bool.noConfusion z
    · cases z
  · rcases r with ⟨r, z⟩ | ⟨p, _, _, _, _, _, _, z, _⟩
    · exact Bool.noConfusion z
    · cases z
  · exact False.elim g1
theorem useD {m : Mn.E} {σ : L2.St} {H : Hp} {Q : VK} {W : Wd} {ρ : Env} {h : Hq} {α : Type} {F : D → Hq → R α} {Qf : α → Hq → Prop} (a : At c W0 H0 W H h σ ρ) (g : Gd c E W0 H0 ((evE cf m ρ h).bind F) Qf)
    (fin : ∀ d h' p H' W', Ext W H W' H' → Hok c.fa W' H' h' → H p = none → W'.F p = none → p ∉ W'.C → OwnD c.fa W' H' p d → Gd c E W0 H0 (F d h') Qf → Q (.ref p) H') : tD c cf E m σ H Q :=
  ⟨W, ρ, h, a.ok, a.sr, ((Gd.bind g).ext a.ext).mono fun d h' g1 v H' W' e k ⟨p, ep, q1, q2, q3, q4⟩ => by
    subst ep
    exact fin d h' p H' W' e k q1 q2 q3 q4 g1⟩
theorem t_ownD {i : Nat} {e : Mn.E} {D : Ends} {σ : L2.St} {H : Hp} (q : tS c cf E wf W0 H0 (.own i e) D σ H) : tAsg (tD c cf E e) (gName i) D σ H := by
  obtain ⟨W, ρ, h, a, g⟩ := q
  simp only [exS] at g
  refine useD a g fun d h' p H' W' e' k' q1 q2 q3 q4 g1 => ?_
  obtain ⟨u, _, ob⟩ := id q4
  have z := ob.is
  split at g1
  · exact Bool.noConfusion z
  · exact g1 W' H' _ e'.le (a.ownG e' k' q1 q2 q3 (.inr q4) i)
  · exact g1 W' H' _ e'.le (a.ownG e' k' q1 q2 q3 (.inr q4) i)
  · exact False.elim g1
theorem st_ownD {i : Nat} {e : Mn.E} {x : Str} {v : Expr} {p pos : Pos} (G : GX c E N k sc X) (hf : FnT X sc) (h1 : locC N sc i x = true) (hv : PE X v (tD c cf E e)) (hs : noComp v = true) : PS X (.Assign [.Name x p] v pos) (tS c cf E wf W0 H0 (.own i e)) := by
  obtain ⟨h1, h2⟩ := band h1
  obtain ⟨f1, f2⟩ := hf x h2
  exact weakS (ps_set (by rw [G.nm]; exact G.nd) (by rw [G.nm]; exact bdec h1) f1 hv (sw_none hs) f2) fun D σ H q => t_ownD q
theorem st_own {i : Nat} {e : Mn.E} {x : Str} {v : Expr} {p pos : Pos} (G : GX c E N k sc X) (hf : FnT X sc) (h1 : locC N sc i x = true) (hb : isN e = true) (hv : SX c cf E X e v) (hs : (noComp v || isLC v) = true) : PS X (.Assign [.Name x p] v pos) (tS c cf E wf W0 H0 (.own i e)) := by
  obtain ⟨h1, h2⟩ := band h1
  have hi : X.N[i]? = some x := by rw [G.nm]; exact bdec h1
  have hN : X.N.Nodup := by rw [G.nm]; exact G.nd
  obtain ⟨f1, f2⟩ := hf x h2
  by_cases hc : noComp v = true
  · exact weakS (ps_set hN hi f1 (hv.se.n hb) (sw_none hc) f2) fun D σ H q => t_own q
  · have hl : isLC v = true := by
      rw [Bool.or_eq_true] at hs
      exact hs.resolve_left hc
    cases v with
    | ListComp elt gs scope pos' =>
      have e : swapsWith (.ListComp elt gs scope pos') (some (.Name x p)) pos.line X.env = pure (X.env.blockKind == .function && X.env.kindOf x == some .local && p.line == pos'.line && !(scope.names.any fun (n, k) => n == x && (k == .local || k == .cell))) := rfl
      by_cases hz : (X.env.blockKind == .function && X.env.kindOf x == some .local && p.line == pos'.line && !(scope.names.any fun (n, k) => n == x && (k == .local || k == .cell))) = true
      · rw [hz] at e
        have hloc : X.env.scope.names.lookup x = some .local := by
          have z := (band (band (band hz).1).1).2
          exact (beq_iff_eq.mp z)
        exact weakS (hv.ls rfl i x p pos hi hloc e) fun D σ H q => t_own q
      · have hz' : (X.env.blockKind == .function && X.env.kindOf x == some .local && p.line == pos'.line && !(scope.names.any fun (n, k) => n == x && (k == .local || k == .cell))) = false := (Bool.not_eq_true _).mp hz
        rw [hz'] at e
        exact weakS (ps_set hN hi f1 (hv.se.n hb) e f2) fun D σ H q => t_own q
    | _ => exact Bool.noConfusion hl
theorem st_ret {e : Mn.E} {v : Expr} {pos : Pos} (hb : isB e = false) (hv : SX c cf E X e v) : PS X (.Return (some v) pos) (tS c cf E wf W0 H0 (.ret e)) := by
  refine weakS (ps_ret (hv.se.f hb)) fun D σ H q => ?_
  obtain ⟨W, ρ, h, a, g⟩ := q
  simp only [exS] at g
  exact useF a g fun d h' v H' W' e' a' r g1 => g1 W' H' v e'.le a'.ext a'.ok r
theorem st_retn {pos : Pos} : PS X (.Return none pos) (tS c cf E wf W0 H0 .retn) := by
  refine weakS ps_retN fun D σ H q => ?_
  obtain ⟨W, ρ, h, a, g⟩ := q
  exact g W H .non (.refl W) a.ext a.ok .non
theorem st_pass {pos : Pos} : PS X (.Pass pos) (tS c cf E wf W0 H0 .pass) := by
  refine weakS ps_pass fun D σ H q => ?_
  obtain ⟨W, ρ, h, a, g⟩ := q
  exact g W H σ (.refl W) a
theorem st_ex {e : Mn.E} {v : Expr} {pos : Pos} (hb : isB e = false) (hv : SX c cf E X e v) (hs : noComp v = true) : PS X (.Expr v pos) (tS c cf E wf W0 H0 (.ex e)) := by
  refine weakS (ps_expr (hv.se.f hb) (sw_none hs)) fun D σ H q => ?_
  obtain ⟨W, ρ, h, a, g⟩ := q
  simp only [exS] at g
  exact useF a g fun d h' v H' W' e' a' r g1 => g1 W' H' σ e'.le a'
theorem st_ite {e : Mn.E} {ma mb : Ss} {t : Expr} {x y : List Stmt} {pos : Pos} (hv : SX c cf E X e t) (hi : notIf t = true) (ha : PSs X x (tSs c cf E wf W0 H0 ma)) (hb : PSs X y (tSs c cf E wf W0 H0 mb)) : PS X (.If t x y pos) (tS c cf E wf W0 H0 (.ite e ma mb)) := by
  refine weakS (ps_if (hv.se.t hi) ha hb) fun D σ H q => ?_
  obtain ⟨W, ρ, h, a, g⟩ := q
  simp only [exS] at g
  refine useT a g fun b h' H' W' e' a' g1 => ?_
  cases b with
  | true =>
    rw [if_pos rfl] at g1 ⊢
    exact ⟨W', ρ, h', a', g1.mono fun fl h'' p => p.mono e'.le⟩
  | false =>
    rw [if_neg Bool.false_ne_true] at g1 ⊢
    exact ⟨W', ρ, h', a', g1.mono fun fl h'' p => p.mono e'.le⟩
theorem bind_slots {tg : Tg} {d : D} {ρ ρ' : Env} (h : bindTg tg d ρ = some ρ') : (∀ j ∈ tg.slots, ∀ e, ρ'[j]? ≠ some (.ow e)) ∧ ∀ j, j ∉ tg.slots → ρ'[j]? = ρ[j]? := by
  have fold : ∀ (is : List Nat) (ds : List D) (r : Env) (J : List Nat), (∀ j ∈ J, ∀ e, r[j]? ≠ some (.ow e)) → is.length = ds.length → (∀ j, j ∈ J ∨ j ∈ is → ∀ e, ((is.zip ds).foldl (fun r p => r.set p.1 (.fz p.2)) r)[j]? ≠ some (.ow e)) ∧ ∀ j, j ∉ is → ((is.zip ds).foldl (fun r p => r.set p.1 (.fz p.2)) r)[j]? = r[j]? := by
    intro is
    induction is with
    | nil => intro ds r J hJ hl; exact ⟨fun j hj e => hJ j (hj.resolve_right (by simp)) e, fun j _ => rfl⟩
    | cons i is ih =>
      intro ds r J hJ hl
      cases ds with
      | nil => simp at hl
      | cons d ds =>
        have z := ih ds (r.set i (.fz d)) (i :: J) (fun j hj e he => by
          obtain ⟨hne, he⟩ := Sl.set_ow he (fun _ => by simp)
          rcases List.mem_cons.mp hj with q | q
          · exact hne q.symm
          · exact hJ j q e he) (by simpa using hl)
        refine ⟨fun j hj e => z.1 j ?_ e, fun j hj => ?_⟩
        · rcases hj with q | q
          · exact .inl (List.mem_cons_of_mem _ q)
          · rcases List.mem_cons.mp q with q | q
            · exact .inl (by rw [q]; exact List.mem_cons_self)
            · exact .inr q
        · simp only [List.mem_cons, not_or] at hj
          rw [List.zip_cons_cons, List.foldl_cons, z.2 j hj.2, List.getElem?_set_ne (Ne.symm hj.1)]
  cases tg with
  | nm i =>
    cases h
    have z := fold [i] [d] ρ [] (by simp) rfl
    exact ⟨fun j hj e => z.1 j (.inr hj) e, fun j hj => z.2 j hj⟩
  | tp is =>
    cases d with
    | tup ds =>
      simp only [bindTg] at h
      split at h
      · rename_i hl
        cases h
        have z := fold is ds ρ [] (by simp) hl
        exact ⟨fun j hj e => z.1 j (.inr hj) e, fun j hj => z.2 j hj⟩
      · cases h
    | _ => exact absurd h (by simp [bindTg])
/-- a target bound within a body -/
theorem At.bind {W : Wd} {H : Hp} {h : Hq} {σ σ' : L2.St} {ρ ρ' : Env} {tg : Tg} {d : D} (a : At c W0 H0 W H h σ ρ) (hb : bindTg tg d ρ = some ρ') (sr : Sr c.fa W H σ' ρ') (hj : ∀ j, j ∉ tg.slots → σ'[j]? = σ[j]?) : At c W0 H0 W H h σ' ρ' := by
  obtain ⟨z1, z2⟩ := bind_slots hb
  refine ⟨a.ext, a.ok, sr, fun j e p h1 h2 => ?_⟩
  by_cases hm : j ∈ tg.slots
  · exact absurd h1 (z1 j hm e)
  · rw [z2 j hm] at h1
    rw [hj j hm] at h2
    exact a.fr j e p h1 h2
theorem g_bind {W : Wd} {H : Hp} {h : Hq} {σ : L2.St} {ρ ρ' : Env} {tg : Tg} {d : D} {v : V} {Q : L2.St → Hp → Prop} (a : At c W0 H0 W H h σ ρ) (r : Rep c.fa W v d) (hb : bindTg tg d ρ = some ρ') (q : ∀ σ', At c W0 H0 W H h σ' ρ' → Q σ' H) : gT c tg v σ H Q :=
  ⟨W, h, d, ρ, ρ', a.ok, a.sr, r, hb, fun σ' s1 _ _ s4 => q σ' (a.bind hb s1 s4)⟩
theorem st_for {tg : Tg} {it : Mn.It} {b : Ss} {t i : Expr} {body : List Stmt} {pos : Pos} (G : GX c E N k sc X) (hp : PassesOwn (model X.prog X.w) X.A X.env X.xe) (hi : PI X t i (tI c cf E true it)) (hg : PG X t (gT c tg)) (hb : PSs X body (tSs c cf E wf W0 H0 b)) (hs : ∀ x, foldedSetIterable i X.env x = pure x) :
    PS X (.For t i body [] pos) (tS c cf E wf W0 H0 (.for tg it b)) := by
  refine weakS (ps_for hp G.calm hi hg hb hs) fun D σ H q => ?_
  obtain ⟨W, ρ, h, a, g⟩ := q
  simp only [exS] at g
  refine ⟨W, ρ, h, a.ok, a.sr, ((Gd.bind g).ext a.ext).mono fun ds h1 g1 J H1 W1 e1 k1 jw => ?_⟩
  have a1 := a.next e1 k1
  refine ⟨fun i m σ H => m = ds.length - i ∧ i ≤ ds.length ∧ ∃ W2 ρ2 h2, LeW W1 W2 ∧ At c W0 H0 W2 H h2 σ ρ2 ∧ Gd c E W0 H0 (forF (exSs cf wf b) tg (ds.drop i) ρ2 h2) fun fl h' => Po c W0 H0 D W1 h' fl, ⟨_, rfl, Nat.zero_le _, W1, ρ, h1, .refl W1, a1, g1.mono fun fl h' p => p.mono e1.le⟩, ?_⟩
  rintro i m σ2 H2 ⟨rfl, hi2, W2, ρ2, h2, le, a2, g2⟩
  by_cases hlt : i < ds.length
  · refine .inr ⟨jw.go W2 H2 h2 i le a2.ok hlt, fun σ3 H3 => ∃ W2 ρ2 h2, LeW W1 W2 ∧ At c W0 H0 W2 H3 h2 σ3 ρ2 ∧ Gd c E W0 H0 (forF (exSs cf wf b) tg (ds.drop (i + 1)) ρ2 h2) fun fl h' => Po c W0 H0 D W1 h' fl, fun σ3 H3 z => ⟨_, by omega, rfl, hlt, z⟩, fun x H3 y => ?_⟩
    obtain ⟨W3, e3, k3, rv⟩ := jw.yld W2 H2 h2 i _ x H3 le a2.ok (List.getElem?_eq_getElem hlt) y
    rw [List.drop_eq_getElem_cons hlt] at g2
    unfold forF at g2
    obtain ⟨ρ3, hb3, g3⟩ := (Gd.bind g2).lift
    refine g_bind (a2.next e3 k3) rv hb3 fun σ3 a3 => ⟨W3, ρ3, h2, a3, (Gd.bind g3).mono fun fl h3 g4 => ?_⟩
    have le3 := le.trans e3.le
    cases fl with
    | nx ρ4 => exact fun W4 H4 σ4 l4 a4 => ⟨W4, ρ4, h3, le3.trans l4, a4, g4⟩
    | ct ρ4 => exact fun W4 H4 σ4 l4 a4 => ⟨W4, ρ4, h3, le3.trans l4, a4, g4⟩
    | bk ρ4 => exact fun W4 H4 σ4 l4 a4 => g4 W4 H4 σ4 (le3.trans l4) a4
    | rt d => exact fun W4 H4 v l4 e4 k4 r4 => g4 W4 H4 v (le3.trans l4) e4 k4 r4
  · refine .inl ⟨jw.stop W2 H2 h2 i le a2.ok (by omega), ?_⟩
    rw [List.drop_eq_nil_of_le (by omega)] at g2
    exact g2 W2 H2 σ2 le a2
theorem st_while {e : Mn.E} {b : Ss} {t : Expr} {body : List Stmt} {pos : Pos} (hp : PassesOwn (model X.prog X.w) X.A X.env X.xe) (hv : SX c cf E X e t) (hi : notIf t = true) (hb : PSs X body (tSs c cf E wf W0 H0 b)) : PS X (.While t body [] pos) (tS c cf E wf W0 H0 (.while e b)) := by
  refine weakS (ps_while hp (hv.se.t hi) hb) fun D σ H q => ?_
  obtain ⟨W, ρ, h, a, g⟩ := q
  simp only [exS] at g
  refine ⟨fun m σ H => ∃ W2 ρ2 h2, LeW W W2 ∧ At c W0 H0 W2 H h2 σ ρ2 ∧ Gd c E W0 H0 (whF (evE cf e) (exSs cf wf b) m ρ2 h2) fun fl h' => Po c W0 H0 D W h' fl, ⟨wf, W, ρ, h, .refl W, a, g⟩, ?_⟩
  rintro m σ2 H2 ⟨W2, ρ2, h2, le, a2, g2⟩
  cases m with
  | zero => exact False.elim g2
  | succ m =>
    unfold whF at g2
    refine useT a2 g2 fun bb h3 H3 W3 e3 a3 g3 => ?_
    have le3 := le.trans e3.le
    cases bb with
    | false =>
      rw [if_neg Bool.false_ne_true] at g3 ⊢
      exact g3 W3 H3 σ2 le3 a3
    | true =>
      rw [if_pos rfl] at g3 ⊢
      refine ⟨fun σ4 H4 => ∃ W2 ρ2 h2, LeW W W2 ∧ At c W0 H0 W2 H4 h2 σ4 ρ2 ∧ Gd c E W0 H0 (whF (evE cf e) (exSs cf wf b) m ρ2 h2) fun fl h' => Po c W0 H0 D W h' fl, fun σ4 H4 z => ⟨m, Nat.lt_succ_self m, z⟩, W3, ρ2, h3, a3, (Gd.bind g3).mono fun fl h4 g4 => ?_⟩
      cases fl with
      | nx ρ4 => exact fun W4 H4 σ4 l4 a4 => ⟨W4, ρ4, h4, le3.trans l4, a4, g4⟩
      | ct ρ4 => exact fun W4 H4 σ4 l4 a4 => ⟨W4, ρ4, h4, le3.trans l4, a4, g4⟩
      | bk ρ4 => exact fun W4 H4 σ4 l4 a4 => g4 W4 H4 σ4 (le3.trans l4) a4
      | rt d => exact fun W4 H4 v l4 e4 k4 r4 => g4 W4 H4 v (le3.trans l4) e4 k4 r4
end
end Mn

namespace Mn
open PySem L2 PySem.Spec PyProof.Rows
section
variable {c : Cn} {Γ : Gam} {cf : Nat → List D → Hq → R D} {k : Nat} {E : XK} {N : List Str} {sc : Scope} {X : Cx} {W0 : Wd} {H0 : Hp} {wf : Nat}
/-! ### several names at once -/
def bkS (sc : Scope) : ScopeKind := if sc.kind.isAnnotationScope then .function else sc.kind
def nmS (ts : List Expr) (sc : Scope) : List Str := ts.filterMap fun
  | .Name id pos => if sc.names.lookup id == some .local && pos.line == (ts.head?.map (·.pos.line)).getD 0 then some id else none
  | _ => none
/-- how (a, b) = x, y is stored: none, not covered; some none, as any; some names, from the right -/
def swS (ts vs : List Expr) (sc : Scope) : Option (Option (List Str)) :=
  if (!(ts.length == 2 || ts.length == 3) || vs.length != ts.length || bkS sc != .function) = true then some none
  else if (vs.any fun | .Starred .. => true | _ => false) = true then some none
  else if ((nmS ts sc).length != ts.length || (nmS ts sc).eraseDups.length != (nmS ts sc).length) = true then some none
  else if vs.all (foldedForSure 8) = true then some none
  else if vs.all (constantsAlone 8) = true then none
  else some (some (nmS ts sc))
theorem swS_eq {ts vs : List Expr} {k1 k2 : _} {p1 p2 : Pos} {env : PySem.Env} {r : Option (List Str)} (h : swS ts vs env.scope = some r) : swappedStores [.Tuple ts k1 p1] (.Tuple vs k2 p2) env = pure r := by
  have e : swappedStores [.Tuple ts k1 p1] (.Tuple vs k2 p2) env =
    if (!(ts.length == 2 || ts.length == 3) || vs.length != ts.length || bkS env.scope != .function) = true then pure none
    else if (vs.any fun | .Starred .. => true | _ => false) = true then pure none
    else if ((nmS ts env.scope).length != ts.length || (nmS ts env.scope).eraseDups.length != (nmS ts env.scope).length) = true then pure none
    else if vs.all (foldedForSure 8) = true then pure none
    else if vs.all (constantsAlone 8) = true then (do let _ ← (unsupported "assign.tuple-of-constant-expressions:order-of-the-stores" : Sem Unit); pure (some (nmS ts env.scope)))
    else pure (some (nmS ts env.scope)) := rfl
  rw [e]
  unfold swS at h
  by_cases c1 : (!(ts.length == 2 || ts.length == 3) || vs.length != ts.length || bkS env.scope != .function) = true
  · rw [if_pos c1] at h ⊢; cases h; rfl
  rw [if_neg c1] at h ⊢
  by_cases c2 : (vs.any fun | .Starred .. => true | _ => false) = true
  · rw [if_pos c2] at h ⊢; cases h; rfl
  rw [if_neg c2] at h ⊢
  by_cases c3 : ((nmS ts env.scope).length != ts.length || (nmS ts env.scope).eraseDups.length != (nmS ts env.scope).length) = true
  · rw [if_pos c3] at h ⊢; cases h; rfl
  rw [if_neg c3] at h ⊢
  by_cases c4 : vs.all (foldedForSure 8) = true
  · rw [if_pos c4] at h ⊢; cases h; rfl
  rw [if_neg c4] at h ⊢
  by_cases c5 : vs.all (constantsAlone 8) = true
  · rw [if_pos c5] at h; cases h
  rw [if_neg c5] at h ⊢
  cases h
  rfl
theorem sw_sole {t v : Expr} {l : Nat} {env : PySem.Env} (h : noComp v = true) : swapsWithSole [t] v l env = pure false := by
  show swapsWith v (some t) l env = pure false
  exact sw_none h
def isTupE : Expr → Bool
  | .Tuple _ _ _ => true
  | _ => false
theorem sw_not {ts : List Expr} {k1 : _} {p1 : Pos} {v : Expr} {env : PySem.Env} (h : isTupE v = false) : swappedStores [.Tuple ts k1 p1] v env = pure none := by
  cases v <;> first | rfl | exact Bool.noConfusion h
theorem t_tset {is : List Nat} {e : Mn.E} {D : Ends} {σ : L2.St} {H : Hp} (q : tS c cf E wf W0 H0 (.tset is e) D σ H) : tAsg (tF c cf E e) (gT c (.tp is)) D σ H := by
  obtain ⟨W, ρ, h, a, g⟩ := q
  simp only [exS] at g
  refine useF a g fun d h' v H' W' e' a' r g1 => ?_
  obtain ⟨ρ', hb, g2⟩ := (Gd.bind g1).lift
  exact g_bind a' r hb fun σ' a2 => g2 W' H' σ' e'.le a2
theorem st_tset {is : List Nat} {e : Mn.E} {ts : List Expr} {v : Expr} {k1 : _} {p1 pos : Pos} (G : GX c E N k sc X) (hf : FnT X sc) (h1 : chkTg N sc (.tp is) (.Tuple ts k1 p1) = true) (hb : isB e = false) (hv : SX c cf E X e v) (hs : noComp v = true) (hw : swappedStores [.Tuple ts k1 p1] v X.env = pure none) :
    PS X (.Assign [.Tuple ts k1 p1] v pos) (tS c cf E wf W0 H0 (.tset is e)) :=
  weakS (ps_asg (hv.se.f hb) (sg_of G hf h1) (sw_sole hs) hw rfl) fun D σ H q => t_tset q
theorem chk_names {is : List Nat} {ts : List Expr} {z : _} {p : Pos} (h : chkTg N sc (.tp is) (.Tuple ts z p) = true) : is.Nodup := by
  simp only [chkTg, Bool.and_eq_true, decide_eq_true_eq] at h
  exact h.2
theorem st_par {i j : Nat} {a b : Mn.E} {x y : Str} {l r : Expr} {px py pt pt2 pos : Pos} {kt k2 : _} (G : GX c E N k sc X) (h1 : chkTg N sc (.tp [i, j]) (.Tuple [.Name x px, .Name y py] kt pt) = true) (hA : PA X [l, r] (tA c cf E (.cons a (.cons b .nil)))) (hn : noB (.cons a (.cons b .nil)) = true)
    (hx : sc.names.lookup x = some .local) (hy : sc.names.lookup y = some .local) (hw : swappedStores [.Tuple [.Name x px, .Name y py] kt pt] (.Tuple [l, r] k2 pt2) X.env = pure (some [x, y])) :
    PS X (.Assign [.Tuple [.Name x px, .Name y py] kt pt] (.Tuple [l, r] k2 pt2) pos) (tS c cf E wf W0 H0 (.tset [i, j] (.tup (.cons a (.cons b .nil))))) := by
  have nd := chk_names h1
  obtain ⟨_, z2⟩ := chkTg_tp h1
  simp only [List.zip_cons_cons, List.zip_nil_right, List.all_cons, List.all_nil, Bool.and_true, Bool.and_eq_true, isNm, decide_eq_true_eq] at z2
  refine weakS (ps_par G.calm (by rw [G.nm]; exact G.nd) (by rw [G.nm]; exact z2.1.1) (by rw [G.nm]; exact z2.2.1) (fun z => by simp [z] at nd) (by rw [G.sc]; exact hx) (by rw [G.sc]; exact hy) hA hw) fun D σ H q => ?_
  obtain ⟨W, ρ, h, at', g⟩ := q
  simp only [exS, evE] at g
  have g2 : Gd c E W0 H0 (evEs cf (.cons a (.cons b .nil)) ρ h) fun ds h' => Gd c E W0 H0 ((liftO (bindTg (.tp [i, j]) (.tup ds) ρ) h').bind fun ρ h => R.ok (Fl.nx ρ) h) fun fl h' => Po c W0 H0 D W h' fl := by
    generalize evEs cf (.cons a (.cons b .nil)) ρ h = y at g ⊢
    cases y <;> exact g
  refine ⟨W, ρ, h, at'.ok, at'.sr, (g2.ext at'.ext).mono fun ds h1 g1 vs H1 W1 e1 k1 r1 n1 l1 => ?_⟩
  have rl := n1 hn
  obtain ⟨ρ', hb, g3⟩ := (Gd.bind g1).lift
  have a1 := at'.next e1 k1
  match ds, l1, rl, hb with
  | [d1, d2], _, rl, hb =>
    obtain ⟨v, u, rfl, rv, ru⟩ := rl.two
    have e : ρ' = (ρ.set i (.fz d1)).set j (.fz d2) := by
      have : bindTg (.tp [i, j]) (.tup [d1, d2]) ρ = some ((ρ.set i (.fz d1)).set j (.fz d2)) := rfl
      rw [this] at hb
      exact (Option.some.inj hb).symm
    subst e
    exact ⟨v, u, rfl, g3 W1 H1 _ e1.le ((a1.set rv i).set ru j)⟩
theorem st_par3 {i j l : Nat} {a b d : Mn.E} {x y z : Str} {e1 e2 e3 : Expr} {px py pz pt pt2 pos : Pos} {kt k2 : _} (G : GX c E N k sc X) (h1 : chkTg N sc (.tp [i, j, l]) (.Tuple [.Name x px, .Name y py, .Name z pz] kt pt) = true) (hA : PA X [e1, e2, e3] (tA c cf E (.cons a (.cons b (.cons d .nil))))) (hn : noB (.cons a (.cons b (.cons d .nil))) = true)
    (hx : sc.names.lookup x = some .local) (hy : sc.names.lookup y = some .local) (hz : sc.names.lookup z = some .local) (hw : swappedStores [.Tuple [.Name x px, .Name y py, .Name z pz] kt pt] (.Tuple [e1, e2, e3] k2 pt2) X.env = pure (some [x, y, z])) :
    PS X (.Assign [.Tuple [.Name x px, .Name y py, .Name z pz] kt pt] (.Tuple [e1, e2, e3] k2 pt2) pos) (tS c cf E wf W0 H0 (.tset [i, j, l] (.tup (.cons a (.cons b (.cons d .nil)))))) := by
  have nd := chk_names h1
  obtain ⟨_, z2⟩ := chkTg_tp h1
  simp only [List.zip_cons_cons, List.zip_nil_right, List.all_cons, List.all_nil, Bool.and_true, Bool.and_eq_true, isNm, decide_eq_true_eq] at z2
  refine weakS (ps_par3 G.calm (by rw [G.nm]; exact G.nd) (by rw [G.nm]; exact z2.1.1) (by rw [G.nm]; exact z2.2.1.1) (by rw [G.nm]; exact z2.2.2.1) (fun z => by simp [z] at nd) (fun z => by simp [z] at nd) (fun z => by simp [z] at nd) (by rw [G.sc]; exact hx) (by rw [G.sc]; exact hy) (by rw [G.sc]; exact hz) hA hw) fun D σ H q => ?_
  obtain ⟨W, ρ, h, at', g⟩ := q
  simp only [exS, evE] at g
  have g2 : Gd c E W0 H0 (evEs cf (.cons a (.cons b (.cons d .nil))) ρ h) fun ds h' => Gd c E W0 H0 ((liftO (bindTg (.tp [i, j, l]) (.tup ds) ρ) h').bind fun ρ h => R.ok (Fl.nx ρ) h) fun fl h' => Po c W0 H0 D W h' fl := by
    generalize evEs cf (.cons a (.cons b (.cons d .nil))) ρ h = y at g ⊢
    cases y <;> exact g
  refine ⟨W, ρ, h, at'.ok, at'.sr, (g2.ext at'.ext).mono fun ds h1 g1 vs H1 W1 e1 k1 r1 n1 l1 => ?_⟩
  have rl := n1 hn
  obtain ⟨ρ', hb, g3⟩ := (Gd.bind g1).lift
  have a1 := at'.next e1 k1
  match ds, l1, rl, hb with
  | [d1, d2, d3], _, .cons (v := v) rv rl, hb =>
    obtain ⟨u, w, rfl, ru, rw'⟩ := rl.two
    have e : ρ' = ((ρ.set i (.fz d1)).set j (.fz d2)).set l (.fz d3) := by
      have : bindTg (.tp [i, j, l]) (.tup [d1, d2, d3]) ρ = some (((ρ.set i (.fz d1)).set j (.fz d2)).set l (.fz d3)) := rfl
      rw [this] at hb
      exact (Option.some.inj hb).symm
    subst e
    exact ⟨v, u, w, rfl, g3 W1 H1 _ e1.le (((a1.set rv i).set ru j).set rw' l)⟩
/-- a value for a slot: a new list, or one that stays -/
def tO (c : Cn) (cf : Nat → List D → Hq → R D) (E : XK) (o : Bool) (m : Mn.E) : TE := fun σ H Q => ∃ W ρ h, Hok c.fa W H h ∧ Sr c.fa W H σ ρ ∧ Gd c E W H (evE cf m ρ h) fun d h' => ∀ v H' W', Ext W H W' H' → Hok c.fa W' H' h' → (o = true → ResN c.fa W H W' H' v d) → (o = false → Rep c.fa W' v d) → Q v H'
theorem pe_o {o : Bool} {m : Mn.E} {e : Expr} (h : SX c cf E X m e) (hn : o = true → isN m = true) (hb : o = false → isB m = false) : PE X e (tO c cf E o m) := by
  cases o with
  | true =>
    refine weakE (h.se.n (hn rfl)) fun σ H Q q => ?_
    obtain ⟨W, ρ, h, kk, r, g⟩ := q
    exact ⟨W, ρ, h, kk, r, g.mono fun d h' z v H' W' e k r => z v H' W' e k (fun _ => r) fun y => Bool.noConfusion y⟩
  | false =>
    refine weakE (h.se.f (hb rfl)) fun σ H Q q => ?_
    obtain ⟨W, ρ, h, kk, r, g⟩ := q
    exact ⟨W, ρ, h, kk, r, g.mono fun d h' z v H' W' e k r => z v H' W' e k (fun y => Bool.noConfusion y) fun _ => r⟩
theorem At.res {o : Bool} {W W1 : Wd} {H H1 : Hp} {h h1 : Hq} {σ : L2.St} {ρ : Env} {v : V} {d : D} (a : At c W0 H0 W H h σ ρ) (e : Ext W H W1 H1) (k : Hok c.fa W1 H1 h1) (hn : o = true → ResN c.fa W H W1 H1 v d) (hf : o = false → Rep c.fa W1 v d) (ok : okO o d = true) (i : Nat) : At c W0 H0 W1 H1 h1 (σ.set i (some v)) (ρ.set i (slO o d)) := by
  cases o with
  | true =>
    cases d with
    | lst ds => exact a.own e k (hn rfl) i
    | dI _ _ => rcases hn rfl with ⟨_, z⟩ | ⟨_, _, _, _, _, _, _, z, _⟩ <;> cases z
    | dT _ _ => rcases hn rfl with ⟨_, z⟩ | ⟨_, _, _, _, _, _, _, z, _⟩ <;> cases z
    | _ => exact Bool.noConfusion ok
  | false => exact (a.next e k).set (hf rfl) i
theorem st_par2 {i j : Nat} {o p : Bool} {a b : Mn.E} {x y : Str} {l r : Expr} {px py pt pt2 pos : Pos} {kt k2 : _} (G : GX c E N k sc X) (h1 : chkTg N sc (.tp [i, j]) (.Tuple [.Name x px, .Name y py] kt pt) = true) (ha : SX c cf E X a l) (hb : SX c cf E X b r) (sl : notStar l = true) (sr : notStar r = true)
    (an : o = true → isN a = true) (ab : o = false → isB a = false) (bn : p = true → isN b = true) (bb : p = false → isB b = false)
    (hx : sc.names.lookup x = some .local) (hy : sc.names.lookup y = some .local) (hw : swappedStores [.Tuple [.Name x px, .Name y py] kt pt] (.Tuple [l, r] k2 pt2) X.env = pure (some [x, y])) :
    PS X (.Assign [.Tuple [.Name x px, .Name y py] kt pt] (.Tuple [l, r] k2 pt2) pos) (tS c cf E wf W0 H0 (.par i o a j p b)) := by
  have nd := chk_names h1
  obtain ⟨_, z2⟩ := chkTg_tp h1
  simp only [List.zip_cons_cons, List.zip_nil_right, List.all_cons, List.all_nil, Bool.and_true, Bool.and_eq_true, isNm, decide_eq_true_eq] at z2
  refine weakS (ps_par G.calm (by rw [G.nm]; exact G.nd) (by rw [G.nm]; exact z2.1.1) (by rw [G.nm]; exact z2.2.1) (fun z => by simp [z] at nd) (by rw [G.sc]; exact hx) (by rw [G.sc]; exact hy) (pa_cons (pe_o ha an ab) (pa_cons (pe_o hb bn bb) pa_nil (star_cons sr)) (star_cons sl)) hw) fun D σ H q => ?_
  obtain ⟨W, ρ, h, at', g⟩ := q
  simp only [exS] at g
  refine ⟨W, ρ, h, at'.ok, at'.sr, ((Gd.bind g).ext at'.ext).mono fun d1 h1 g1 v H1 W1 e1 k1 n1 f1 => ?_⟩
  have a0 := at'.next e1 k1
  refine ⟨W1, ρ, h1, k1, a0.sr, ((Gd.bind g1).ext a0.ext).mono fun d2 h2 g2 w H2 W2 e2 k2 n2 f2 => ?_⟩
  split at g2
  · rename_i hok
    obtain ⟨o1, o2⟩ := band hok
    have a1 := at'.res e1 k1 n1 f1 o1 i
    exact ⟨v, w, rfl, g2 W2 H2 _ (e1.le.trans e2.le) (a1.res e2 k2 n2 f2 o2 j)⟩
  · exact False.elim g2
theorem st_par2t {i j : Nat} {o p : Bool} {a b : Mn.E} {x y : Str} {l r : Expr} {px py pt pt2 pos : Pos} {kt k2 : _} (G : GX c E N k sc X) (hf : FnT X sc) (h1 : chkTg N sc (.tp [i, j]) (.Tuple [.Name x px, .Name y py] kt pt) = true) (ha : SX c cf E X a l) (hb : SX c cf E X b r) (sl : notStar l = true) (sr : notStar r = true)
    (an : o = true → isN a = true) (ab : o = false → isB a = false) (bn : p = true → isN b = true) (bb : p = false → isB b = false)
    (hw : swappedStores [.Tuple [.Name x px, .Name y py] kt pt] (.Tuple [l, r] k2 pt2) X.env = pure none) :
    PS X (.Assign [.Tuple [.Name x px, .Name y py] kt pt] (.Tuple [l, r] k2 pt2) pos) (tS c cf E wf W0 H0 (.par i o a j p b)) := by
  obtain ⟨z1, z2⟩ := chkTg_tp h1
  obtain ⟨g1, g2, g3⟩ := sg_names G hf z1 z2
  refine weakS (ps_asg (pe_tup (pa_cons (pe_o ha an ab) (pa_cons (pe_o hb bn bb) pa_nil (star_cons sr)) (star_cons sl))) (pg_tup G.calm g1 g2 g3) (sw_sole rfl) hw rfl) fun D σ H q => ?_
  obtain ⟨W, ρ, h, at', g⟩ := q
  simp only [exS] at g
  refine ⟨W, ρ, h, at'.ok, at'.sr, ((Gd.bind g).ext at'.ext).mono fun d1 h1 g1 v H1 W1 e1 k1 n1 f1 => ?_⟩
  have a0 := at'.next e1 k1
  refine ⟨W1, ρ, h1, k1, a0.sr, ((Gd.bind g1).ext a0.ext).mono fun d2 h2 g2 w H2 W2 e2 k2 n2 f2 => ?_⟩
  split at g2
  · rename_i hok
    obtain ⟨o1, o2⟩ := band hok
    have a1 := at'.res e1 k1 n1 f1 o1 i
    have a2 := a1.res e2 k2 n2 f2 o2 j
    refine ⟨(show 2 ≤ sizeLine by decide), fun q hq => ?_⟩
    obtain ⟨e3, k3, _, _⟩ := fresh_ext (o := .tup [v, w]) a2.ok hq
    refine ⟨q, [v, w], rfl, .inl (.of upd_same), rfl, _, _, rfl, _, _, rfl, rfl, ?_⟩
    exact g2 W2 _ _ (e1.le.trans e2.le) (a2.next e3 k3)
  · exact False.elim g2
/-! ### many names at once -/
/-- what a value for a slot is: one that stays, or one made anew -/
def ResX (c : Cn) (o : Bool) (H : Hp) (W' : Wd) (H' : Hp) (v : V) (d : D) : Prop := (o = false → Rep c.fa W' v d) ∧ (o = true → isTop d = true → ∃ p, v = .ref p ∧ H p = none ∧ W'.F p = none ∧ p ∉ W'.C ∧ OwnAt c.fa W' H' p d)
def tX (c : Cn) (cf : Nat → List D → Hq → R D) (E : XK) (o : Bool) (m : Mn.E) : TE := fun σ H Q => ∃ W ρ h, Hok c.fa W H h ∧ Sr c.fa W H σ ρ ∧ Gd c E W H (evE cf m ρ h) fun d h' => ∀ v H' W', Ext W H W' H' → Hok c.fa W' H' h' → ResX c o H W' H' v d → Q v H'
theorem pe_xF {m : Mn.E} {e : Expr} (h : PE X e (tF c cf E m)) : PE X e (tX c cf E false m) := weakE h fun σ H Q q => by
  obtain ⟨W, ρ, h, kk, r, g⟩ := q
  exact ⟨W, ρ, h, kk, r, g.mono fun d h' z v H' W' e k r => z v H' W' e k ⟨fun _ => r, fun y => Bool.noConfusion y⟩⟩
theorem pe_xN {m : Mn.E} {e : Expr} (h : PE X e (tN c cf E m)) : PE X e (tX c cf E true m) := weakE h fun σ H Q q => by
  obtain ⟨W, ρ, h, kk, r, g⟩ := q
  refine ⟨W, ρ, h, kk, r, g.mono fun d h' z v H' W' e k r => z v H' W' e k ⟨fun y => Bool.noConfusion y, fun _ t => ?_⟩⟩
  rcases r with ⟨_, y⟩ | ⟨p, q0, q1, q2, q3, q4⟩
  · rw [t] at y; cases y
  · exact ⟨p, q0, q1, q2, q3, .inl q4⟩
theorem pe_xD {m : Mn.E} {e : Expr} (h : PE X e (tD c cf E m)) : PE X e (tX c cf E true m) := weakE h fun σ H Q q => by
  obtain ⟨W, ρ, h, kk, r, g⟩ := q
  exact ⟨W, ρ, h, kk, r, g.mono fun d h' z v H' W' e k ⟨p, q0, q1, q2, q3, q4⟩ => z v H' W' e k ⟨fun y => Bool.noConfusion y, fun _ _ => ⟨p, q0, q1, q2, q3, .inr q4⟩⟩⟩
theorem At.resX {o : Bool} {W W1 : Wd} {H H1 : Hp} {h h1 : Hq} {σ : L2.St} {ρ : Env} {v : V} {d : D} (a : At c W0 H0 W H h σ ρ) (e : Ext W H W1 H1) (k : Hok c.fa W1 H1 h1) (r : ResX c o H W1 H1 v d) (ok : okO o d = true) (i : Nat) : At c W0 H0 W1 H1 h1 (σ.set i (some v)) (ρ.set i (slO o d)) := by
  cases o with
  | true =>
    have ht : isTop d = true := by cases d <;> first | rfl | exact Bool.noConfusion ok
    obtain ⟨p, rfl, q1, q2, q3, q4⟩ := r.2 rfl ht
    exact a.ownG e k q1 q2 q3 q4 i
  | false => exact (a.next e k).set (r.1 rfl) i
def AllX (c : Cn) (cf : Nat → List D → Hq → R D) (E : XK) (X : Cx) : List (Nat × Bool) → Es → List Expr → Prop
  | [], .nil, [] => True
  | t :: ts, .cons m ms, e :: es => notStar e = true ∧ PE X e (tX c cf E t.2 m) ∧ AllX c cf E X ts ms es
  | _, _, _ => False
def setsL : L2.St → List Nat → List V → L2.St
  | σ, i :: is, v :: vs => setsL (σ.set i (some v)) is vs
  | σ, _, _ => σ
theorem gN_sets {H : Hp} {Q : L2.St → Hp → Prop} : ∀ {is : List Nat} {vs : List V} {σ : L2.St}, is.length = vs.length → Q (setsL σ is vs) H → gN is vs σ H Q
  | [], [], σ, _, q => ⟨rfl, q⟩
  | [], _ :: _, _, h, _ => by simp at h
  | _ :: _, [], _, h, _ => by simp at h
  | i :: is, v :: vs, σ, h, q => ⟨_, _, rfl, gN_sets (by simpa using h) q⟩
def tMu (c : Cn) (cf : Nat → List D → Hq → R D) (E : XK) (W0 : Wd) (H0 : Hp) (ts : List (Nat × Bool)) (ms : Es) : TA := fun σ H Q => ∃ W ρ h σ1 ρ1, At c W0 H0 W H h σ ρ ∧ At c W0 H0 W H h σ1 ρ1 ∧ Gd c E W0 H0 (evM cf ts ms ρ h ρ1) fun ρ2 h' => ∀ vs H' W', LeW W W' → vs.length = ts.length → At c W0 H0 W' H' h' (setsL σ1 (ts.map (·.1)) vs) ρ2 → Q vs H'
theorem pa_multi : ∀ {ts : List (Nat × Bool)} {ms : Es} {es : List Expr}, AllX c cf E X ts ms es → PA X es (tMu c cf E W0 H0 ts ms)
  | [], .nil, [], _ => ⟨fun pos pins s σ H Q I q => (pa_nil (X := X)).run pos pins s σ H Q I (by
    obtain ⟨W, ρ, h, σ1, ρ1, a, a1, g⟩ := q
    exact g [] H W (.refl W) rfl a1)⟩
  | t :: ts, .cons m ms, e :: es, hx => by
    obtain ⟨h1, h2, h3⟩ := hx
    refine ⟨fun pos pins s σ H Q I q => (pa_cons h2 (pa_multi h3) (star_cons h1)).run pos pins s σ H Q I ?_⟩
    obtain ⟨W, ρ, h, σ1, ρ1, a, a1, g⟩ := q
    unfold evM at g
    refine ⟨W, ρ, h, a.ok, a.sr, ((Gd.bind g).ext a.ext).mono fun d h' g1 v H1 W1 e1 k1 r1 => ?_⟩
    split at g1
    · rename_i hok
      exact ⟨W1, ρ, h', _, _, a.next e1 k1, a1.resX e1 k1 r1 hok t.1, g1.mono fun ρ2 h'' z vs H2 W2 le hl a2 => z (v :: vs) H2 W2 (e1.le.trans le) (by simp [hl]) a2⟩
    · exact False.elim g1
  | [], .nil, _ :: _, h => False.elim h
  | [], .cons _ _, _, h => False.elim h
  | _ :: _, .nil, _, h => False.elim h
  | _ :: _, .cons _ _, [], h => False.elim h
theorem st_multi {ts : List (Nat × Bool)} {ms : Es} {tx vs : List Expr} {kt k2 : _} {pt pt2 pos : Pos} (G : GX c E N k sc X) (hf : FnT X sc) (h1 : chkTg N sc (.tp (ts.map (·.1))) (.Tuple tx kt pt) = true) (hA : AllX c cf E X ts ms vs) (hw : swappedStores [.Tuple tx kt pt] (.Tuple vs k2 pt2) X.env = pure none) (h16 : ts.length ≤ 1000) :
    PS X (.Assign [.Tuple tx kt pt] (.Tuple vs k2 pt2) pos) (tS c cf E wf W0 H0 (.multi ts ms)) := by
  obtain ⟨z1, z2⟩ := chkTg_tp h1
  obtain ⟨g1, g2, g3⟩ := sg_names G hf z1 z2
  refine weakS (ps_asg (pe_tup (pa_multi (c := c) (cf := cf) (E := E) (W0 := W0) (H0 := H0) hA)) (pg_tup G.calm g1 g2 g3) (sw_sole rfl) hw rfl) fun D σ H q => ?_
  obtain ⟨W, ρ, h, a, g⟩ := q
  simp only [exS] at g
  refine ⟨W, ρ, h, σ, ρ, a, a, (Gd.bind g).mono fun ρ2 h' g1 us H1 W1 le hl a2 => ?_⟩
  refine ⟨by rw [hl, sizeLine_eq]; omega, fun q hq => ?_⟩
  obtain ⟨e3, k3, _, _⟩ := fresh_ext (o := .tup us) a2.ok hq
  refine ⟨q, us, rfl, .inl (.of upd_same), by rw [hl, ← z1]; simp, gN_sets (by simp [hl]) ?_⟩
  exact g1 W1 _ _ le (a2.next e3 k3)
/-! ### items stored, lists grown -/
theorem vis_of {i : Nat} {x : Str} (G : GX c E N k sc X) (h : isVis N sc i x = true) : X.N[i]? = some x ∧ Vis X.env.scope x ∧ (x == ("__debug__" : Str)) = false ∧ (x == ("__classdict__" : Str)) = false := by
  simp only [isVis, Bool.and_eq_true, Bool.or_eq_true, decide_eq_true_eq, beq_iff_eq, Bool.not_eq_true'] at h
  obtain ⟨⟨⟨h1, h2⟩, h3⟩, h4⟩ := h
  exact ⟨by rw [G.nm]; exact h1, by rw [G.sc]; rcases h2 with (h2 | h2) | h2; exact .inl h2; exact .inr (.inl h2); exact .inr (.inr h2), h3, h4⟩
theorem plIx_asg {o y : Expr} {p : Pos} {env : PySem.Env} (h : plIx y = true) : ∀ v, assign (.Subscript o y p) env v = (do
      let ov ← holding [v] (eval o env)
      let iv ← holding [v, ov] (eval y env)
      standAt p
      holding [v, ov, iv] (setItem ov iv v)
      release [v, ov, iv] []) := by
  cases y <;> first | (intro _; rfl) | exact Bool.noConfusion h
theorem slot_of {W : Wd} {H : Hp} {h : Hq} {σ : L2.St} {ρ : Env} {i : Nat} {u : Unit} (a : At c W0 H0 W H h σ ρ) (e : isSl i ρ = some u) : ∃ o, σ[i]? = some (some o) := by
  unfold isSl at e
  split at e
  · rename_i d hd
    obtain ⟨p, g1, _⟩ := a.sr.ow i d hd
    exact ⟨_, g1⟩
  · rename_i d hd
    obtain ⟨v, g1, _⟩ := a.sr.fz i d hd
    exact ⟨_, g1⟩
  · cases e
theorem setI_ok {W : Wd} {H : Hp} {i : Nat} {z d : D} {ρ : Env} {h : Hq} {Q : Env → Hq → Prop} (g : Gd c E W H (setI i z d ρ h) Q) : ∃ ρ' h', setI i z d ρ h = .ok ρ' h' ∧ Q ρ' h' := by
  cases e : setI i z d ρ h with
  | ok ρ' h' => rw [e] at g; exact ⟨ρ', h', rfl, g⟩
  | bad => rw [e] at g; exact False.elim g
  | exc n x h' =>
    exfalso
    unfold setI at e
    split at e
    · generalize (setD _ z d).map _ = o at e
      cases o <;> cases e
    · split at e
      · split at e <;> cases e
      · cases e
    · cases e
theorem st_ixset {i : Nat} {mk mv : Mn.E} {x : Str} {y v : Expr} {px ps pos : Pos} (G : GX c E N k sc X) (hx : isVis N sc i x = true) (nv : isB mv = false) (nk : isB mk = false) (hk : SX c cf E X mk y) (hy : plIx y = true) (hv : SX c cf E X mv v) (hs : noComp v = true) :
    PS X (.Assign [.Subscript (.Name x px) y ps] v pos) (tS c cf E wf W0 H0 (.ixset i mk mv)) := by
  obtain ⟨x1, x2, x3, x4⟩ := vis_of G hx
  have hw : swappedStores [.Subscript (.Name x px) y ps] v X.env = pure none := by cases v <;> rfl
  have hu : X.A.units + 1 < cLine := by have := G.room.un; omega
  refine weakS (ps_asg (hv.se.f nv) (pg_sub (pe_var x1 x2 x3 x4) (hk.se.f nk) (set_any hu) (plIx_asg hy)) (sw_sole hs) hw rfl) fun D σ H q => ?_
  obtain ⟨W, ρ, h, a, g⟩ := q
  simp only [exS] at g
  refine useF a g fun d h1 v1 H1 W1 e1 a1 r1 g1 => ?_
  obtain ⟨_, hsl, g1⟩ := (Gd.bind g1).lift
  obtain ⟨o, ho⟩ := slot_of a1 hsl
  refine ⟨o, ho, useF a1 g1 fun z h2 kv H2 W2 e2 a2 r2 g2 => ?_⟩
  obtain ⟨ρ', h3, hset, g3⟩ := setI_ok (Gd.bind g2)
  obtain ⟨o', ho', hr⟩ := store_rule (Q := fun H3 => D.nx σ H3) a2 r2 (e2.rep r1) hset fun H3 a3 => g3 W2 H3 σ (e1.le.trans e2.le) a3
  rw [ho] at ho'
  cases ho'
  exact hr
theorem st_ixtup {i j : Nat} {mk mv : Mn.E} {x w : Str} {y v : Expr} {px ps pw pt pos : Pos} {kt : _} (G : GX c E N k sc X) (hf : FnT X sc) (hx : isVis N sc i x = true) (hw : locC N sc j w = true) (nv : isB mv = false) (nk : isB mk = false) (hk : SX c cf E X mk y) (hy : plIx y = true) (hv : SX c cf E X mv v) (hs : noComp v = true) (ht : isTupE v = false) :
    PS X (.Assign [.Tuple [.Subscript (.Name x px) y ps, .Name w pw] kt pt] v pos) (tS c cf E wf W0 H0 (.ixtup i mk j mv)) := by
  obtain ⟨x1, x2, x3, x4⟩ := vis_of G hx
  obtain ⟨w1, w2⟩ := band hw
  obtain ⟨f1, f2⟩ := hf w w2
  have hN : X.N.Nodup := by rw [G.nm]; exact G.nd
  have hu : X.A.units + 1 < cLine := by have := G.room.un; omega
  have pw := pg_name (pos := pw) hN (by rw [G.nm]; exact bdec w1) f1 f2
  refine weakS (ps_asg (hv.se.f nv) (pg_tup G.calm (pgs_cons (pg_sub (pe_var x1 x2 x3 x4) (hk.se.f nk) (set_any hu) (plIx_asg hy)) (pgs_cons pw pgs_nil rfl) rfl) rfl rfl) (sw_sole hs) (sw_not ht) rfl) fun D σ H q => ?_
  obtain ⟨W, ρ, h, a, g⟩ := q
  simp only [exS] at g
  refine useF a g fun d h1 v1 H1 W1 e1 a1 r1 g1 => ?_
  split at g1
  · rename_i da db
    obtain ⟨_, hsl, g1⟩ := (Gd.bind g1).lift
    obtain ⟨o, ho⟩ := slot_of a1 hsl
    cases r1 with
    | tup hp rl =>
      obtain ⟨va, vb, rfl, ra, rb⟩ := rl.two
      refine ⟨_, _, rfl, .inl (.of (a1.ok.sub _ _ hp)), rfl, _, _, rfl, o, ho, useF a1 g1 fun z h2 kv H2 W2 e2 a2 r2 g2 => ?_⟩
      obtain ⟨ρ', h3, hset, g3⟩ := setI_ok (Gd.bind g2)
      obtain ⟨o', ho', hr⟩ := store_rule (Q := fun H3 => gCons (gName j) gNil [vb] σ H3 D.nx) a2 r2 (e2.rep ra) hset fun H3 a3 => ⟨_, _, rfl, rfl, g3 W2 H3 _ (e1.le.trans e2.le) (a3.set (e2.rep rb) j)⟩
      rw [ho] at ho'
      cases ho'
      exact hr
  · exact False.elim g1
theorem st_app {i : Nat} {m : Mn.E} {x nm : Str} {y : Expr} {px apos cpos pos : Pos} (G : GX c E N k sc X) (hx : isVis N sc i x = true) (hn : nm = "append") (nb : isB m = false) (hm : SX c cf E X m y) (hs : notStar y = true) (hl : (apos.endLine == cpos.line) = true) :
    PS X (.Expr (.Call (.Attribute (.Name x px) nm apos) [y] [] cpos) pos) (tS c cf E wf W0 H0 (.app i m)) := by
  subst hn
  obtain ⟨x1, x2, x3, x4⟩ := vis_of G hx
  have hA : PA X [y] (tA c cf E (.cons m .nil)) := sa_cons hm.se hs sa_nil
  refine weakS (ps_expr (pe_bm PySem.F.plainAttrs_list PySem.F.slot_list_append PySem.F.type_list_append mt_append (pe_var x1 x2 x3 x4) hA rfl (by rw [star_cons hs]; rfl) hl (star_cons hs) rfl) rfl) fun D σ H q => ?_
  obtain ⟨W, ρ, h, a, g⟩ := q
  simp only [exS] at g
  -- the list is there at once
  obtain ⟨_, hsl, g⟩ := (Gd.bind g).lift
  obtain ⟨ds, hd⟩ : ∃ ds, ρ[i]? = some (.ow (.lst ds)) := by
    unfold isOw at hsl
    split at hsl
    · exact ⟨_, by assumption⟩
    · cases hsl
  obtain ⟨p, g1, g2, g3, og⟩ := a.sr.ow i _ hd
  obtain ⟨vs, g4, g5⟩ := og.lst
  refine ⟨.ref p, g1, .inl ⟨rfl, vs, .inl (.of g4)⟩, W, ρ, h, a.ok, a.sr, (Gd.one g |>.ext a.ext).mono fun es h1 z1 us H1 W1 e1 k1 r1 n1 l1 => ?_⟩
  obtain ⟨d, rfl, z1⟩ := z1
  obtain ⟨v, rfl, rv⟩ := (n1 (by simp [noB, nb])).one
  rw [hd] at z1
  dsimp only at z1
  have a1 := a.next e1 k1
  split at z1
  · rename_i hlt
    refine ⟨p, vs, v, rfl, rfl, e1.k _ _ g4 g3 (fun _ z => by cases z), by rw [g5.length, sizeLine_eq]; exact hlt, ?_⟩
    exact z1 W1 _ σ e1.le (a1.upOwn hd g1 ((e1.repL g5).append (.cons rv .nil)))
  · exact False.elim z1
theorem st_ext {i : Nat} {m : Mn.E} {x nm : Str} {y : Expr} {px apos cpos pos : Pos} (G : GX c E N k sc X) (hx : isVis N sc i x = true) (hn : nm = "extend") (nb : isB m = false) (hm : SX c cf E X m y) (hs : notStar y = true) (hl : (apos.endLine == cpos.line) = true) :
    PS X (.Expr (.Call (.Attribute (.Name x px) nm apos) [y] [] cpos) pos) (tS c cf E wf W0 H0 (.ext i m)) := by
  subst hn
  obtain ⟨x1, x2, x3, x4⟩ := vis_of G hx
  have hA : PA X [y] (tA c cf E (.cons m .nil)) := sa_cons hm.se hs sa_nil
  refine weakS (ps_expr (pe_bm PySem.F.plainAttrs_list PySem.F.slot_list_extend PySem.F.type_list_extend mt_extA (pe_var x1 x2 x3 x4) hA rfl (by rw [star_cons hs]; rfl) hl (star_cons hs) rfl) rfl) fun D σ H q => ?_
  obtain ⟨W, ρ, h, a, g⟩ := q
  simp only [exS] at g
  obtain ⟨_, hsl, g⟩ := (Gd.bind g).lift
  obtain ⟨ds, hd⟩ : ∃ ds, ρ[i]? = some (.ow (.lst ds)) := by
    unfold isOw at hsl
    split at hsl
    · exact ⟨_, by assumption⟩
    · cases hsl
  obtain ⟨p, g1, g2, g3, og⟩ := a.sr.ow i _ hd
  obtain ⟨vs, g4, g5⟩ := og.lst
  refine ⟨.ref p, g1, .inl ⟨rfl, vs, .inl (.of g4)⟩, W, ρ, h, a.ok, a.sr, (Gd.one g |>.ext a.ext).mono fun es h1 z1 us H1 W1 e1 k1 r1 n1 l1 => ?_⟩
  obtain ⟨d, rfl, z1⟩ := z1
  obtain ⟨v, rfl, rv⟩ := (n1 (by simp [noB, nb])).one
  obtain ⟨ys, hy, z1⟩ := (Gd.bind z1).lift
  rw [hd] at z1
  dsimp only at z1
  have a1 := a.next e1 k1
  split at z1
  · rename_i hlt
    have fin : ∀ {us' : List V}, RepL c.fa W1 us' ys → D.nx σ (upd H1 p (.lst (vs ++ us'))) := fun rl => z1 W1 _ σ e1.le (a1.upOwn hd g1 ((e1.repL g5).append rl))
    have hp1 := e1.k _ _ g4 g3 (fun _ z => by cases z)
    unfold seqOf at hy
    split at hy
    · cases hy
      cases rv with
      | tup hb rl => exact ⟨p, _, vs, _, rfl, rfl, hp1, .inr (k1.sub _ _ hb), by rw [g5.length, rl.length, sizeLine_eq]; exact hlt, fin rl⟩
    · cases hy
      cases rv with
      | lst hb rl => exact ⟨p, _, vs, _, rfl, rfl, hp1, .inl (k1.sub _ _ hb), by rw [g5.length, rl.length, sizeLine_eq]; exact hlt, fin rl⟩
    · cases hy
  · exact False.elim z1
end
end Mn

namespace Mn
open PySem L2 PySem.Spec PyProof.Rows
section
variable {c : Cn} {Γ : Gam} {cf : Nat → List D → Hq → R D} {k : Nat} {E : XK} {N : List Str} {sc : Scope} {X : Cx} {W0 : Wd} {H0 : Hp} {wf : Nat}
/-! ### targets that are tuples of targets -/
def gNs (c : Cn) : List Tg → TGs
  | [] => gNil
  | t :: ts => gCons (gT c t) (gNs c ts)
def chkTgs (N : List Str) (sc : Scope) : List Tg → List Expr → Bool
  | [], [] => true
  | t :: ts, e :: es => chkTg N sc t e && chkTgs N sc ts es
  | _, _ => false
theorem notStar_tg {t : Tg} {e : Expr} (h : chkTg N sc t e = true) : notStar e = true := by
  cases e <;> first | rfl | (cases t <;> exact Bool.noConfusion h)
theorem asg_ns {e : Expr} {es : List Expr} {env : PySem.Env} (h : notStar e = true) : assignEach (e :: es) env = (false, assign e env) :: assignEach es env := by
  cases e <;> first | rfl | exact Bool.noConfusion h
theorem sg_all (G : GX c E N k sc X) (hf : FnT X sc) : ∀ {ts : List Tg} {es : List Expr}, chkTgs N sc ts es = true → PGs X es (gNs c ts) ∧ (assignEach es X.env).length = es.length ∧ (assignEach es X.env).findIdx? (·.1) = none ∧ ts.length = es.length
  | [], [], _ => ⟨pgs_nil, rfl, rfl, rfl⟩
  | [], _ :: _, h => Bool.noConfusion h
  | _ :: _, [], h => Bool.noConfusion h
  | t :: ts, e :: es, h => by
    have h : (chkTg N sc t e && chkTgs N sc ts es) = true := h
    rw [Bool.and_eq_true] at h
    obtain ⟨z1, z2, z3, z4⟩ := sg_all G hf h.2
    have hs := asg_ns (es := es) (env := X.env) (notStar_tg h.1)
    refine ⟨pgs_cons (sg_of G hf h.1) z1 (by rw [hs]; rfl), ?_, ?_, ?_⟩
    · rw [hs, List.length_cons, z2]; rfl
    · rw [hs, List.findIdx?_cons, z3]; rfl
    · rw [List.length_cons, List.length_cons, z4]
theorem gNs_run {W : Wd} {H : Hp} {h : Hq} {Q : L2.St → Hp → Prop} : ∀ {ts : List Tg} {vs : List V} {ds : List D} {σ : L2.St} {ρ ρ' : Env}, At c W0 H0 W H h σ ρ → RepL c.fa W vs ds → bindTs ts ds ρ = some ρ' → (∀ σ', At c W0 H0 W H h σ' ρ' → Q σ' H) → gNs c ts vs σ H Q
  | [], _, _, σ, ρ, ρ', a, .nil, hb, q => by
    have hb : some ρ = some ρ' := hb
    cases hb
    exact ⟨rfl, q σ a⟩
  | [], _, _, _, _, _, _, .cons _ _, hb, _ => by cases hb
  | _ :: _, _, _, _, _, _, _, .nil, hb, _ => by cases hb
  | t :: ts, _, _, σ, ρ, ρ', a, .cons (v := v) (d := d) rv rt, hb, q => by
    have hb : ((bindTg t d ρ).bind fun ρ => bindTs ts _ ρ) = some ρ' := hb
    rw [Option.bind_eq_some_iff] at hb
    obtain ⟨ρ1, h1, h2⟩ := hb
    exact ⟨_, _, rfl, g_bind a rv h1 fun σ' a' => gNs_run a' rt h2 q⟩
theorem bindTs_len : ∀ {ts : List Tg} {ds : List D} {ρ ρ' : Env}, bindTs ts ds ρ = some ρ' → ts.length = ds.length
  | [], [], _, _, _ => rfl
  | [], _ :: _, _, _, h => by cases h
  | _ :: _, [], _, _, h => by cases h
  | t :: ts, d :: ds, ρ, ρ', h => by
    have h : ((bindTg t d ρ).bind fun ρ => bindTs ts ds ρ) = some ρ' := h
    rw [Option.bind_eq_some_iff] at h
    obtain ⟨ρ1, _, h2⟩ := h
    rw [List.length_cons, List.length_cons, bindTs_len h2]
theorem st_nest {ts : List Tg} {ms : Es} {tx vs : List Expr} {kt k2 : _} {pt pt2 pos : Pos} (G : GX c E N k sc X) (hf : FnT X sc) (hT : chkTgs N sc ts tx = true) (hA : AllE c cf E X ms vs) (nb : noB ms = true) (few : ms.len ≤ 1000) (hw : swappedStores [.Tuple tx kt pt] (.Tuple vs k2 pt2) X.env = pure none) :
    PS X (.Assign [.Tuple tx kt pt] (.Tuple vs k2 pt2) pos) (tS c cf E wf W0 H0 (.nest ts ms)) := by
  obtain ⟨g1, g2, g3, g4⟩ := sg_all G hf hT
  obtain ⟨a1, a2, a3⟩ := hA.pa
  refine weakS (ps_asg (pe_tup a1) (pg_tup G.calm g1 g2 g3) (sw_sole rfl) hw rfl) fun D σ H q => ?_
  obtain ⟨W, ρ, h, a, g⟩ := q
  simp only [exS] at g
  refine ⟨W, ρ, h, a.ok, a.sr, ((Gd.bind g).ext a.ext).mono fun ds h1 z us H1 W1 e1 k1 r1 n1 l1 => ?_⟩
  have rl := n1 nb
  obtain ⟨ρ', hb, z2⟩ := (Gd.bind z).lift
  refine ⟨by rw [rl.length, l1, sizeLine_eq]; omega, fun q hq => ?_⟩
  obtain ⟨e3, k3, _, _⟩ := fresh_ext (o := .tup us) k1 hq
  have an := (a.next e1 k1).next e3 k3
  have hlen : us.length = tx.length := by
    rw [rl.length, ← bindTs_len hb, g4]
  refine ⟨q, us, rfl, .inl (.of upd_same), hlen, gNs_run an (e3.repL rl) hb fun σ' a' => ?_⟩
  exact z2 W1 _ σ' (e1.trans e3).le a'
/-! ### raise -/
theorem isGl_of (G : GX c E N k sc X) {x : Str} (h : isGl sc x = true) : Gl X x ∧ (x == ("__debug__" : Str)) = false := isGl_gl G h
theorem Room.one {A : Around} {k : Nat} (r : Room k A) (hk : 1 ≤ k) : Room 1 A := ⟨r.hd, by have := r.dp; omega, by have := r.un; omega⟩
theorem st_raise (O : Gok c Γ cf k) (G : GX c E N k sc X) (tk : Takes X fun cls d _ H => E cls d H) (hr : Room 1 X.A) {n : Nat} {m : Mn.E} {x : Str} {v : Expr} {p p2 pos : Pos} (hx : isGl sc x = true) (hn : Γ.gc.lookup x = some (n, true)) (nb : isB m = false) (hv : SX c cf E X m v) (ns : notStar v = true) :
    PS X (.Raise (some (.Call (.Name x p) [v] [] p2)) none pos) (tS c cf E wf W0 H0 (.raise n m)) := by
  obtain ⟨C, mgC, hC⟩ := O.gc x n true hn
  obtain ⟨gl, db⟩ := isGl_gl G hx
  rcases hC with ⟨_, f, cl, S⟩ | ⟨z, _⟩
  · refine weakS (ps_raise G.calm tk (pmk_sup (C := C) (f := f) (by rw [G.prog, G.K]; exact S) gl (by rw [G.mg]; exact mgC) hr (hv.se.f nb) (by rw [star_cons ns]) db)) fun D σ H q => ?_
    obtain ⟨W, ρ, h, a, g⟩ := q
    simp only [exS] at g
    refine useF a g fun d h' v H' W' e' a' r g1 dx hdx => ?_
    obtain ⟨e3, k3, _, _⟩ := fresh_ext (o := .xd [(f, v)]) a'.ok hdx
    exact g1 W' _ (a'.ext.trans e3) k3 _ _ ⟨C, some f, cl, rfl, dx, v, rfl, upd_same, e3.rep r⟩
  · cases z
end
end Mn

namespace Mn
open PySem L2 PySem.Spec PyProof.Rows
/-! ### is this statement that term? -/
def nmLoc (sc : Scope) : Expr → Bool
  | .Name x _ => sc.names.lookup x == some .local
  | _ => false
section
variable (Γ : Gam) (N : List Str)
/-- how several names are stored -/
def chkPar (is : List Nat) (e : Mn.E) (ts vs : List Expr) (sc : Scope) : Bool := match swS ts vs sc with
  | some none => true
  | some (some ns) => ts.all (nmLoc sc) && (match is, e, ts, vs with
    | [_, _], .tup (.cons _ (.cons _ .nil)), [.Name x _, .Name y _], [_, _] => decide (ns = [x, y])
    | [_, _, _], .tup (.cons _ (.cons _ (.cons _ .nil))), [.Name x _, .Name y _, .Name z _], [_, _, _] => decide (ns = [x, y, z])
    | _, _, _, _ => false)
  | none => false
def parOk (is : List Nat) (e : Mn.E) (ts : List Expr) (sc : Scope) : Expr → Bool
  | .Tuple vs _ _ => chkPar is e ts vs sc
  | _ => true
def ixT : Expr → Option (Str × Expr × Str)
  | .Tuple [.Subscript (.Name x _) y _, .Name w _] _ _ => some (x, y, w)
  | _ => none
/-- (x, y) = (l, r), stored from the right -/
def parT (sc : Scope) (i j : Nat) : Expr → Expr → Bool
  | .Tuple [.Name x px, .Name y py] kt pt, .Tuple [l, r] _ _ => chkTg N sc (.tp [i, j]) (.Tuple [.Name x px, .Name y py] kt pt) && (decide (swS [.Name x px, .Name y py] [l, r] sc = some none) || ((sc.names.lookup x == some .local) && (sc.names.lookup y == some .local) && decide (swS [.Name x px, .Name y py] [l, r] sc = some (some [x, y]))))
  | _, _ => false
def parE (t v : Expr) (f : Expr → Expr → Bool) : Bool := match v with
  | .Tuple [l, r] _ _ => f l r
  | _ => false
def chkM : List (Nat × Bool) → Es → Scope → List Expr → Bool
  | [], .nil, _, [] => true
  | t :: ts, .cons m ms, sc, e :: es => (if t.2 then isN m || isDm m else !isB m) && chkE Γ N m sc e && notStar e && chkM ts ms sc es
  | _, _, _, _ => false
def tup2 : Expr → Expr → (List Expr → List Expr → Bool) → Bool
  | .Tuple ts _ _, .Tuple vs _ _, f => f ts vs
  | _, _, _ => false
mutual
def chkS : Mn.S → Scope → Stmt → Bool
  | .no, _, _ => true
  | .set i e, sc, .Assign [.Name x _] v _ => locC N sc i x && !isB e && chkE Γ N e sc v && (noComp v || isLC v)
  | .own i e, sc, .Assign [.Name x _] v _ => locC N sc i x && (isN e || (isDm e && noComp v)) && chkE Γ N e sc v && (noComp v || isLC v)
  | .tset is e, sc, .Assign [.Tuple ts k1 p1] v _ => chkTg N sc (.tp is) (.Tuple ts k1 p1) && !isB e && chkE Γ N e sc v && noComp v && parOk is e ts sc v
  | .par i o a j p b, sc, .Assign [t] v _ => parT N sc i j t v && parE t v fun l r => (if o then isN a else !isB a) && (if p then isN b else !isB b) && chkE Γ N a sc l && chkE Γ N b sc r && notStar l && notStar r
  | .multi ts ms, sc, .Assign [t] v _ => chkTg N sc (.tp (ts.map (·.1))) t && decide (ts.length ≤ 1000) && tup2 t v fun tx vs => decide (swS tx vs sc = some none) && chkM Γ N ts ms sc vs
  | .ixset i k v, sc, .Assign [.Subscript (.Name x _) y _] e _ => isVis N sc i x && !isB v && !isB k && chkE Γ N k sc y && plIx y && chkE Γ N v sc e && noComp e
  | .ixtup i k j e, sc, .Assign [t] v _ => match ixT t with
    | some (x, y, w) => isVis N sc i x && locC N sc j w && !isB e && !isB k && chkE Γ N k sc y && plIx y && chkE Γ N e sc v && noComp v && !isTupE v
    | none => false
  | .app i e, sc, .Expr (.Call (.Attribute (.Name x _) nm apos) [y] [] cpos) _ => isVis N sc i x && decide (nm = "append") && !isB e && chkE Γ N e sc y && notStar y && (apos.endLine == cpos.line)
  | .ext i e, sc, .Expr (.Call (.Attribute (.Name x _) nm apos) [y] [] cpos) _ => isVis N sc i x && decide (nm = "extend") && !isB e && chkE Γ N e sc y && notStar y && (apos.endLine == cpos.line)
  | .ex e, sc, .Expr v _ => !isB e && chkE Γ N e sc v && noComp v
  | .ite c a b, sc, .If t x y _ => chkE Γ N c sc t && notIf t && chkSs a sc x && chkSs b sc y
  | .for tg it b, sc, .For t i body [] _ => chkI Γ N it tg sc i && !itB it && chkTg N sc tg t && chkSs b sc body
  | .while c b, sc, .While t body [] _ => chkE Γ N c sc t && notIf t && chkSs b sc body
  | .ret e, sc, .Return (some v) _ => !isB e && chkE Γ N e sc v
  | .retn, _, .Return none _ => true
  | .nest ts ms, sc, .Assign [t] v _ => tup2 t v fun tx vs => decide (swS tx vs sc = some none) && chkTgs N sc ts tx && noB ms && decide (ms.len ≤ 1000) && chkEs Γ N ms sc vs
  | .raise n e, sc, .Raise (some (.Call (.Name x _) [v] [] _)) none _ => isGl sc x && decide (Γ.gc.lookup x = some (n, true)) && !isB e && notStar v && chkE Γ N e sc v && !lamSc sc
  | .pass, _, .Pass _ => true
  | _, _, _ => false
def chkSs : Ss → Scope → List Stmt → Bool
  | .nil, _, [] => true
  | .cons (.frz _) r, sc, sts => chkSs r sc sts
  | .cons (.drop _) r, sc, sts => chkSs r sc sts
  | .cons s r, sc, st :: sts => chkS s sc st && chkSs r sc sts
  | _, _, _ => false
end
end
section
variable {c : Cn} {Γ : Gam} {cf : Nat → List D → Hq → R D} {k : Nat} {E : XK} {N : List Str} {sc : Scope} {X : Cx} {W0 : Wd} {H0 : Hp} {wf : Nat}
theorem st_tset_any {is : List Nat} {e : Mn.E} {ts : List Expr} {v : Expr} {k1 : _} {p1 pos : Pos} (O : Gok c Γ cf k) (G : GX c E N k sc X) (hf : FnT X sc) (h1 : chkTg N sc (.tp is) (.Tuple ts k1 p1) = true) (hb : isB e = false) (hv : SX c cf E X e v) (hc : chkE Γ N e sc v = true) (hs : noComp v = true)
    (hp : parOk is e ts sc v = true) : PS X (.Assign [.Tuple ts k1 p1] v pos) (tS c cf E wf W0 H0 (.tset is e)) := by
  by_cases ht : isTupE v = true
  · cases v with
    | Tuple vs k2 p2 =>
      have hp : chkPar is e ts vs sc = true := hp
      unfold chkPar at hp
      split at hp
      · rename_i hsw
        exact st_tset G hf h1 hb hv hs (swS_eq (by rw [G.sc]; exact hsw))
      · rename_i ns hsw
        obtain ⟨hl, hm⟩ := band hp
        split at hm
        · obtain rfl := bdec hm
          obtain ⟨hc1, hc2⟩ := band hc
          simp only [List.all_cons, List.all_nil, Bool.and_true, Bool.and_eq_true, nmLoc, beq_iff_eq] at hl
          obtain ⟨z1, z2, z3⟩ := (sEs O _ G hc2).pa
          exact st_par G h1 z1 (band hc1).1 hl.1 hl.2 (swS_eq (by rw [G.sc]; exact hsw))
        · obtain rfl := bdec hm
          obtain ⟨hc1, hc2⟩ := band hc
          simp only [List.all_cons, List.all_nil, Bool.and_true, Bool.and_eq_true, nmLoc, beq_iff_eq] at hl
          obtain ⟨z1, z2, z3⟩ := (sEs O _ G hc2).pa
          exact st_par3 G h1 z1 (band hc1).1 hl.1 hl.2.1 hl.2.2 (swS_eq (by rw [G.sc]; exact hsw))
        · exact Bool.noConfusion hm
      · exact Bool.noConfusion hp
    | _ => exact Bool.noConfusion ht
  · exact st_tset G hf h1 hb hv hs (sw_not ((Bool.not_eq_true _).mp ht))
theorem ixT_eq {t y : Expr} {x w : Str} (h : ixT t = some (x, y, w)) : ∃ px ps pw kt pt, t = .Tuple [.Subscript (.Name x px) y ps, .Name w pw] kt pt := by
  unfold ixT at h
  split at h
  · cases h
    exact ⟨_, _, _, _, _, rfl⟩
  · cases h
theorem parT_eq {i j : Nat} {t v : Expr} (h : parT N sc i j t v = true) : ∃ x y px py kt pt l r k2 pt2, t = .Tuple [.Name x px, .Name y py] kt pt ∧ v = .Tuple [l, r] k2 pt2 := by
  unfold parT at h
  split at h
  · exact ⟨_, _, _, _, _, _, _, _, _, _, rfl, rfl⟩
  · exact Bool.noConfusion h
theorem bitE {a b c : Bool} (h : (if a then b else c) = true) : (a = true → b = true) ∧ (a = false → c = true) := by
  cases a
  · exact ⟨fun z => Bool.noConfusion z, fun _ => h⟩
  · exact ⟨fun _ => h, fun z => Bool.noConfusion z⟩
theorem allX (O : Gok c Γ cf k) (G : GX c E N k sc X) : ∀ {ts : List (Nat × Bool)} {ms : Es} {es : List Expr}, chkM Γ N ts ms sc es = true → AllX c cf E X ts ms es
  | [], .nil, [], _ => trivial
  | t :: ts, .cons m ms, e :: es, h => by
    obtain ⟨h, h4⟩ := band h
    obtain ⟨h, h3⟩ := band h
    obtain ⟨h1, h2⟩ := band h
    refine ⟨h3, ?_, allX O G h4⟩
    obtain ⟨i, o⟩ := t
    cases o with
    | false => exact pe_xF ((sE O m G h2).se.f (bnot h1))
    | true =>
      rcases Bool.or_eq_true_iff.mp (show (isN m || isDm m) = true from h1) with z | z
      · exact pe_xN ((sE O m G h2).se.n z)
      · exact pe_xD (sDm O G z h2)
  | [], .nil, _ :: _, h => Bool.noConfusion h
  | [], .cons _ _, _, h => Bool.noConfusion h
  | _ :: _, .nil, _, h => Bool.noConfusion h
  | _ :: _, .cons _ _, [], h => Bool.noConfusion h
theorem raise_shape {n : Nat} {a : Mn.E} {st : Stmt} (h : chkS Γ N (.raise n a) sc st = true) : ∃ x v p p2 pos, st = .Raise (some (.Call (.Name x p) [v] [] p2)) none pos ∧ (isGl sc x && decide (Γ.gc.lookup x = some (n, true)) && !isB a && notStar v && chkE Γ N a sc v && !lamSc sc) = true := by
  cases st with
  | Raise e cz pos =>
    cases e with
    | none => exact Bool.noConfusion h
    | some e =>
      cases e with
      | Call f as kws p2 =>
        cases f with
        | Name x p =>
          cases as with
          | nil => exact Bool.noConfusion h
          | cons y r =>
            cases r with
            | nil =>
              cases kws with
              | nil =>
                cases cz with
                | none => exact ⟨_, _, _, _, _, rfl, h⟩
                | some _ => exact Bool.noConfusion h
              | cons _ _ => exact Bool.noConfusion h
            | cons _ _ => exact Bool.noConfusion h
        | _ => exact Bool.noConfusion h
      | _ => exact Bool.noConfusion h
  | _ => exact Bool.noConfusion h
mutual
theorem sS (O : Gok c Γ cf k) (G : GX c E N k sc X) (hf : FnT X sc) (hp : PassesOwn (model X.prog X.w) X.A X.env X.xe) (tk : Takes X fun cls d _ H => E cls d H) : ∀ (m : Mn.S) {st : Stmt}, chkS Γ N m sc st = true → PS X st (tS c cf E wf W0 H0 m)
  | .no, st, h => s_noS
  | .set i e, st, h => by
    cases st with
    | Assign ts v pos =>
      match ts, h with
      | [t], h => cases t with
        | Name x p =>
          obtain ⟨h, h4⟩ := band h
          obtain ⟨h, h3⟩ := band h
          obtain ⟨h1, h2⟩ := band h
          exact st_set G hf h1 (bnot h2) (sE O e G h3) h4
        | _ => exact Bool.noConfusion h
      | [], h => exact Bool.noConfusion h
      | t :: _ :: _, h => exfalso; cases t <;> exact Bool.noConfusion h
    | _ => exact Bool.noConfusion h
  | .own i e, st, h => by
    cases st with
    | Assign ts v pos =>
      match ts, h with
      | [t], h => cases t with
        | Name x p =>
          obtain ⟨h, h4⟩ := band h
          obtain ⟨h, h3⟩ := band h
          obtain ⟨h1, h2⟩ := band h
          rcases Bool.or_eq_true_iff.mp h2 with h2 | h2
          · exact st_own G hf h1 h2 (sE O e G h3) h4
          · obtain ⟨h2, h5⟩ := band h2
            exact st_ownD G hf h1 (sDm O G h2 h3) h5
        | _ => exact Bool.noConfusion h
      | [], h => exact Bool.noConfusion h
      | t :: _ :: _, h => exfalso; cases t <;> exact Bool.noConfusion h
    | _ => exact Bool.noConfusion h
  | .tset is e, st, h => by
    cases st with
    | Assign ts v pos =>
      match ts, h with
      | [t], h => cases t with
        | Tuple ts k1 p1 =>
          obtain ⟨h, h5⟩ := band h
          obtain ⟨h, h4⟩ := band h
          obtain ⟨h, h3⟩ := band h
          obtain ⟨h1, h2⟩ := band h
          exact st_tset_any O G hf h1 (bnot h2) (sE O e G h3) h3 h4 h5
        | _ => exact Bool.noConfusion h
      | [], h => exact Bool.noConfusion h
      | t :: _ :: _, h => exfalso; cases t <;> exact Bool.noConfusion h
    | _ => exact Bool.noConfusion h
  | .par i o a j p b, st, h => by
    cases st with
    | Assign ts v pos =>
      match ts, h with
      | [t], h =>
        obtain ⟨h, h0⟩ := band (show (parT N sc i j t v && parE t v fun l r => (if o then isN a else !isB a) && (if p then isN b else !isB b) && chkE Γ N a sc l && chkE Γ N b sc r && notStar l && notStar r) = true from h)
        obtain ⟨x, y, px, py, kt, pt, l, r, k2, pt2, rfl, rfl⟩ := parT_eq h
        obtain ⟨g1, g⟩ := band h
        obtain ⟨h, h6⟩ := band (show ((if o then isN a else !isB a) && (if p then isN b else !isB b) && chkE Γ N a sc l && chkE Γ N b sc r && notStar l && notStar r) = true from h0)
        obtain ⟨h, h5⟩ := band h
        obtain ⟨h, h4⟩ := band h
        obtain ⟨h, h3⟩ := band h
        obtain ⟨h1, h2⟩ := band h
        rcases Bool.or_eq_true_iff.mp g with g | g
        · exact st_par2t G hf g1 (sE O a G h3) (sE O b G h4) h5 h6 (bitE h1).1 (fun z => bnot ((bitE h1).2 z)) (bitE h2).1 (fun z => bnot ((bitE h2).2 z)) (swS_eq (by rw [G.sc]; exact bdec g))
        · obtain ⟨g, g4⟩ := band g
          obtain ⟨g2, g3⟩ := band g
          exact st_par2 G g1 (sE O a G h3) (sE O b G h4) h5 h6 (bitE h1).1 (fun z => bnot ((bitE h1).2 z)) (bitE h2).1 (fun z => bnot ((bitE h2).2 z)) (beq_iff_eq.mp g2) (beq_iff_eq.mp g3) (swS_eq (by rw [G.sc]; exact bdec g4))
      | [], h => exact Bool.noConfusion h
      | _ :: _ :: _, h => exact Bool.noConfusion h
    | _ => exact Bool.noConfusion h
  | .multi ts ms, st, h => by
    cases st with
    | Assign tgs v pos =>
      match tgs, h with
      | [t], h =>
        obtain ⟨h, h3⟩ := band (show (chkTg N sc (.tp (ts.map (·.1))) t && decide (ts.length ≤ 1000) && tup2 t v fun tx vs => decide (swS tx vs sc = some none) && chkM Γ N ts ms sc vs) = true from h)
        obtain ⟨h1, h2⟩ := band h
        cases t with
        | Tuple tx kt pt =>
          cases v with
          | Tuple vs k2 pt2 =>
            obtain ⟨h4, h5⟩ := band h3
            exact st_multi G hf h1 (allX O G h5) (swS_eq (by rw [G.sc]; exact bdec h4)) (bdec h2)
          | _ => exact Bool.noConfusion h3
        | _ => exact Bool.noConfusion h1
      | [], h => exact Bool.noConfusion h
      | _ :: _ :: _, h => exact Bool.noConfusion h
    | _ => exact Bool.noConfusion h
  | .ixset i k v, st, h => by
    cases st with
    | Assign ts e pos =>
      match ts, h with
      | [t], h => cases t with
        | Subscript o y ps => cases o with
          | Name x px =>
            obtain ⟨h, h7⟩ := band h
            obtain ⟨h, h6⟩ := band h
            obtain ⟨h, h5⟩ := band h
            obtain ⟨h, h4⟩ := band h
            obtain ⟨h, h3⟩ := band h
            obtain ⟨h1, h2⟩ := band h
            exact st_ixset G h1 (bnot h2) (bnot h3) (sE O k G h4) h5 (sE O v G h6) h7
          | _ => exact Bool.noConfusion h
        | _ => exact Bool.noConfusion h
      | [], h => exact Bool.noConfusion h
      | t :: _ :: _, h => exfalso; cases t <;> first | exact Bool.noConfusion h | (rename_i o _ _; cases o <;> exact Bool.noConfusion h)
    | _ => exact Bool.noConfusion h
  | .ixtup i k j e, st, h => by
    cases st with
    | Assign ts v pos =>
      match ts, h with
      | [t], h =>
        have h : (match ixT t with
          | some (x, y, w) => isVis N sc i x && locC N sc j w && !isB e && !isB k && chkE Γ N k sc y && plIx y && chkE Γ N e sc v && noComp v && !isTupE v
          | none => false) = true := h
        split at h
        · rename_i x y w hix
          obtain ⟨px, ps, pw, kt, pt, rfl⟩ := ixT_eq hix
          obtain ⟨h, h9⟩ := band h
          obtain ⟨h, h8⟩ := band h
          obtain ⟨h, h7⟩ := band h
          obtain ⟨h, h6⟩ := band h
          obtain ⟨h, h5⟩ := band h
          obtain ⟨h, h4⟩ := band h
          obtain ⟨h, h3⟩ := band h
          obtain ⟨h1, h2⟩ := band h
          exact st_ixtup G hf h1 h2 (bnot h3) (bnot h4) (sE O k G h5) h6 (sE O e G h7) h8 (bnot h9)
        · exact Bool.noConfusion h
      | [], h => exact Bool.noConfusion h
      | t :: _ :: _, h => exact Bool.noConfusion h
    | _ => exact Bool.noConfusion h
  | .app i e, st, h => by
    cases st with
    | Expr v pos => cases v with
      | Call f as ks cpos => cases f with
        | Attribute o nm apos => cases o with
          | Name x px =>
            match as, ks, h with
            | [y], [], h =>
              obtain ⟨h, h6⟩ := band h
              obtain ⟨h, h5⟩ := band h
              obtain ⟨h, h4⟩ := band h
              obtain ⟨h, h3⟩ := band h
              obtain ⟨h1, h2⟩ := band h
              exact st_app G h1 (bdec h2) (bnot h3) (sE O e G h4) h5 h6
            | [], _, h => exact Bool.noConfusion h
            | _ :: _ :: _, _, h => exact Bool.noConfusion h
            | [_], _ :: _, h => exact Bool.noConfusion h
          | _ => exact Bool.noConfusion h
        | _ => exact Bool.noConfusion h
      | _ => exact Bool.noConfusion h
    | _ => exact Bool.noConfusion h
  | .ext i e, st, h => by
    cases st with
    | Expr v pos => cases v with
      | Call f as ks cpos => cases f with
        | Attribute o nm apos => cases o with
          | Name x px =>
            match as, ks, h with
            | [y], [], h =>
              obtain ⟨h, h6⟩ := band h
              obtain ⟨h, h5⟩ := band h
              obtain ⟨h, h4⟩ := band h
              obtain ⟨h, h3⟩ := band h
              obtain ⟨h1, h2⟩ := band h
              exact st_ext G h1 (bdec h2) (bnot h3) (sE O e G h4) h5 h6
            | [], _, h => exact Bool.noConfusion h
            | _ :: _ :: _, _, h => exact Bool.noConfusion h
            | [_], _ :: _, h => exact Bool.noConfusion h
          | _ => exact Bool.noConfusion h
        | _ => exact Bool.noConfusion h
      | _ => exact Bool.noConfusion h
    | _ => exact Bool.noConfusion h
  | .ex e, st, h => by
    cases st with
    | Expr v pos =>
      obtain ⟨h, h3⟩ := band h
      obtain ⟨h1, h2⟩ := band h
      exact st_ex (bnot h1) (sE O e G h2) h3
    | _ => exact Bool.noConfusion h
  | .ite e a b, st, h => by
    cases st with
    | If t x y pos =>
      obtain ⟨h, h4⟩ := band h
      obtain ⟨h, h3⟩ := band h
      obtain ⟨h1, h2⟩ := band h
      exact st_ite (sE O e G h1) h2 (sSs O G hf hp tk a h3) (sSs O G hf hp tk b h4)
    | _ => exact Bool.noConfusion h
  | .for tg it b, st, h => by
    cases st with
    | For t i body els pos => cases els with
      | nil =>
        obtain ⟨h, h4⟩ := band h
        obtain ⟨h, h3⟩ := band h
        obtain ⟨h1, h2⟩ := band h
        obtain ⟨y1, y2⟩ := sI O it tg true (t := t) G h1 (tg_tup h3) (fun _ => bnot h2)
        exact st_for G hp y1 (sg_of G hf h3) (sSs O G hf hp tk b h4) y2
      | cons _ _ => exact Bool.noConfusion h
    | _ => exact Bool.noConfusion h
  | .while e b, st, h => by
    cases st with
    | While t body els pos => cases els with
      | nil =>
        obtain ⟨h, h3⟩ := band h
        obtain ⟨h1, h2⟩ := band h
        exact st_while hp (sE O e G h1) h2 (sSs O G hf hp tk b h3)
      | cons _ _ => exact Bool.noConfusion h
    | _ => exact Bool.noConfusion h
  | .ret e, st, h => by
    cases st with
    | Return v pos => cases v with
      | some v => exact st_ret (bnot (band h).1) (sE O e G (band h).2)
      | none => exact Bool.noConfusion h
    | _ => exact Bool.noConfusion h
  | .retn, st, h => by
    cases st with
    | Return v pos => cases v with
      | some v => exact Bool.noConfusion h
      | none => exact st_retn
    | _ => exact Bool.noConfusion h
  | .pass, st, h => by
    cases st with
    | Pass pos => exact st_pass
    | _ => exact Bool.noConfusion h
  | .nest ts ms, st, h => by
    cases st with
    | Assign tgs v pos =>
      match tgs, h with
      | [t], h =>
        have h : (tup2 t v fun tx vs => decide (swS tx vs sc = some none) && chkTgs N sc ts tx && noB ms && decide (ms.len ≤ 1000) && chkEs Γ N ms sc vs) = true := h
        cases t with
        | Tuple tx kt pt =>
          cases v with
          | Tuple vs k2 pt2 =>
            obtain ⟨h, h5⟩ := band h
            obtain ⟨h, h4⟩ := band h
            obtain ⟨h, h3⟩ := band h
            obtain ⟨h1, h2⟩ := band h
            exact st_nest G hf h2 (sEs O ms G h5) h3 (bdec h4) (swS_eq (by rw [G.sc]; exact bdec h1))
          | _ => exact Bool.noConfusion h
        | _ => exact Bool.noConfusion h
      | [], h => exact Bool.noConfusion h
      | _ :: _ :: _, h => exact Bool.noConfusion h
    | _ => exact Bool.noConfusion h
  | .raise n e, st, h => by
    obtain ⟨x, v, p, p2, pos, rfl, h⟩ := raise_shape h
    obtain ⟨h, h6⟩ := band h
    obtain ⟨h, h5⟩ := band h
    obtain ⟨h, h4⟩ := band h
    obtain ⟨h, h3⟩ := band h
    obtain ⟨h1, h2⟩ := band h
    exact st_raise O G tk (Room.one (G.r1 (by rw [G.sc]; exact bnot h6)) (by omega)) h1 (bdec h2) (bnot h3) (sE O e G h5) h4
  | .frz _, st, h => by cases st <;> exact Bool.noConfusion h
  | .drop _, st, h => by cases st <;> exact Bool.noConfusion h
theorem sSs (O : Gok c Γ cf k) (G : GX c E N k sc X) (hf : FnT X sc) (hp : PassesOwn (model X.prog X.w) X.A X.env X.xe) (tk : Takes X fun cls d _ H => E cls d H) : ∀ (m : Ss) {sts : List Stmt}, chkSs Γ N m sc sts = true → PSs X sts (tSs c cf E wf W0 H0 m)
  | .nil, sts, h => by
    cases sts with
    | nil => exact ss_nil
    | cons _ _ => exact Bool.noConfusion h
  | .cons s r, sts, h => by
    have step : ∀ {st : Stmt} {sts : List Stmt}, (chkS Γ N s sc st && chkSs Γ N r sc sts) = true → PSs X (st :: sts) (tSs c cf E wf W0 H0 (.cons s r)) := fun h => ss_cons (sS O G hf hp tk s (band h).1) (sSs O G hf hp tk r (band h).2)
    cases s with
    | frz i => cases sts <;> exact ss_frz (sSs O G hf hp tk r h)
    | drop i => cases sts <;> exact ss_drop (sSs O G hf hp tk r h)
    | _ => cases sts with
      | nil => exact Bool.noConfusion h
      | cons st sts => exact step h
end
end
end Mn

namespace Mn
open PySem L2 PySem.Spec PyProof.Rows
section
variable {c : Cn} {Γ : Gam} {k : Nat}
/-! ### a def entered -/
/-- the body is run behind its entry, the guards known -/
theorem enter {c : Cn} {k : Nat} {fad : Addr} {x qual : Str} {pr : Arguments} {body : List Stmt} {scope : Scope} {fd : FuncData} {N ps : List Str} {sp : Sp} (F : FunD c.K x qual pr body scope [] [] fad fd) (S : FnScope N ps scope) (hlen : ∀ vs H Q E, sp vs H Q E → vs.length = ps.length)
    (hb : ∀ (cdv : Value) (A : Around) (outer : List PySem.Env) (s : Shared) (H : Hp) (vs : List V) (Q : VK) (E : XK), (∃ oc od osl fd', c.K.lookup fad = some ⟨oc, od, .func fd', osl⟩ ∧ fd'.code = cdv) → A.guards = some [] → Room k (A.deeper (envOfC qual scope s.heap.objs.size fad cdv)) → sp vs H Q E →
      ∃ t, PSs (cxOf c.CX c.P c.w c.K c.mg c.base N qual scope fad cdv A outer s H E) body t ∧ t { nx := fun _ H' => Q .non H', rt := Q } (start N vs) H) : FnG c (k + 1) fad fd ps sp := by
  obtain ⟨oc, od, dV, kV, doc, pm, an, cdv, ct, osl, efd, look, hcode, _, _⟩ := F.ex
  subst efd
  refine ⟨fun A outer s H args us vs Q E room gd en bind rel q => ?_⟩
  have len := hlen _ _ _ _ q
  have inK : c.K.In s.heap := PySem.W.Frag.In.keeps en.mod.kin fun b o e => (en.bs b o e).1
  have noLim : s.heap.NoLimit := Heap.NoLimit.keeps en.mod.nolimit fun b o e => (en.bs b o e).1
  have kinds : ∀ y ∈ ps.zip us, scope.names.lookup y.1 = some .local ∨ (scope.names.lookup y.1 = some .cell ∧ ((cellsFrom (s.heap.objs.size + 1) scope.names []).lookup y.1).isSome = true) := by
    intro y hy
    have hm : y.1 ∈ ps := (List.of_mem_zip (a := y.1) (b := y.2) hy).1
    rcases S.par y.1 hm with z | z
    · left; exact z
    · right; exact ⟨z, PySem.W.cellsFrom_some _ _ _ (.inl z)⟩
  refine codeAny_call_function room.depth (inK _ _ look) rfl S.co S.gen rfl (PySem.W.codeRec_of inK hcode) (bind _ _ _ _ ?_)
  refine wpAny_newFunctionEnv_cells S.kind kinds fun env henv s1 made => ?_
  subst henv
  obtain ⟨t, ht, hq⟩ := hb cdv A outer s H vs Q E ⟨_, _, _, _, look, rfl⟩ gd (room.deeper _) q
  have start0 := inv_start (CX := c.CX) (E := E) S room.hd en len rel made
  refine ⟨noLim.keeps made.toInCall.keep, codeAny_func (wpAny_mono (ht.run [] s1 (start N vs) H _ start0 hq) (fun fl s' end_ => ?_) fun e s' h => h)⟩
  have ret : ∀ {σ' : L2.St} {H' : Hp} {v : V} {u : Value}, Inv (cxOf c.CX c.P c.w c.K c.mg c.base N qual scope fad cdv A outer s H E) [] σ' H' s' → RelV v u → Q v H' → CE outer c.P c.w H s Q u s' := by
    intro σ' H' v u J rv z
    exact ⟨v, H', J.os, J.bare, J.base, J.hok, rv, z⟩
  match fl, end_ with
  | .ret u, ⟨v, σ', H', J, rv, z⟩ => exact ret J rv z
  | .next, ⟨σ', H', J, z⟩ => exact ret (v := .non) (u := .none) J rfl z
  | .brk, ⟨_, _, _, z⟩ => exact z.elim
  | .cont, ⟨_, _, _, z⟩ => exact z.elim
/-- the slots at the entry -/
theorem sr_start {W : Wd} {H : Hp} {vs : List V} {ds : List D} {N : List Str} {np ns : Nat} (r : RepL c.fa W vs ds) (hn : np = ds.length) (hs : ns = N.length) : Sr c.fa W H (start N vs) (ds.map .fz ++ List.replicate (ns - np) .no) := by
  subst hn hs
  have hl := r.length
  have no : ∀ (j : Nat) (d : D), (ds.map Sl.fz ++ List.replicate (N.length - ds.length) .no)[j]? ≠ some (.ow d) := fun j d h => by
    rw [List.getElem?_append] at h
    split at h
    · rw [List.getElem?_map] at h
      cases e : ds[j]? <;> rw [e] at h <;> cases h
    · rw [List.getElem?_replicate] at h
      split at h <;> cases h
  refine ⟨?_, fun j d h => ?_, fun j d h => absurd h (no j d), fun i j p d e h => absurd h (no i d)⟩
  · unfold L2.start
    rw [List.length_append, List.length_append, List.length_map, List.length_map, List.length_replicate, List.length_replicate, hl]
  · rw [List.getElem?_append] at h
    split at h
    · rw [List.getElem?_map] at h
      rename_i hj
      cases e : ds[j]? with
      | none => rw [e] at h; cases h
      | some d' =>
        rw [e] at h
        cases h
        obtain ⟨v, h1, h2⟩ := r.get e
        refine ⟨v, ?_, h2⟩
        unfold L2.start
        rw [List.getElem?_append_left (by rw [List.length_map]; exact (List.getElem?_eq_some_iff.mp h1).1), List.getElem?_map, h1]
        rfl
    · rw [List.getElem?_replicate] at h
      split at h <;> cases h
theorem Room.le {A : Around} {k j : Nat} (r : Room k A) (hj : j ≤ k) : Room j A := ⟨r.hd, by have := r.dp; omega, by have := r.un; omega⟩
theorem fnG_of {c : Cn} {G : Nat → Option Fn} {wf n l : Nat} {fn : Fn} {fad : Addr} {x qual : Str} {pr : Arguments} {body : List Stmt} {scope : Scope} {fd : FuncData} {N ps : List Str} (hcx : c.CX = CX c.P c.w) (hfk : c.fa.K = c.K) (F : FunD c.K x qual pr body scope [] [] fad fd) (S : FnScope N ps scope)
    (hG : G n = some fn) (hnp : fn.np = ps.length) (hns : fn.ns = N.length) (hch : chkSs Γ N fn.body scope body = true) (O : Gok c Γ (callF G wf k) l)
    (hlm : ("<lambda>" : Str) ∈ N → ∃ cc P, (∀ oc od osl fd', c.K.lookup fad = some ⟨oc, od, .func fd', osl⟩ → fd'.code = .ref cc) ∧ LamX.TabB c.base c.mg cc P ∧ (P, (qual ++ ".<locals>.") ++ "<lambda>") ∈ c.fa.T ∧ ∀ p ∈ c.fa.T, p.1 = P → p.2 = (qual ++ ".<locals>.") ++ "<lambda>") :
    FnG c (l + 3) fad fd ps (spF c (callF G wf (k + 1)) n) := by
  obtain ⟨P0, w0, K0, mg0, b0, X0, fa0⟩ := c
  have hcx : X0 = CX P0 w0 := hcx
  subst hcx
  have ecall : ∀ ds h, callF G wf (k + 1) n ds h = runFn (callF G wf k) wf fn ds h := fun ds h => by
    show (match G n with | some f => runFn (callF G wf k) wf f ds h | none => .bad) = _
    rw [hG]
  have lenD : ∀ (ds : List D) (h : Hq) (W : Wd) (H : Hp) (E : XK) (Q : D → Hq → Prop), Gd ⟨P0, w0, K0, mg0, b0, CX P0 w0, fa0⟩ E W H (callF G wf (k + 1) n ds h) Q → ds.length = fn.np := fun ds h W H E Q g => by
    rw [ecall] at g
    unfold runFn at g
    split at g
    · assumption
    · exact False.elim g
  refine enter (k := l + 2) F S (fun vs H Q E q => ?_) fun cdv A outer s H vs Q E isC gd room q => ?_
  · obtain ⟨W, ds, h, kk, r, g⟩ := q
    rw [r.length, lenD ds h W H E _ g, hnp]
  obtain ⟨W, ds, h, kk, r, g⟩ := q
  have hl := lenD ds h W H E _ g
  have G' : GX ⟨P0, w0, K0, mg0, b0, CX P0 w0, fa0⟩ E N l scope (cxOf (CX P0 w0) P0 w0 K0 mg0 b0 N qual scope fad cdv A outer s H E) := by
    refine ⟨rfl, rfl, rfl, rfl, rfl, rfl, rfl, S.nd, rfl, Room.le room (by omega), gd, ?_, hfk, ?_, fun _ => Room.le room (by omega), fun _ _ => room, fun _ hN => ?_⟩
    · intro pins σ H1 s1 e s' I hc
      exact passes_call (takes_of (E := E) rfl rfl rfl rfl) (fun _ _ _ _ h => h) pins σ H1 s1 e s' I hc
    · intro outer' H1 s1 e s' hc
      obtain ⟨_, _, _, _, _, _, _, _, _, _, _, _, z⟩ := hc
      exact z
    · obtain ⟨cc, P, c1, c2, c3, c4⟩ := hlm hN
      obtain ⟨oc, od, osl, fd', lk, ec⟩ := isC
      have e := c1 _ _ _ _ lk
      rw [ec] at e
      subst e
      exact ⟨cc, P, rfl, c2, c3, c4⟩
  have hf : FnT (cxOf (CX P0 w0) P0 w0 K0 mg0 b0 N qual scope fad cdv A outer s H E) scope := fun y hy => by
    simp only [Bool.or_eq_true, beq_iff_eq] at hy
    refine ⟨?_, .inl rfl⟩
    rcases hy with z | z
    · exact .inl z
    · exact .inr z
  refine ⟨tSs ⟨P0, w0, K0, mg0, b0, CX P0 w0, fa0⟩ (callF G wf k) E wf W H fn.body, sSs O G' hf (passes_of rfl) (takes_of (X := cxOf (CX P0 w0) P0 w0 K0 mg0 b0 N qual scope fad cdv A outer s H E) (E := E) rfl rfl rfl rfl) fn.body hch, W, ds.map .fz ++ List.replicate (fn.ns - fn.np) .no, h, ⟨.refl W H, kk, sr_start r hl.symm hns, fun i d p h1 => ?_⟩, ?_⟩
  · exfalso
    rw [List.getElem?_append] at h1
    split at h1
    · rw [List.getElem?_map] at h1
      cases e : ds[i]? <;> rw [e] at h1 <;> cases h1
    · rw [List.getElem?_replicate] at h1
      split at h1 <;> cases h1
  · rw [ecall] at g
    unfold runFn at g
    rw [if_pos hl] at g
    refine (Gd.bind g).mono fun fl h' g1 => ?_
    cases fl with
    | nx ρ => exact fun W' H' σ' le a => g1 .non H' W' a.ext a.ok .non
    | rt d => exact fun W' H' v le e k' r' => g1 v H' W' e k' r'
    | bk ρ => exact False.elim g1
    | ct ρ => exact False.elim g1
/-! ### all defs of a law -/
structure Ent where
  d : He.DefD
  f : Fn
  N : List Str
def Ent.ps (e : Ent) : List Str := e.d.params.args.map (·.arg)
def scC (N ps : List Str) (sc : Scope) : Bool := (match sc.kind with | .function => true | _ => false) && !sc.isCoroutine && !sc.isGenerator && decide N.Nodup && decide (N.take ps.length = ps) && (ps.all fun x => sc.names.lookup x == some .local || sc.names.lookup x == some .cell) && sc.names.all fun y => !(y.2 == .free)
theorem sc_of {N ps : List Str} {sc : Scope} (h : scC N ps sc = true) : FnScope N ps sc := by
  obtain ⟨h, h7⟩ := band h
  obtain ⟨h, h6⟩ := band h
  obtain ⟨h, h5⟩ := band h
  obtain ⟨h, h4⟩ := band h
  obtain ⟨h, h3⟩ := band h
  obtain ⟨h1, h2⟩ := band h
  refine ⟨?_, bnot h2, bnot h3, bdec h4, bdec h5, fun x hx => ?_, fun y hy z => ?_⟩
  · split at h1
    · assumption
    · exact Bool.noConfusion h1
  · have z := List.all_eq_true.mp h6 x hx
    rw [Bool.or_eq_true] at z
    rcases z with z | z
    · exact .inl (beq_iff_eq.mp z)
    · exact .inr (beq_iff_eq.mp z)
  · have q := List.all_eq_true.mp h7 y hy
    rw [z] at q
    exact Bool.noConfusion q
def plainP (a : Arguments) : Bool := a.posonlyargs.isEmpty && a.vararg.isNone && a.kwonlyargs.isEmpty && a.kw_defaults.isEmpty && a.kwarg.isNone && a.defaults.isEmpty
theorem plainP_eq {a : Arguments} (h : plainP a = true) : a = parms a.args := by
  obtain ⟨h, h6⟩ := band h
  obtain ⟨h, h5⟩ := band h
  obtain ⟨h, h4⟩ := band h
  obtain ⟨h, h3⟩ := band h
  obtain ⟨h1, h2⟩ := band h
  obtain ⟨a1, a2, a3, a4, a5, a6, a7⟩ := a
  simp only [List.isEmpty_iff, Option.isNone_iff_eq_none] at h1 h2 h3 h4 h5 h6
  subst h1 h2 h3 h4 h5 h6
  rfl
def entC (Γ : Gam) (e : Ent) : Bool := plainP e.d.params && e.d.dfl.isEmpty && e.d.kwd.isEmpty && decide (e.ps.Nodup) && scC e.N e.ps e.d.scope && decide (e.f.np = e.ps.length) && decide (e.f.ns = e.N.length) && chkSs Γ e.N e.f.body e.d.scope e.d.body && decide (e.d.at_ = (e.d.name, none))
/-- a law's defs by their numbers -/
abbrev Tb := List (Nat × Ent)
def Tb.G (t : Tb) : Nat → Option Fn := fun n => (t.lookup n).map (·.f)
def Tb.gam (t : Tb) (gi : List (Str × Int)) (fr : List Str) (gc : List (Str × Nat × Bool)) (hd : Option (Str × List (Nat × Str × Bool))) : Gam := ⟨gi, t.map fun p => (p.2.d.name, p.1), fun n => ((t.lookup n).map Ent.ps).getD [], fr, gc, hd⟩
structure TbOk (c : Cn) (t : Tb) (gl : List (Str × Int)) (fl : List Str) (gc : List (Str × Nat × Bool)) (hd : Option (Str × List (Nat × Str × Bool))) : Prop where
  cx : c.CX = CX c.P c.w
  fk : c.fa.K = c.K
  gi : ∀ x i, gl.lookup x = some i → ∃ u, c.mg x = some (.int i u)
  fr : ∀ x, fl.contains x = true → c.mg x = none
  nd : (t.map (·.1)).Nodup
  df : ∀ p ∈ t, ∃ fd, FunD c.K p.2.d.name p.2.d.qual p.2.d.params p.2.d.body p.2.d.scope [] [] (He.fAd c.K p.2.d.at_) fd ∧ c.mg p.2.d.name = some (.ref (He.fAd c.K p.2.d.at_))
  fa : ∀ p ∈ t, c.fa.fn p.1 = some (He.fAd c.K p.2.d.at_)
  fb : ∀ n a, c.fa.fn n = some a → ∃ p ∈ t, p.1 = n ∧ a = He.fAd c.K p.2.d.at_
  ok : ∀ p ∈ t, entC (t.gam gl fl gc hd) p.2 = true
  cs : ∀ x n b, gc.lookup x = some (n, b) → ∃ C, c.mg x = some (.ref C) ∧ ((b = true ∧ ∃ f, c.fa.cl n = some (C, some f) ∧ SupC c.P c.K C f) ∨ (b = false ∧ c.fa.cl n = some (C, none) ∧ BareC c.K C))
  hr : ∀ x tb, hd = some (x, tb) → Hears c x tb
  lm : ∀ p ∈ t, ("<lambda>" : Str) ∈ p.2.N → ∃ cc P, (∀ oc od osl fd', c.K.lookup (He.fAd c.K p.2.d.at_) = some ⟨oc, od, .func fd', osl⟩ → fd'.code = .ref cc) ∧ LamX.TabB c.base c.mg cc P ∧ (P, (p.2.d.qual ++ ".<locals>.") ++ "<lambda>") ∈ c.fa.T ∧ ∀ z ∈ c.fa.T, z.1 = P → z.2 = (p.2.d.qual ++ ".<locals>.") ++ "<lambda>"
theorem lookup_of {α β : Type} [BEq α] [LawfulBEq α] : ∀ {l : List (α × β)} {a : α} {b : β}, (l.map (·.1)).Nodup → (a, b) ∈ l → l.lookup a = some b
  | [], _, _, _, h => by simp at h
  | (x, y) :: l, a, b, nd, h => by
    rw [List.map_cons, List.nodup_cons] at nd
    rw [List.lookup_cons]
    rcases List.mem_cons.mp h with e | h
    · cases e; simp
    · have hne : (a == x) = false := by
        refine beq_eq_false_iff_ne.mpr fun e => nd.1 ?_
        rw [← e]
        exact List.mem_map_of_mem (f := (·.1)) h
      rw [hne]
      exact lookup_of nd.2 h
theorem mem_of_look {α β : Type} [BEq α] [LawfulBEq α] : ∀ {l : List (α × β)} {a : α} {b : β}, l.lookup a = some b → (a, b) ∈ l
  | [], _, _, h => by cases h
  | (x, y) :: l, a, b, h => by
    rw [List.lookup_cons] at h
    by_cases e : (a == x) = true
    · rw [e] at h
      cases h
      have := beq_iff_eq.mp e
      subst this
      exact List.mem_cons_self
    · have e' : (a == x) = false := (Bool.not_eq_true _).mp e
      rw [e'] at h
      exact List.mem_cons_of_mem _ (mem_of_look h)
theorem gok {t : Tb} {gi : List (Str × Int)} {fr : List Str} {gc : List (Str × Nat × Bool)} {hd : Option (Str × List (Nat × Str × Bool))} (T : TbOk c t gi fr gc hd) (wf : Nat) : ∀ k, Gok c (t.gam gi fr gc hd) (callF t.G wf k) (3 * k) := by
  have hprm : ∀ p ∈ t, (t.gam gi fr gc hd).prm p.1 = p.2.ps := fun p hp => by
    show ((t.lookup p.1).map Ent.ps).getD [] = _
    rw [lookup_of (b := p.2) T.nd hp]
    rfl
  have fin : ∀ (k : Nat) (cf : Nat → List D → Hq → R D), (∀ n ds h, ds.length ≠ ((t.gam gi fr gc hd).prm n).length → cf n ds h = .bad) → (∀ p ∈ t, ∀ fd, FunD c.K p.2.d.name p.2.d.qual p.2.d.params p.2.d.body p.2.d.scope [] [] (He.fAd c.K p.2.d.at_) fd → FnG c k (He.fAd c.K p.2.d.at_) fd p.2.ps (spF c cf p.1)) → Gok c (t.gam gi fr gc hd) cf k := by
    intro k cf har h
    have one : ∀ p ∈ t, ∃ fd, PySem.W.keepIn c.K (.ref (He.fAd c.K p.2.d.at_)) = true ∧ FnG c k (He.fAd c.K p.2.d.at_) fd ((t.gam gi fr gc hd).prm p.1) (spF c cf p.1) ∧ BindP c.K fd ((t.gam gi fr gc hd).prm p.1) ∧ c.mg p.2.d.name = some (.ref (He.fAd c.K p.2.d.at_)) := fun p hp => by
      obtain ⟨fd, F, hg⟩ := T.df p hp
      refine ⟨fd, F.kp, ?_, ?_, hg⟩
      · rw [hprm p hp]; exact h p hp fd F
      · rw [hprm p hp]
        have ho := T.ok p hp
        obtain ⟨ho, _⟩ := band ho
        obtain ⟨ho, _⟩ := band ho
        obtain ⟨ho, _⟩ := band ho
        obtain ⟨ho, _⟩ := band ho
        obtain ⟨ho, _⟩ := band ho
        obtain ⟨ho, o4⟩ := band ho
        obtain ⟨ho, _⟩ := band ho
        obtain ⟨o1, _⟩ := band ho
        obtain ⟨oc, od, dV, kV, doc, pm, an, cdv, ct, osl, rfl, lk, hcd, hD, hK⟩ := F.ex
        rcases hD with ⟨_, rfl⟩ | ⟨e, _⟩
        · intro s us ws ks _ nk hl h1 h2 h3
          have e := bind_plain (x := p.2.d.name) (qual := p.2.d.qual) (as := p.2.d.params.args) (body := p.2.d.body) (scope := p.2.d.scope) (kV := kV) (doc := doc) (pm := pm) (an := an) (cdv := cdv) (ct := ct) (us := us) (ws := ws) (ks := ks) (bdec o4) nk hl h1 h2 (by rw [h3]; unfold Ent.ps; rw [List.length_map])
          rw [← plainP_eq o1] at e
          exact .of_eq e
        · exact absurd rfl e
    refine ⟨T.gi, T.fr, fun x n hx => ?_, fun n a hn => ?_, har, T.cx, T.cs, T.hr⟩
    · have hm := mem_of_look hx
      obtain ⟨p, hp, e⟩ := List.mem_map.mp hm
      cases e
      obtain ⟨fd, q1, q2, q3, hg⟩ := one p hp
      exact ⟨_, fd, hg, T.fa p hp, q1, q2, q3⟩
    · obtain ⟨p, hp, rfl, rfl⟩ := T.fb n a hn
      obtain ⟨fd, q1, q2, q3, _⟩ := one p hp
      exact ⟨fd, q1, q2, q3⟩
  intro k
  induction k with
  | zero =>
    refine fin (3 * 0) _ (fun _ _ _ _ => rfl) fun p hp fd F => ⟨fun A outer s H args us vs Q E room gd en bind rel q => ?_⟩
    obtain ⟨W, ds, h, kk, r, g⟩ := q
    exact False.elim g
  | succ k ih =>
    refine fin (3 * (k + 1)) _ (fun n ds h hne => ?_) fun p hp fd F => ?_
    · show (match t.G n with | some f => runFn (callF t.G wf k) wf f ds h | none => .bad) = .bad
      cases e : t.lookup n with
      | none =>
        have : t.G n = none := by show (t.lookup n).map (·.f) = _; rw [e]; rfl
        rw [this]
      | some el =>
        have hG : t.G n = some el.f := by show (t.lookup n).map (·.f) = _; rw [e]; rfl
        rw [hG]
        have hm := mem_of_look e
        have ho := T.ok _ hm
        obtain ⟨ho, _⟩ := band ho
        obtain ⟨ho, _⟩ := band ho
        obtain ⟨ho, _⟩ := band ho
        obtain ⟨ho, o6⟩ := band ho
        have hnp : el.f.np = el.ps.length := bdec o6
        rw [hprm _ hm] at hne
        show runFn _ wf el.f ds h = .bad
        unfold runFn
        exact if_neg (by rw [hnp]; exact hne)
    · have ho := T.ok p hp
      obtain ⟨ho, o9⟩ := band ho
      obtain ⟨ho, o8⟩ := band ho
      obtain ⟨ho, o7⟩ := band ho
      obtain ⟨ho, o6⟩ := band ho
      obtain ⟨ho, o5⟩ := band ho
      have hG : t.G p.1 = some p.2.f := by
        show (t.lookup p.1).map (·.f) = _
        rw [lookup_of (b := p.2) T.nd hp]
        rfl
      exact fnG_of T.cx T.fk F (sc_of o5) hG (bdec o6) (bdec o7) o8 ih (T.lm p hp)
theorem fnG_all {t : Tb} {gi : List (Str × Int)} {fr : List Str} {gc : List (Str × Nat × Bool)} {hd : Option (Str × List (Nat × Str × Bool))} (T : TbOk c t gi fr gc hd) (wf k : Nat) {p : Nat × Ent} (hp : p ∈ t) {fd : FuncData} (F : FunD c.K p.2.d.name p.2.d.qual p.2.d.params p.2.d.body p.2.d.scope [] [] (He.fAd c.K p.2.d.at_) fd) : FnG c (3 * k) (He.fAd c.K p.2.d.at_) fd p.2.ps (spF c (callF t.G wf k) p.1) := by
  cases k with
  | zero =>
    refine ⟨fun A outer s H args us vs Q E room gd en bind rel q => ?_⟩
    obtain ⟨W, ds, h, kk, r, g⟩ := q
    exact False.elim g
  | succ k =>
    have ho := T.ok p hp
    obtain ⟨ho, o9⟩ := band ho
    obtain ⟨ho, o8⟩ := band ho
    obtain ⟨ho, o7⟩ := band ho
    obtain ⟨ho, o6⟩ := band ho
    obtain ⟨ho, o5⟩ := band ho
    have hG : t.G p.1 = some p.2.f := by
      show (t.lookup p.1).map (·.f) = _
      rw [lookup_of (b := p.2) T.nd hp]
      rfl
    exact fnG_of T.cx T.fk F (sc_of o5) hG (bdec o6) (bdec o7) o8 (gok T wf k) (T.lm p hp)
end
end Mn

namespace Mn
open PySem L2 PySem.Spec PyProof.Rows
open PySem.W (Frag findIn subIn mroIn typeIn keepIn nsIn)
/-! ### what the written part must say of a class, as a test -/
def clsDat (C : Addr) : Data → Bool
  | .cls cd => decide (cd.mro = .ref C :: cd.mro.tail) && (HandSPX.refsVE cd.mro.tail && (cd.hasDict && !cd.hasDel))
  | _ => false
def clsSl : List (Option Value) → Bool
  | [_, _, _, _, some (.builtin n), _] => decide (n = "ValueError.__new__")
  | _ => false
def clsB (K : Frag) (C : Addr) : Bool := match K.lookup C with
  | some o => decide (o.cls = .type "type") && (clsDat C o.data && clsSl o.slots.toList)
  | none => false
theorem clsB_ok {K : Frag} {C : Addr} (h : clsB K C = true) : ∃ nm q N bs bm sn sub ab col dd k0 k1 k2 k3 k5, K.lookup C = some (excClassObj nm q C N bs bm true sn sub ab col dd k0 k1 k2 k3 k5 "ValueError.__new__") ∧ HandSPX.refsVE bm = true := by
  unfold clsB at h
  cases e : K.lookup C with
  | none => rw [e] at h; cases h
  | some o =>
    rw [e] at h
    obtain ⟨oc, od, dat, sl⟩ := o
    simp only [Bool.and_eq_true, decide_eq_true_eq] at h
    obtain ⟨rfl, h2, h3⟩ := h
    cases dat with
    | cls cd =>
      obtain ⟨nm, bs, mro, ns, qn, hd, sn, sub, ab, col, del⟩ := cd
      simp only [clsDat, Bool.and_eq_true, decide_eq_true_eq, Bool.not_eq_true'] at h2
      obtain ⟨m1, m2, rfl, rfl⟩ := h2
      obtain ⟨sl⟩ := sl
      match sl, h3 with
      | [k0, k1, k2, k3, some (.builtin n), k5], h3 =>
        have : n = "ValueError.__new__" := of_decide_eq_true h3
        subst this
        cases mro with
        | nil => cases m1
        | cons y bm =>
          have m1 : y :: bm = .ref C :: bm := m1
          cases m1
          exact ⟨nm, qn, ns, bs, bm, sn, sub, ab, col, od, k0, k1, k2, k3, k5, rfl, m2⟩
    | _ => cases h2
/-- the parts of an own __init__ -/
def supParts : List Stmt → Option (Str × Str × Str × List Pos)
  | [.Expr (.Call (.Attribute (.Call (.Name s p0) [] [] p1) i p2) [.Name x p3] [] p4) p5, .Assign [.Attribute (.Name a p6) f p7] (.Name y p8) p9] => if s = "super" ∧ i = "__init__" ∧ y = x then some (a, x, f, [p0, p1, p2, p3, p4, p5, p6, p7, p8, p9]) else none
  | _ => none
theorem supParts_eq {b : List Stmt} {a x f : Str} {ps : List Pos} (h : supParts b = some (a, x, f, ps)) : ∃ q : Fin 10 → Pos, b = supBody a x f q ∧ ps[2]? = some (q 2) ∧ ps[4]? = some (q 4) := by
  unfold supParts at h
  split at h
  · rename_i s p0 p1 i p2 x p3 p4 p5 a p6 f p7 y p8 p9
    split at h
    · rename_i hh
      obtain ⟨h1, h2, h3⟩ := hh
      cases h
      subst h1 h2 h3
      exact ⟨fun j => match j with | 0 => p0 | 1 => p1 | 2 => p2 | 3 => p3 | 4 => p4 | 5 => p5 | 6 => p6 | 7 => p7 | 8 => p8 | 9 => p9, rfl, rfl, rfl⟩
    · cases h
  · cases h
def linesOk (ps : List Pos) : Bool := match ps[2]?, ps[4]? with
  | some p, some q => p.endLine == q.line
  | _, _ => false
def fileB (P : Program) (K : Frag) (c : Addr) : Bool := match K.lookup c with
  | some o => (match o.data with
    | .fields vs => (match (vs[2]? : Option Value) with
      | some (.str file _) => (P.main.file : Str) == file
      | _ => false)
    | _ => false)
  | none => false
theorem fileB_ok {P : Program} {K : Frag} {c : Addr} (h : fileB P K c = true) : ∃ (cl : Value) (cd : Option Addr) (vs : Array Value) (sl : Array (Option Value)) (file : Str) (tf : Tok), K.lookup c = some ⟨cl, cd, .fields vs, sl⟩ ∧ vs[2]? = some (.str file tf) ∧ ((P.main.file : Str) == file) = true := by
  unfold fileB at h
  cases e : K.lookup c with
  | none => rw [e] at h; cases h
  | some o =>
    rw [e] at h
    obtain ⟨oc, od, dat, sl⟩ := o
    cases dat with
    | fields vs =>
      have h : (match (vs[2]? : Option Value) with | some (.str file _) => (P.main.file : Str) == file | _ => false) = true := h
      split at h
      · rename_i file tf hv
        exact ⟨oc, od, vs, sl, file, tf, rfl, hv, h⟩
      · cases h
    | _ => cases h
def cellB (K : Frag) (c C : Addr) : Bool := match K.lookup c with
  | some o => (match o.data with
    | .cell (some (.ref D)) => decide (D = C)
    | _ => false)
  | none => false
theorem cellB_ok {K : Frag} {c C : Addr} (h : cellB K c C = true) : ∃ (cl : Value) (cd : Option Addr) (sl : Array (Option Value)), K.lookup c = some ⟨cl, cd, .cell (some (.ref C)), sl⟩ := by
  unfold cellB at h
  cases e : K.lookup c with
  | none => rw [e] at h; cases h
  | some o =>
    rw [e] at h
    obtain ⟨oc, od, dat, sl⟩ := o
    cases dat with
    | cell v =>
      cases v with
      | none => cases h
      | some v =>
        cases v with
        | ref D =>
          have : D = C := of_decide_eq_true h
          subst this
          exact ⟨oc, od, sl, rfl⟩
        | _ => cases h
    | _ => cases h
/-- the names of an own __init__ -/
def iniSc (scope : Scope) (a x : Str) : Bool := (match scope.kind with | .function => true | _ => false) && (!scope.isCoroutine && (!scope.isGenerator && (scope.names.all (fun y => !(y.2 == .cell)) && (decide (scope.names.lookup ("super" : Str) = some .globalImplicit) && (decide (scope.names.lookup ("__class__" : Str) = some .free) && (decide (scope.names.lookup a = some .local) && (decide (scope.names.lookup x = some .local) && (!(a == ("__debug__" : Str)) && !(x == ("__debug__" : Str))))))))))
def iniFd (P : Program) (K : Frag) (C : Addr) (f : Str) (fd : FuncData) : Bool := match fd.body with
  | .stmts b => (match supParts b with
    | some (a, x, f', ps) => decide (f' = f) && (linesOk ps && (plainP fd.params && (decide (fd.params.args.map (·.arg) = [a, x]) && (decide (a ≠ x) && iniSc fd.scope a x))))
    | none => false) && (decide (fd.globals = mainGlobals) && (decide (fd.builtins = builtinsNs) && (decide (fd.defaults = .none) && ((match fd.closure with
      | [(n, cc)] => decide (n = "__class__") && cellB K cc C
      | _ => false) && (match fd.code with
      | .ref cda => PySem.W.codeIn K (.ref cda) fd.qualname && fileB P K cda
      | _ => false)))))
  | _ => false
def iniB (P : Program) (K : Frag) (C : Addr) (f : Str) : Bool := match findIn K (.ref C) "__init__" with
  | some (some (.ref fI)) => decide (typeIn K (.ref fI) = some (.type "function")) && (match K.lookup fI with
    | some o => (match o.data with
      | .func fd => iniFd P K C f fd
      | _ => false)
    | none => false)
  | _ => false
def supB (P : Program) (K : Frag) (C : Addr) (f : Str) : Bool :=
  clsB K C && (decide (findIn K (.ref C) "__setattr__" = some (some (.builtin "object.__setattr__"))) && (decide (findIn K (.ref C) f = some none) && (decide (subIn K (.ref C) (.type "BaseException") = some true) && (decide (subIn K (.ref C) (.type "ValueError") = some true) && (decide (mroIn K C (.ref C) = some true) && (decide (typeIn K (.ref C) = some (.type "type")) &&
    (keepIn K (.ref C) && (decide (PySem.W.ks_superIn K C C "__init__" = some (some (.builtin "ValueError.__init__"))) && (decide (nsIn K mainGlobals "super" = some none) && (decide (nsIn K cStatics "thirdparty.any" = some none) && (!(P.main.scope.names.lookup ("super" : Str)).isSome && iniB P K C f)))))))))))
theorem iniB_ok {P : Program} {K : Frag} {C : Addr} {f : Str} (h : iniB P K C f = true) : ∃ (fI cc cda : Addr) (oc : Value) (od : Option Addr) (osl : Array (Option Value)) (name qual a x : Str) (qs : Fin 10 → Pos) (ps : Arguments) (scope : Scope) (kV doc pm ct : Value) (an : Option Addr),
    findIn K (.ref C) "__init__" = some (some (.ref fI)) ∧ typeIn K (.ref fI) = some (.type "function") ∧
    K.lookup fI = some ⟨oc, od, .func (PySem.W.fnX name qual ps (supBody a x f qs) scope [("__class__", cc)] .none kV doc pm an (.ref cda) ct), osl⟩ ∧ PySem.W.codeIn K (.ref cda) qual = true ∧
    (∃ (cl : Value) (cd : Option Addr) (vs : Array Value) (sl : Array (Option Value)) (file : Str) (tf : Tok), K.lookup cda = some ⟨cl, cd, .fields vs, sl⟩ ∧ vs[2]? = some (.str file tf) ∧ ((P.main.file : Str) == file) = true) ∧
    (∃ (cl : Value) (cd : Option Addr) (sl : Array (Option Value)), K.lookup cc = some ⟨cl, cd, .cell (some (.ref C)), sl⟩) ∧
    ps = parms ps.args ∧ ps.args.map (·.arg) = [a, x] ∧ a ≠ x ∧
    scope.kind = .function ∧ scope.isCoroutine = false ∧ scope.isGenerator = false ∧ (∀ y ∈ scope.names, y.2 ≠ .cell) ∧
    scope.names.lookup ("super" : Str) = some .globalImplicit ∧ scope.names.lookup ("__class__" : Str) = some .free ∧ scope.names.lookup a = some .local ∧ scope.names.lookup x = some .local ∧
    ((a == ("__debug__" : Str)) = false ∧ (x == ("__debug__" : Str)) = false) ∧ ((qs 2).endLine == (qs 4).line) = true := by
  unfold iniB at h
  split at h
  · rename_i fI hI
    rw [Bool.and_eq_true, decide_eq_true_eq] at h
    obtain ⟨tI, h⟩ := h
    cases e : K.lookup fI with
    | none => rw [e] at h; cases h
    | some o =>
      rw [e] at h
      obtain ⟨oc, od, dat, osl⟩ := o
      cases dat with
      | func fd =>
        have h : iniFd P K C f fd = true := h
        obtain ⟨name, qual, ps, body, scope, gl, clo, dV, kV, doc, pm, an, cd, ct, bn⟩ := fd
        unfold iniFd at h
        cases body with
        | stmts b =>
          dsimp only at h
          rw [Bool.and_eq_true] at h
          obtain ⟨h1, h2⟩ := h
          cases hp : supParts b with
          | none => rw [hp] at h1; cases h1
          | some q =>
            obtain ⟨a, x, f', pl⟩ := q
            rw [hp] at h1
            simp only [Bool.and_eq_true, decide_eq_true_eq] at h1 h2
            obtain ⟨rfl, l1, l2, l3, l4, l5⟩ := h1
            obtain ⟨rfl, rfl, rfl, c1, c2⟩ := h2
            obtain ⟨q, rfl, q2, q4⟩ := supParts_eq hp
            simp only [iniSc, Bool.and_eq_true, decide_eq_true_eq, Bool.not_eq_true', List.all_eq_true] at l5
            obtain ⟨s1, s2, s3, s4, s5, s6, s7, s8, s9, s10⟩ := l5
            split at c1
            · rename_i n cc
              rw [Bool.and_eq_true, decide_eq_true_eq] at c1
              obtain ⟨rfl, c1⟩ := c1
              split at c2
              · rename_i cda
                rw [Bool.and_eq_true] at c2
                refine ⟨fI, cc, cda, oc, od, osl, name, qual, a, x, q, ps, scope, kV, doc, pm, ct, an, hI, tI, e, c2.1, fileB_ok c2.2, cellB_ok c1, plainP_eq l2, l3, l4, ?_, s2, s3, fun y hy z => ?_, s5, s6, s7, s8, ⟨s9, s10⟩, ?_⟩
                · split at s1
                  · assumption
                  · cases s1
                · have := s4 y hy
                  rw [z] at this
                  cases this
                · unfold linesOk at l1
                  rw [q2, q4] at l1
                  exact l1
              · cases c2
            · cases c1
        | _ => cases h
      | _ => cases h
  · cases h
theorem supB_ok {P : Program} {K : Frag} {C : Addr} {f : Str} (h : supB P K C f = true) : SupC P K C f := by
  simp only [supB, Bool.and_eq_true, decide_eq_true_eq, Bool.not_eq_true'] at h
  obtain ⟨h1, h2, h3, h4, h5, h6, h7, h8, h9, h10, h11, h12, h13⟩ := h
  exact ⟨clsB_ok h1, h2, h3, h4, h5, h6, h7, h8, h9, h10, h11, h12, iniB_ok h13⟩
def bareB (K : Frag) (C : Addr) : Bool := PySem.W.excIn K C He.veBase "ValueError.__new__" && (keepIn K (.ref C) && (decide (subIn K (.ref C) (.type "BaseException") = some true) && decide (typeIn K (.ref C) = some (.type "type"))))
theorem bareB_ok {K : Frag} {C : Addr} (h : bareB K C = true) : BareC K C := by
  simp only [bareB, Bool.and_eq_true, decide_eq_true_eq] at h
  exact h
end Mn

namespace Mn
open PySem L2 PySem.Spec PyProof.Rows
open PySem.W (Frag findIn subIn mroIn typeIn keepIn nsIn)
/-- the hearing def of a law: its name, what it says, its slots -/
structure HrD where
  x : Str
  H : HdS
  N : List Str
  ie : Nat
  ifl : Nat
  iat : Nat
  iw : Nat
def excB (K : Frag) (D : Addr) : Bool := decide (findIn K (.ref D) "__getattribute__" = some (some (.builtin "BaseException.__getattribute__"))) && (decide (findIn K (.ref D) "__getattr__" = some none) && (decide (subIn K (.ref D) (.type "BaseException") = some true) && (PySem.W.hasDictIn K D &&
  (decide (findIn K (.ref D) "__class__" = some (some (.builtin "object.__class__"))) && (decide (PySem.W.specialIn K (.builtin "object.__class__") "__get__" = some (some (.builtin "getset_descriptor.__get__"))) && (decide (PySem.W.takesIn K (.builtin "object.__class__") = some true) && decide (mroIn K D (.type "object") = some true)))))))
theorem excB_ok {K : Frag} {D : Addr} (h : excB K D = true) : ExcC K D ∧ XfC K D := by
  simp only [excB, Bool.and_eq_true, decide_eq_true_eq] at h
  obtain ⟨h1, h2, h3, h4, h5, h6, h7, h8⟩ := h
  exact ⟨⟨h1, h2, h3, h4, h5, h6, h7, h8⟩, ⟨h1, h2, h3, h4⟩⟩
def heB (K : Frag) (H : HdS) (j : Nat) (q : Str × Nat × Str) : Bool := excB K (He.ga K q.1) && (decide (findIn K (.ref (He.ga K q.1)) H.f1 = some none) && (decide (findIn K (.ref (He.ga K q.1)) H.f2 = some none) && (((H.cs.zipIdx).all fun c => decide (PySem.W.kitOne K (.ref (He.ga K q.1)) (.ref (He.ga K c.1.1)) = some (decide (c.2 = j)))) && decide (PySem.W.exmOne K (.ref (He.ga K q.1)) (.ref (He.ga K H.up)) = some true))))
def hearK (K : Frag) (H : HdS) : Bool := (H.cs.zipIdx).all fun q => heB K H q.2 q.1
theorem zip_at {α : Type} {l : List α} {j : Nat} {x : α} (h : l[j]? = some x) : (x, j) ∈ l.zipIdx := by
  rw [List.mem_zipIdx_iff_getElem?]
  exact h
theorem hearK_ok {K : Frag} {H : HdS} (h : hearK K H = true) {j : Nat} {q : Str × Nat × Str} (hq : H.cs[j]? = some q) : HeOk K H (He.ga K) (He.ga K q.1) j ∧ PySem.W.exmOne K (.ref (He.ga K q.1)) (.ref (He.ga K H.up)) = some true := by
  have h1 := List.all_eq_true.mp h _ (zip_at hq)
  simp only [heB, Bool.and_eq_true, decide_eq_true_eq, List.all_eq_true] at h1
  obtain ⟨z1, z2, z3, z4, z5⟩ := h1
  obtain ⟨e1, e2⟩ := excB_ok z1
  exact ⟨⟨e1, e2, ⟨z2, z3⟩, fun m c hc => z4 _ (zip_at hc)⟩, z5⟩
def locB (N : List Str) (sc : Scope) (i : Nat) (x : Str) : Bool := decide (N[i]? = some x) && (decide (sc.names.lookup x = some .local) && (!(x == ("__debug__" : Str)) && !(x == ("__classdict__" : Str))))
def gloB (sc : Scope) (x : Str) : Bool := decide (sc.names.lookup x = some .globalImplicit) && !(x == ("__debug__" : Str))
/-- the text of the hearing def is as it must be -/
def hearS (h : HrD) (d : He.DefD) : Bool := decide (d.name = h.x) && (decide (d.qual = h.x) && (chkHear h.H d.body && (plainP d.params && (decide (d.params.args.map (·.arg) = [h.H.a]) && (scC h.N [h.H.a] d.scope && (locB h.N d.scope h.ie h.H.e && (locB h.N d.scope h.ifl h.H.fl && (locB h.N d.scope h.iat h.H.at_ && (locB h.N d.scope h.iw h.H.wd &&
  (gloB d.scope "isinstance" && ((h.H.cs.all fun c => gloB d.scope c.1) && (decide (h.ie ≠ h.ifl ∧ h.ie ≠ h.iat ∧ h.ie ≠ h.iw) && (decide (h.ifl ≠ h.iat ∧ h.ifl ≠ h.iw ∧ h.iat ≠ h.iw) && ((d.scope.names.lookup h.H.a == some .local || d.scope.names.lookup h.H.a == some .cell) && (!(h.H.a == ("__debug__" : Str)) && (!(h.H.a == ("__classdict__" : Str)) && (gloB d.scope h.H.up && (decide (h.H.cs.length ≤ 1000) && (decide (h.H.g ≤ h.H.i) && (d.dfl.isEmpty && (d.kwd.isEmpty && decide (d.at_ = (d.name, none)))))))))))))))))))))))
/-- each of its classes is known, with its field -/
def hearC (h : HrD) (cls : List (Str × Nat × Option Str)) : Bool := (h.H.cs.zipIdx).all fun q => decide ((cls.map fun c => (c.2.1, c.1, c.2.2)).lookup q.1.2.1 = some (q.1.1, if q.2 < h.H.i then some (if q.2 < h.H.g then h.H.f1 else h.H.f2) else none))
section
variable {c : Cn}
theorem locB_ok {N : List Str} {sc : Scope} {i : Nat} {x : Str} (h : locB N sc i x = true) : N[i]? = some x ∧ sc.names.lookup x = some .local ∧ ((x == ("__debug__" : Str)) = false ∧ (x == ("__classdict__" : Str)) = false) := by
  simp only [locB, Bool.and_eq_true, decide_eq_true_eq, Bool.not_eq_true'] at h
  exact h
theorem gloB_ok {sc : Scope} {x : Str} (h : gloB sc x = true) : sc.names.lookup x = some .globalImplicit ∧ (x == ("__debug__" : Str)) = false := by
  simp only [gloB, Bool.and_eq_true, decide_eq_true_eq, Bool.not_eq_true'] at h
  exact h
theorem hears_of (h : HrD) {d : He.DefD} {cls : List (Str × Nat × Option Str)} (hs : hearS h d = true) (hc : hearC h cls = true) (hk : hearK c.K h.H = true) (fn : ∃ fd, FunD c.K d.name d.qual d.params d.body d.scope (d.dvs c.K) (d.kws c.K) (He.fAd c.K d.at_) fd) (glx : c.mg d.name = some (.ref (He.fAd c.K d.at_)))
    (isi : c.mg "isinstance" = none) (mgc : ∀ x ∈ cls.map (·.1), c.mg x = some (.ref (He.ga c.K x))) (up : c.mg h.H.up = some (.ref (He.ga c.K h.H.up))) (hcl : ∀ n, c.fa.cl n = ((cls.map fun c => (c.2.1, c.1, c.2.2)).lookup n).map fun q => (He.ga c.K q.1, q.2)) : Hears c h.x h.H.tb := by
  simp only [hearS, Bool.and_eq_true, decide_eq_true_eq, Bool.not_eq_true'] at hs
  obtain ⟨s1, s2, s3, s4, s5, s6, s7, s8, s9, s10, s11, s12, s13, s14, s15, s16, s17, s18, s19, s20, s21, s22, s23⟩ := hs
  obtain ⟨fd, F⟩ := fn
  have e1 : d.dvs c.K = [] := by unfold He.DefD.dvs; rw [List.isEmpty_iff.mp s21]; rfl
  have e2 : d.kws c.K = [] := by unfold He.DefD.kws; rw [List.isEmpty_iff.mp s22]; rfl
  rw [e1, e2, s1, s2] at F
  have S := sc_of s6
  have inC : ∀ (j : Nat) (q : Str × Nat × Str), h.H.cs[j]? = some q → (cls.map fun c => (c.2.1, c.1, c.2.2)).lookup q.2.1 = some (q.1, if j < h.H.i then some (if j < h.H.g then h.H.f1 else h.H.f2) else none) := fun j q hq => of_decide_eq_true (List.all_eq_true.mp hc _ (zip_at hq))
  have nameOf : ∀ (j : Nat) (q : Str × Nat × Str), h.H.cs[j]? = some q → q.1 ∈ cls.map (·.1) := fun j q hq => by
    have := mem_of_look (inC j q hq)
    obtain ⟨z, hz, e⟩ := List.mem_map.mp this
    have : z.1 = q.1 := congrArg (fun y => y.2.1) e
    exact List.mem_map.mpr ⟨z, hz, this⟩
  refine ⟨h.H, He.fAd c.K d.at_, He.ga c.K h.H.up, He.ga c.K, d.params, d.body, d.scope, fd, h.N, h.ie, h.ifl, h.iat, h.iw, ?_, rfl⟩
  obtain ⟨a1, a2, a3⟩ := locB_ok s7
  obtain ⟨b1, b2, b3⟩ := locB_ok s8
  obtain ⟨c1, c2, c3⟩ := locB_ok s9
  obtain ⟨d1, d2, d3⟩ := locB_ok s10
  refine ⟨F, by rw [← s1]; exact glx, s3, ⟨plainP_eq s4, s5⟩, S, fun X hN hS hM => ?_, ⟨?_, s16, s17⟩, ⟨(gloB_ok s18).1, (gloB_ok s18).2, up⟩, ⟨s19, s20⟩, fun j q hq => ?_⟩
  · refine ⟨by rw [hN]; exact S.nd, by rw [hN]; exact a1, by rw [hN]; exact b1, by rw [hN]; exact c1, by rw [hN]; exact d1, by rw [hS]; exact a2, by rw [hS]; exact b2, by rw [hS]; exact c2, by rw [hS]; exact d2, a3, b3, c3, d3, ?_, by rw [hM]; exact isi, fun q hq => ?_, s13, s14⟩
    · show X.env.scope.names.lookup _ = _
      rw [hS]; exact (gloB_ok s11).1
    · obtain ⟨j, hj⟩ := List.getElem?_of_mem hq
      have g := gloB_ok (List.all_eq_true.mp s12 q hq)
      refine ⟨?_, by rw [hM]; exact mgc _ (nameOf j q hj), g.2⟩
      show X.env.scope.names.lookup _ = _
      rw [hS]; exact g.1
  · rw [Bool.or_eq_true, beq_iff_eq, beq_iff_eq] at s15
    rcases s15 with z | z
    · exact .inl z
    · exact .inr (.inl z)
  · obtain ⟨k1, k2⟩ := hearK_ok hk hq
    refine ⟨?_, k1, k2⟩
    rw [hcl, inC j q hq]
    rfl
end
/-! ### the head's Hook -/
def obsM (n : Nat) (fa : List He.Fa) (fn : List He.DefD) (tf : List He.Defn) (ex : Frag → Bool) (g : Addr → Option Obj) : He.AlD × Bool :=
  (He.obsD fa fn (He.frT g (cStatics :: He.asD g n)), ex (He.frT g (cStatics :: He.asD g n)) && He.tabsB g tf (He.frT g (cStatics :: He.asD g n)))
structure SaysM (fa : List He.Fa) (fn : List He.DefD) (tf : List He.Defn) (ex : Frag → Bool) (h : Heap) (K : Frag) : Prop where
  d : He.SaysD fa fn K
  ex : ex K = true
  hd : ∀ p ∈ tf, PySem.W.codeHdIn K (He.cT K p).1 (He.cT K p).2 = true
  out : ∀ p ∈ tf, K.lookup (He.cT K p).2 = none
  empty : ∀ p ∈ tf, h.get? (He.cT K p).2 = some { cls := .none, data := .fields #[] }
theorem saysM_of {n : Nat} {fa : List He.Fa} {fn : List He.DefD} {tf : List He.Defn} {ex : Frag → Bool} {h : Heap} (e : obsM n fa fn tf ex h.get? = (He.valD fn, true)) : SaysM fa fn tf ex h (He.frT h.get? (cStatics :: He.asD h.get? n)) := by
  obtain ⟨e1, e2⟩ := Prod.mk.inj e
  rw [Bool.and_eq_true] at e2
  have each : ∀ p ∈ tf, PySem.W.codeHdIn (He.frT h.get? (cStatics :: He.asD h.get? n)) (He.cT (He.frT h.get? (cStatics :: He.asD h.get? n)) p).1 (He.cT (He.frT h.get? (cStatics :: He.asD h.get? n)) p).2 = true ∧ ∃ o, h.get? (He.cT (He.frT h.get? (cStatics :: He.asD h.get? n)) p).2 = some o ∧ He.emptyTab o = true := fun p hp => by
    have z := List.all_eq_true.mp e2.2 p hp
    rw [Bool.and_eq_true] at z
    refine ⟨z.1, ?_⟩
    have z2 := z.2
    split at z2
    · rename_i o ho
      exact ⟨o, ho, z2⟩
    · cases z2
  refine ⟨e1, e2.1, fun p hp => (each p hp).1, fun p hp => ?_, fun p hp => ?_⟩
  · obtain ⟨_, o, q, z⟩ := each p hp
    exact He.frT_none q z
  · obtain ⟨_, o, q, z⟩ := each p hp
    rw [q, He.emptyTab_eq z]
def hookM (n : Nat) (fa : List He.Fa) (fn : List He.DefD) (tf : List He.Defn) (ex : Frag → Bool) : PySem.W.Hook where
  α := He.AlD × Bool
  obs := fun s => obsM n fa fn tf ex s.heap.get?
  val := fun _ => (He.valD fn, true)
  says := fun _ h => ∃ K : Frag, K.In h ∧ SaysM fa fn tf ex h K
  of := fun _ _ e => ⟨_, He.frT_in, saysM_of e⟩
  keeps := fun _ _ _ ⟨K, hK, s⟩ k => ⟨K, PySem.W.Frag.In.keeps hK k, ⟨s.d, s.ex, s.hd, s.out, fun p hp => k _ _ (s.empty p hp)⟩⟩
theorem obsM_eq {n : Nat} {fa : List He.Fa} {fn : List He.DefD} {tf : List He.Defn} {ex : Frag → Bool} {g : Addr → Option Obj} {s : Shared} (h : ∀ a, g a = s.heap.get? a) : obsM n fa fn tf ex g = (hookM n fa fn tf ex).obs s := by
  have e : g = s.heap.get? := funext h
  rw [e]
  rfl
end Mn

namespace Mn
open PySem L2 PySem.Spec PyProof.Rows
/-! ### the law called -/
/-- nothing but the script and the tables is tracked -/
def OnlyT (ts : List Addr) (H : Hp) : Prop := ∀ b, H b = none ∨ b ∈ ts ∨ ∃ o xs, H b = some (.frz o (.lst xs))
theorem call_law {P : Program} {w : World} {K : PySem.W.Frag} {mg mb : Str → Option Value} {k : Nat} {f0 sa : Addr} {fd : FuncData} {x : Str} {sp : Sp} {st : Shared} {us : List Value} {ns : List Int} {cs : List (Addr × Addr)} (c0 : Heap → Cn) (hc0 : ∀ b, (c0 b).P = P ∧ (c0 b).w = w ∧ (c0 b).K = K ∧ (c0 b).mg = mg ∧ (c0 b).base = b ∧ (c0 b).CX = CX P w)
    (inK : K.In st.heap) (nsM : st.heap.Ns mainGlobals mg) (nsB : st.heap.Ns builtinsNs mb) (bb : ∀ x : Str, x ≠ "__name__" → mb x = bootBuiltins x) (lim : st.heap.NoLimit) (gens : st.gens = #[])
    (empty : ∀ p ∈ cs, st.heap.get? p.2 = some { cls := .none, data := .fields #[] }) (out : ∀ p ∈ cs, K.lookup p.2 = none) (heads : ∀ p ∈ cs, PySem.W.codeHdIn K p.1 p.2 = true)
    (bmain : ∃ (bm : Addr) (ob : Obj), mg "__builtins__" = some (.ref bm) ∧ bm ≠ builtinsNs ∧ st.heap.get? bm = some ob ∧ ob.cls = .type "module" ∧ ob.dict = some builtinsNs ∧ ob.data = .plain)
    (obj : st.heap.get? sa = some { cls := .type "list", data := .seq us.toArray }) (hints : IntsAre us ns) (few : ns.length ≤ sizeLine) (room : Room k callerA)
    (F : ∀ b : Heap, K.In b → b.Ns mainGlobals mg → (∀ p ∈ cs, LamX.TabB b mg p.1 p.2) → FnG (c0 b) k f0 fd [x] sp) (bnd : ∀ (s : Shared) (u : Value), BindsTo s fd ⟨[u], []⟩ [(x, u)])
    (hsp : ∀ H : Hp, OnlyT (cs.map (·.2)) H → (∀ p ∈ cs, H p.2 = some (.tbl #[])) → SqL K H sa (ns.map V.int) → sp [.ref sa] H (fun v _ => v = .bl true) E0) :
    codeAny (model P w) callerA (.call (.ref f0) ⟨[.ref sa], []⟩) (fun r s' => r = .ok (.ret (.bool true)) ∧ OldK st.heap s'.heap ∧ s'.os = st.os ∧ AllBare s'.gens) st := by
  have emp : ∀ b, b ∈ cs.map (·.2) → st.heap.get? b = some { cls := .none, data := .fields #[] } := fun b hb => by
    obtain ⟨p, hp, rfl⟩ := List.mem_map.mp hb
    exact empty p hp
  have outT : ∀ b, b ∈ cs.map (·.2) → K.lookup b = none := fun b hb => by
    obtain ⟨p, hp, rfl⟩ := List.mem_map.mp hb
    exact out p hp
  have inT : ∀ p ∈ cs, p.2 ∈ cs.map (·.2) := fun p hp => List.mem_map_of_mem (f := (·.2)) hp
  have saT : sa ∉ cs.map (·.2) := fun z => by
    have e := emp _ z
    rw [obj] at e
    have e2 : Data.seq us.toArray _ = Data.fields #[] := congrArg Obj.data (Option.some.inj e)
    cases e2
  have key : ∀ H : Hp, OnlyT (cs.map (·.2)) H → (∀ p ∈ cs, H p.2 = some (.tbl #[])) → SqL K H sa (ns.map V.int) → HOk P w H st.heap → (∀ b, H b ≠ none → (b = sa ∧ K.lookup sa = none) ∨ b ∈ cs.map (·.2)) →
      codeAny (model P w) callerA (.call (.ref f0) ⟨[.ref sa], []⟩) (fun r s' => r = .ok (.ret (.bool true)) ∧ OldK st.heap s'.heap ∧ s'.os = st.os ∧ AllBare s'.gens) st := by
    intro H only tabs sq hok alone
    have keep : ∀ {b : Addr} {o : Obj}, H b = none → st.heap.get? b = some o → (hidT st.heap H).get? b = some o := fun hn e => hidT_get e hn
    -- an object that is no list and no empty table is not tracked
    have untracked : ∀ {b : Addr} {o : Obj}, (∀ vs n, o.data ≠ .seq vs n) → o.data ≠ .fields #[] → st.heap.get? b = some o → H b = none := by
      intro b o h1 h2 e
      rcases Classical.em (H b = none) with z | z
      · exact z
      · exfalso
        rcases alone b z with ⟨y, _⟩ | y
        · rw [y, obj] at e
          cases e
          exact h1 _ _ rfl
        · rw [emp b y] at e
          cases e
          exact h2 rfl
    have nsKeep : ∀ {b : Addr} {m : Str → Option Value}, st.heap.Ns b m → (hidT st.heap H).Ns b m := by
      rintro b m ⟨o, es, ep, e, hd, r⟩
      exact ⟨o, es, ep, keep (untracked (fun vs n z => by rw [hd] at z; cases z) (fun z => by rw [hd] at z; cases z) e) e, hd, r⟩
    have inB : K.In (hidT st.heap H) := by
      intro b o e
      refine keep ?_ (inK b o e)
      rcases Classical.em (H b = none) with z | z
      · exact z
      · rcases alone b z with ⟨rfl, hn⟩ | y
        · rw [e] at hn; cases hn
        · rw [outT b y] at e; cases e
    obtain ⟨mc, l1, l2⟩ := id lim
    have modB : Mod K mg (hidT st.heap H) := ⟨inB, nsKeep nsM, ⟨mb, nsKeep nsB, bb⟩, mc, nsKeep l1, l2⟩
    have env0 : Env0 P w K mg (hidT st.heap H) callerA [] st H := ⟨rfl, modB, fun b o e => of_hidT e, Nat.le_of_eq (hidT_size _ _), trivial, fun b hb => (by cases hb), hok, .of_eq gens⟩
    have tabB : ∀ p ∈ cs, LamX.TabB (hidT st.heap H) mg p.1 p.2 := fun p hp => by
      have eP := empty p hp
      refine NdefX.tabB_of_K inB (heads p hp) ?_ fun z => ?_
      · obtain ⟨bm, ob, b1, b2, b3, b4, b5, b6⟩ := bmain
        refine ⟨bm, ob, b1, b2, fun z => ?_, fun z => ?_, keep (untracked (fun vs n z => by rw [b6] at z; cases z) (fun z => by rw [b6] at z; cases z) b3) b3, b4, b5, b6⟩
        · obtain ⟨o, es, ep, e, hd, _⟩ := nsM
          rw [z, e] at b3
          cases b3
          rw [hd] at b6
          cases b6
        · rw [z, eP] at b3
          cases b3
          cases b6
      · obtain ⟨o, es, ep, e, hd, _⟩ := nsM
        rw [z, eP] at e
        cases e
        cases hd
    obtain ⟨q1, q2, q3, q4, q5, q6⟩ := hc0 (hidT st.heap H)
    have go := (F _ inB (nsKeep nsM) tabB).run callerA [] st H ⟨[.ref sa], []⟩ [.ref sa] [.ref sa] _ E0 room rfl (by rw [q1, q2, q3, q4, q5]; exact env0) (bnd st (.ref sa)) (.cons rfl .nil) (hsp H only tabs sq)
    rw [q1, q2, q6] at go
    refine codeAny_mono go fun r s' fin => ?_
    match r, fin with
    | .error e, fin =>
      obtain ⟨_, _, _, _, _, _, _, _, _, _, _, _, z⟩ := (show CX P w [] H st E0 e s' from fin)
      exact z.elim
    | .ok .next, fin => exact (show False from fin).elim
    | .ok .brk, fin => exact (show False from fin).elim
    | .ok .cont, fin => exact (show False from fin).elim
    | .ok (.ret u), fin =>
      obtain ⟨v, H', os, bare, un, hok', rel, qv⟩ := (show CE [] P w H st _ u s' from fin)
      have qv : v = .bl true := qv
      subst qv
      have eu : u = Value.bool true := rel
      subst eu
      have same : ∀ b o, b ∉ cs.map (·.2) → st.heap.get? b = some o → s'.heap.get? b = some o := fun b o nb e => by
        rcases only b with z | z | ⟨ob, xs, z⟩
        · exact un.keep b o e z (fun y => by cases y) (by simp)
        · exact absurd z nb
        · have a1 := (hok b _ z).1
          have a2 := (hok' b _ (un.frzs b ob _ z)).1
          rw [e] at a1
          cases a1
          exact a2
      have grown : ∀ b, b ∈ cs.map (·.2) → ∃ more : Array Value, s'.heap.get? b = some { cls := .none, data := .fields more } := fun b hb => by
        obtain ⟨p, hp, rfl⟩ := List.mem_map.mp hb
        obtain ⟨more, z⟩ := un.tbls p.2 #[] (tabs p hp)
        exact ⟨_, hok' p.2 _ z⟩
      refine ⟨rfl, ⟨fun b o e => ?_, fun b o e => ?_⟩, os, bare⟩
      · by_cases hb : b ∈ cs.map (·.2)
        · obtain ⟨more, hm⟩ := grown b hb
          obtain ⟨p, hp, rfl⟩ := List.mem_map.mp hb
          rw [empty p hp] at e
          cases e
          exact .inr (.inl ⟨((PySem.W.codeHd_of_K inK (heads p hp)).tab (empty p hp)).isCodeTable, rfl, #[], more, rfl, by rw [Array.empty_append]; exact hm⟩)
        · exact .inl (same b o hb e)
      · by_cases hb : b ∈ cs.map (·.2)
        · obtain ⟨more, hm⟩ := grown b hb
          exact ⟨_, hm⟩
        · exact ⟨o, same b o hb e⟩
  have rel := vals_ints hints
  have few' : (ns.map V.int).length ≤ sizeLine := by rw [List.length_map]; exact few
  let T : Hp := fun b => if b ∈ cs.map (·.2) then some (.tbl #[]) else none
  have T_in : ∀ {b}, b ∈ cs.map (·.2) → T b = some (.tbl #[]) := fun hb => if_pos hb
  have T_out : ∀ {b}, b ∉ cs.map (·.2) → T b = none := fun hb => if_neg hb
  have T_ok : ∀ b u, T b = some u → b ∈ cs.map (·.2) ∧ u = .tbl #[] := fun b u e => by
    by_cases z : b ∈ cs.map (·.2)
    · rw [T_in z] at e; cases e; exact ⟨z, rfl⟩
    · rw [T_out z] at e; cases e
  rcases Classical.em (K.lookup sa = none) with hk | hk
  · let H : Hp := fun b => if b = sa then some (.frz { cls := .type "list", data := .seq us.toArray } (.lst (ns.map V.int))) else T b
    have at_sa : H sa = some (.frz { cls := .type "list", data := .seq us.toArray } (.lst (ns.map V.int))) := if_pos rfl
    have off : ∀ b, b ≠ sa → H b = T b := fun b hb => if_neg hb
    refine key H (fun b => ?_) (fun p hp => ?_) (.inl (.inr ⟨_, at_sa⟩)) (fun b u e => ?_) fun b hb => ?_
    · rcases Classical.em (b = sa) with z | z
      · subst z; exact .inr (.inr ⟨_, _, at_sa⟩)
      · by_cases y : b ∈ cs.map (·.2)
        · exact .inr (.inl y)
        · exact .inl (by rw [off b z]; exact T_out y)
    · rw [off _ (fun z => saT (by rw [← z]; exact inT p hp))]
      exact T_in (inT p hp)
    · rcases Classical.em (b = sa) with z | z
      · subst z
        rw [at_sa] at e
        cases e
        exact ⟨obj, few', us, _, rel, obj⟩
      · rw [off b z] at e
        obtain ⟨y, rfl⟩ := T_ok b u e
        exact emp b y
    · rcases Classical.em (b = sa) with z | z
      · exact .inl ⟨z, hk⟩
      · rw [off b z] at hb
        by_cases y : b ∈ cs.map (·.2)
        · exact .inr y
        · exact absurd (T_out y) hb
  · cases e : K.lookup sa with
    | none => exact absurd e hk
    | some o =>
      have e2 := inK sa o e
      rw [obj] at e2
      cases e2
      refine key T (fun b => ?_) (fun p hp => T_in (inT p hp)) (.inr ⟨_, us.toArray, _, e, rfl, rfl, rfl, ?_, by simpa using rel⟩) (fun b u z => ?_) fun b hb => ?_
      · by_cases y : b ∈ cs.map (·.2)
        · exact .inr (.inl y)
        · exact .inl (T_out y)
      · rw [List.size_toArray, hints.length]
        exact few
      · obtain ⟨y, rfl⟩ := T_ok b u z
        exact emp b y
      · by_cases y : b ∈ cs.map (·.2)
        · exact .inr y
        · exact absurd (T_out y) hb
/-- what else the written part must say: of the own exception classes, of the tables, of the hearing def -/
def exM (P : Program) (cls : List (Str × Nat × Option Str)) (hr : Option HrD) (tf : List He.Defn) (K : PySem.W.Frag) : Bool := (cls.all fun q => match q.2.2 with
  | some f => supB P K (He.ga K q.1) f
  | none => bareB K (He.ga K q.1)) && (decide ((tf.map fun p => (He.cT K p).2).Nodup) && match hr with
  | some h => hearK K h.H
  | none => true)
def gcOf (cls : List (Str × Nat × Option Str)) : List (Str × Nat × Bool) := cls.map fun c => (c.1, c.2.1, c.2.2.isSome)
def hdOf (hr : Option HrD) : Option (Str × List (Nat × Str × Bool)) := hr.map fun h => (h.x, h.H.tb)
/-- which tables and hearing defs a law's defs need -/
def needB (t : Tb) (fr : List Str) (cls : List (Str × Nat × Option Str)) (hr : Option HrD) (tf : List He.Defn) : Bool := (t.all fun p => !p.2.N.contains ("<lambda>" : Str) || (decide (p.2.d.at_ ∈ tf) && decide (p.2.d.qual = p.2.d.name))) && (decide ((cls.map (·.2.1)).Nodup) && match hr with
  | some h => (t.any fun p => hearS h p.2.d) && (hearC h cls && (decide (h.H.up ∈ cls.map (·.1)) && fr.contains ("isinstance" : Str)))
  | none => true)
theorem nodup_eq {α β : Type} {f : α → β} : ∀ {l : List α} {a b : α}, (l.map f).Nodup → a ∈ l → b ∈ l → f a = f b → a = b
  | [], _, _, _, h, _, _ => by cases h
  | x :: l, a, b, nd, ha, hb, e => by
    rw [List.map_cons, List.nodup_cons] at nd
    rcases List.mem_cons.mp ha with rfl | ha1 <;> rcases List.mem_cons.mp hb with rfl | hb1
    · rfl
    · exact absurd (List.mem_map.mpr ⟨b, hb1, e.symm⟩) nd.1
    · exact (nd.1 (List.mem_map.mpr ⟨a, ha1, e⟩)).elim
    · exact nodup_eq nd.2 ha1 hb1 e
/-- the end of a law over a table of defs -/
theorem walk_tab {l : PySem.W.OpenLaw} {n k wf nl : Nat} {q : Program} {loose : List Str} {XP : (Str → Option Value) → Heap → Prop} {d : DefRec} {x : Str} {t : Tb} {gi : List (Str × Int)} {fr : List Str} {cls : List (Str × Nat × Option Str)} {hr : Option HrD} {tf : List He.Defn} {facts : List He.Fa} {fns : List He.DefD} {el : Ent}
    (hn : l.most = some n) (hn2 : n ≤ sizeLine) (hdf : d.params.defaults = []) (room : Room (3 * k) callerA)
    (hl : t.lookup nl = some el) (hx : el.ps = [x]) (hd : el.d.name = d.name)
    (nd : (t.map (·.1)).Nodup) (hfns : t.map (fun p => p.2.d) = fns) (hfacts : t.map (fun p => He.Fa.glo p.2.d.name) ++ (fr.map He.Fa.free ++ (gi.map (fun p => He.Fa.int p.1 p.2) ++ cls.map fun c => He.Fa.glo c.1)) = facts) (ok : ∀ p ∈ t, entC (t.gam gi fr (gcOf cls) (hdOf hr)) p.2 = true) (need : needB t fr cls hr tf = true)
    (law : ∀ ns : List Int, ns.length ≤ n → (∀ i ∈ ns, Builtin.Int.intBits i ≤ 1048576) → ∃ h, callF t.G wf k nl [.frl (ns.map .int)] [] = .ok (.bl true) h) :
    PySem.W.WalkO q loose XP (fun _ h => ∃ K : PySem.W.Frag, K.In h ∧ SaysM facts fns tf (exM l.prog cls hr tf) h K) l.row.toRowW d [] (fun f vs => PySem.call f vs) := by
  have hfn : ∀ p ∈ t, p.2.d ∈ fns := fun p hp => by rw [← hfns]; exact List.mem_map_of_mem (f := fun p : Nat × Ent => p.2.d) hp
  have hfg : ∀ p ∈ t, He.Fa.glo p.2.d.name ∈ facts := fun p hp => by rw [← hfacts]; exact List.mem_append_left _ (List.mem_map_of_mem (f := fun p : Nat × Ent => He.Fa.glo p.2.d.name) hp)
  have hfi : ∀ p ∈ gi, He.Fa.int p.1 p.2 ∈ facts := fun p hp => by rw [← hfacts]; exact List.mem_append_right _ (List.mem_append_right _ (List.mem_append_left _ (List.mem_map_of_mem (f := fun p : Str × Int => He.Fa.int p.1 p.2) hp)))
  have hfc : ∀ y ∈ cls.map (·.1), He.Fa.glo y ∈ facts := fun y hy => by
    obtain ⟨c, hc, rfl⟩ := List.mem_map.mp hy
    rw [← hfacts]
    exact List.mem_append_right _ (List.mem_append_right _ (List.mem_append_right _ (List.mem_map_of_mem (f := fun c : Str × Nat × Option Str => He.Fa.glo c.1) hc)))
  have hff : ∀ y ∈ fr, He.Fa.free y ∈ facts := fun y hy => by rw [← hfacts]; exact List.mem_append_right _ (List.mem_append_left _ (List.mem_map_of_mem hy))
  refine Att.attach_callB hn hdf fun w s₀ st mg mb fa o pm cd doc a us ns G Y ho hdd hcd hmg obj hints len bits gens => ?_
  obtain ⟨K, inK, saysM⟩ := Y
  have says := saysM.d
  have factOf : ∀ {f : He.Fa}, f ∈ facts → f.ok K = true := fun hf => by
    obtain ⟨i, hi, e⟩ := List.mem_iff_getElem.mp hf
    exact says.fact i (by rw [List.getElem?_eq_getElem hi, e])
  let fx : FaT := ⟨fun m => (t.lookup m).map fun e => He.fAd K e.d.at_, K, fun m => ((cls.map fun c => (c.2.1, c.1, c.2.2)).lookup m).map fun q => (He.ga K q.1, q.2), tf.map fun p => ((He.cT K p).2, (p.1 ++ ".<locals>.") ++ "<lambda>")⟩
  let c0 : Heap → Cn := fun b => ⟨l.prog, w, K, mg, b, CX l.prog w, fx⟩
  have atName : ∀ p ∈ t, p.2.d.at_ = (p.2.d.name, none) := fun p hp => bdec (band (ok p hp)).2
  have ex := saysM.ex
  unfold exM at ex
  rw [Bool.and_eq_true, Bool.and_eq_true, decide_eq_true_eq] at ex
  obtain ⟨ex1, ex2, ex3⟩ := ex
  unfold needB at need
  rw [Bool.and_eq_true, Bool.and_eq_true, decide_eq_true_eq] at need
  obtain ⟨nd1, nd2, nd3⟩ := need
  have mgC : ∀ y ∈ cls.map (·.1), mg y = some (.ref (He.ga K y)) := fun y hy => He.glo_ok inK G.T.g (factOf (hfc y hy))
  have clAt : ∀ c ∈ cls, fx.cl c.2.1 = some (He.ga K c.1, c.2.2) := fun c hc => by
    have z : (cls.map fun c => (c.2.1, c.1, c.2.2)).lookup c.2.1 = some (c.1, c.2.2) := lookup_of (by rw [List.map_map]; exact nd2) (List.mem_map.mpr ⟨c, hc, rfl⟩)
    show ((cls.map fun c => (c.2.1, c.1, c.2.2)).lookup c.2.1).map _ = _
    rw [z]; rfl
  have tab : ∀ b : Heap, (∀ p ∈ tf.map (He.cT K), LamX.TabB b mg p.1 p.2) → TbOk (c0 b) t gi fr (gcOf cls) (hdOf hr) := fun b hb => by
    refine ⟨rfl, rfl, fun y i hy => He.int_ok inK G.T.g (factOf (hfi _ (mem_of_look hy))), fun y hy => He.free_ok inK G.T.g (factOf (hff y (List.contains_iff_mem.mp hy))), nd, fun p hp => ?_, fun p hp => ?_, fun m a hm => ?_, ok, fun y m bb hy => ?_, fun y tb hy => ?_, fun p hp hN => ?_⟩
    · obtain ⟨i, hi, e⟩ := List.mem_iff_getElem.mp (hfn p hp)
      obtain ⟨fd, F⟩ := says.def_ i (d := p.2.d) (by rw [List.getElem?_eq_getElem hi, e])
      have ho' := ok p hp
      obtain ⟨z, _⟩ := band ho'
      obtain ⟨z, _⟩ := band z
      obtain ⟨z, _⟩ := band z
      obtain ⟨z, _⟩ := band z
      obtain ⟨z, _⟩ := band z
      obtain ⟨z, _⟩ := band z
      obtain ⟨z, z3⟩ := band z
      obtain ⟨_, z2⟩ := band z
      have e1 : p.2.d.dvs K = [] := by unfold He.DefD.dvs; rw [List.isEmpty_iff.mp z2]; rfl
      have e2 : p.2.d.kws K = [] := by unfold He.DefD.kws; rw [List.isEmpty_iff.mp z3]; rfl
      rw [e1, e2] at F
      refine ⟨fd, F, ?_⟩
      have hg := He.glo_ok inK G.T.g (factOf (hfg p hp))
      rw [atName p hp]
      exact hg
    · show (t.lookup p.1).map _ = _
      rw [lookup_of (b := p.2) nd hp]
      rfl
    · have hm : (t.lookup m).map (fun e => He.fAd K e.d.at_) = some a := hm
      cases e : t.lookup m with
      | none => rw [e] at hm; cases hm
      | some el =>
        rw [e] at hm
        cases hm
        exact ⟨_, mem_of_look e, rfl, rfl⟩
    · -- an own exception class
      have hm := mem_of_look hy
      obtain ⟨c, hc, e⟩ := List.mem_map.mp hm
      cases e
      have hxc := List.all_eq_true.mp ex1 c hc
      refine ⟨He.ga K c.1, mgC _ (List.mem_map_of_mem (f := (·.1)) hc), ?_⟩
      obtain ⟨cn, cm, cf⟩ := c
      have z := clAt _ hc
      cases cf with
      | some f => exact .inl ⟨rfl, f, z, supB_ok hxc⟩
      | none => exact .inr ⟨rfl, z, bareB_ok hxc⟩
    · -- the hearing def
      cases hr with
      | none => cases hy
      | some h =>
        cases hy
        simp only [Bool.and_eq_true, decide_eq_true_eq, List.any_eq_true] at nd3
        obtain ⟨⟨p, hp, hs⟩, hC, hup, hisi⟩ := nd3
        obtain ⟨i, hi, e⟩ := List.mem_iff_getElem.mp (hfn p hp)
        have F := says.def_ i (d := p.2.d) (by rw [List.getElem?_eq_getElem hi, e])
        exact hears_of (c := c0 b) h hs hC ex3 F (by have hg := He.glo_ok inK G.T.g (factOf (hfg p hp)); rw [atName p hp]; exact hg) (He.free_ok inK G.T.g (factOf (hff _ (List.contains_iff_mem.mp hisi)))) mgC (mgC _ hup) (fun _ => rfl)
    · -- a def that makes lambdas
      have z := List.all_eq_true.mp nd1 p hp
      rw [Bool.or_eq_true] at z
      rcases z with z | z
      · have : p.2.N.contains ("<lambda>" : Str) = true := List.contains_iff_mem.mpr hN
        rw [this] at z; cases z
      rw [Bool.and_eq_true, decide_eq_true_eq, decide_eq_true_eq] at z
      obtain ⟨z1, z2⟩ := z
      refine ⟨(He.cT K p.2.d.at_).1, (He.cT K p.2.d.at_).2, fun oc od osl fd' lk => ?_, hb _ (List.mem_map_of_mem z1), ?_, fun y hy e => ?_⟩
      · have F := says.defs (hfn p hp)
        obtain ⟨fd, F⟩ := F
        obtain ⟨oc', od', dV, kV, doc', pm', an, cdv, ct, osl', rfl, lk', hcd', _, _⟩ := F.ex
        have lk2 : K.lookup (He.fAd K p.2.d.at_) = some ⟨oc, od, .func fd', osl⟩ := lk
        rw [lk'] at lk2
        cases lk2
        obtain ⟨cc, ecc⟩ := He.codeIn_ref hcd'
        have e3 := He.codeOf_eq lk' ecc
        show cdv = .ref (He.codeOf K p.2.d.at_)
        rw [e3]
        exact ecc
      · refine List.mem_map.mpr ⟨p.2.d.at_, z1, ?_⟩
        rw [z2, atName p hp]
      · obtain ⟨r, hr', rfl⟩ := List.mem_map.mp hy
        have : r = p.2.d.at_ := nodup_eq (f := fun p => (He.cT K p).2) ex2 hr' z1 e
        subst this
        show (p.2.d.at_.1 ++ ".<locals>.") ++ "<lambda>" = _
        rw [z2, atName p hp]
  -- the law's own def
  have hm := mem_of_look hl
  have ho0 := ok _ hm
  obtain ⟨i0, hi0, e0⟩ := List.mem_iff_getElem.mp (hfn (nl, el) hm)
  obtain ⟨fd, F⟩ := says.def_ i0 (d := el.d) (by rw [List.getElem?_eq_getElem hi0, e0])
  obtain ⟨z, _⟩ := band ho0
  obtain ⟨z, _⟩ := band z
  obtain ⟨z, _⟩ := band z
  obtain ⟨z, _⟩ := band z
  obtain ⟨z, _⟩ := band z
  obtain ⟨z, z4⟩ := band z
  obtain ⟨z, z3⟩ := band z
  obtain ⟨z1, z2⟩ := band z
  have e1 : el.d.dvs K = [] := by unfold He.DefD.dvs; rw [List.isEmpty_iff.mp z2]; rfl
  have e2 : el.d.kws K = [] := by unfold He.DefD.kws; rw [List.isEmpty_iff.mp z3]; rfl
  rw [e1, e2] at F
  have hfa : He.fAd K el.d.at_ = fa := by
    have e : mg el.d.name = some (.ref (He.ga K el.d.name)) := He.glo_ok inK G.T.g (factOf (hfg _ hm))
    rw [hd, hmg] at e
    rw [atName _ hm]
    show He.ga K el.d.name = fa
    rw [hd]
    cases e
    rfl
  have hF : ∀ b : Heap, (∀ p ∈ tf.map (He.cT K), LamX.TabB b mg p.1 p.2) → FnG (c0 b) (3 * k) fa fd [x] (spF (c0 st.heap) (callF t.G wf k) nl) := fun b hb => by
    have z := fnG_all (tab b hb) wf k hm F
    rw [← hfa, ← hx]
    exact z
  have hb : ∀ (s : Shared) (u : Value), BindsTo s fd ⟨[u], []⟩ [(x, u)] := by
    obtain ⟨oc, od, dV, kV, doc', pm', an, cdv, ct, osl, rfl, lk, hcd', hD, hK⟩ := F.ex
    rcases hD with ⟨_, rfl⟩ | ⟨e, _⟩
    · intro s u
      have hlen1 : el.d.params.args.length = 1 := by
        have := congrArg List.length hx
        unfold Ent.ps at this
        rwa [List.length_map] at this
      have hdrop : (el.d.params.args.map (·.arg)).drop 1 = [] := List.drop_eq_nil_of_le (by rw [List.length_map, hlen1]; exact Nat.le_refl _)
      have e := bind_plain (x := el.d.name) (qual := el.d.qual) (as := el.d.params.args) (body := el.d.body) (scope := el.d.scope) (kV := kV) (doc := doc') (pm := pm') (an := an) (cdv := cdv) (ct := ct) (us := [u]) (ws := []) (ks := []) (bdec z4) .nil rfl (fun y hy => by cases hy) (fun y hy => by
        have hy : y ∈ (el.d.params.args.map (·.arg)).drop 1 := hy
        rw [hdrop] at hy; cases hy) (by rw [hlen1]; rfl)
      rw [← plainP_eq z1] at e
      have e2 : (el.d.params.args.map (·.arg)).zip (arr (el.d.params.args.map (·.arg)) [u] (([] : List Str).zip [])) = [(x, u)] := by
        have h1 : el.d.params.args.map (·.arg) = [x] := hx
        rw [h1]; rfl
      rw [e2] at e
      exact .of_eq e
    · exact absurd rfl e
  refine call_law (cs := tf.map (He.cT K)) c0 (fun b => ⟨rfl, rfl, rfl, rfl, rfl, rfl⟩) inK G.T.g G.T.b G.T.builtins G.T.nolimit gens (fun p hp => ?_) (fun p hp => ?_) (fun p hp => ?_) G.T.bmain obj hints (Nat.le_trans len hn2) room (fun b _ _ hT => hF b hT) hb fun H only tabs sq => ?_
  · obtain ⟨r, hr', rfl⟩ := List.mem_map.mp hp
    exact saysM.empty r hr'
  · obtain ⟨r, hr', rfl⟩ := List.mem_map.mp hp
    exact saysM.out r hr'
  · obtain ⟨r, hr', rfl⟩ := List.mem_map.mp hp
    exact saysM.hd r hr'
  obtain ⟨h', hlaw⟩ := law ns len bits
  let WF : Hp := fun b => match H b with
    | some (.tbl _) => none
    | u => u
  have WF_sub : ∀ b u, WF b = some u → H b = some u := fun b u e => by
    have e : (match H b with | some (.tbl _) => none | u => u) = some u := e
    split at e
    · cases e
    · exact e
  have WF_frz : ∀ {b o u}, H b = some (.frz o u) → WF b = some (.frz o u) := fun {b o u} e => by
    show (match H b with | some (.tbl _) => none | u => u) = _
    rw [e]
  have fr' : FrA fx ⟨WF, []⟩ a (ns.map V.int) := by
    rcases sq with (z | ⟨o, z⟩) | ⟨o, its, n', z1, z2, z3, z4, z5, z6⟩
    · rcases only a with y | y | ⟨_, _, y⟩
      · rw [z] at y; cases y
      · obtain ⟨p, hp, e⟩ := List.mem_map.mp y
        have w := tabs p hp
        rw [e, z] at w; cases w
      · rw [z] at y; cases y
    · exact .inl ⟨o, WF_frz z⟩
    · exact .inr ⟨o, its, n', z1, ⟨z2, z3⟩, z4, z5, z6⟩
  have tabsOk : LamX.Tabs fx.T H := fun p hp => by
    obtain ⟨r, hr', rfl⟩ := List.mem_map.mp hp
    exact LamX.TabS.nil (tabs _ (List.mem_map_of_mem hr'))
  refine ⟨⟨WF, []⟩, [.frl (ns.map .int)], [], ⟨WF_sub, rfl, .nil, fun i b ds z => by simp at z, fun b z => (by cases z), tabsOk, fun b ps z => ?_⟩, .cons (.frl fr' (repL_ints ns)) .nil, ?_⟩
  · have z : (match H b with | some (.tbl _) => none | u => u) = some (.tbl ps) := z
    split at z
    · cases z
    · rename_i hne
      exact hne _ z
  rw [hlaw]
  intro v H' W' _ _ rv
  cases rv
  rfl
end Mn

namespace Mn
open PySem (Str)
@[simp] theorem q_evE_no (cf : Nat → List D → Hq → R D)  (ρ0 : Env) (h0 : Hq) : evE cf (.no) ρ0 h0 = (.bad) := rfl
@[simp] theorem q_evE_non (cf : Nat → List D → Hq → R D)  (ρ0 : Env) (h : Hq) : evE cf (.non) ρ0 h = (.ok .non h) := rfl
@[simp] theorem q_evE_bl (cf : Nat → List D → Hq → R D) (b : Bool) (ρ0 : Env) (h : Hq) : evE cf (.bl b) ρ0 h = (.ok (.bl b) h) := rfl
@[simp] theorem q_evE_int (cf : Nat → List D → Hq → R D) (i : Int) (ρ0 : Env) (h : Hq) : evE cf (.int i) ρ0 h = (.ok (.int i) h) := rfl
@[simp] theorem q_evE_gint (cf : Nat → List D → Hq → R D) (i : Int) (ρ0 : Env) (h : Hq) : evE cf (.gint i) ρ0 h = (.ok (.int i) h) := rfl
@[simp] theorem q_evE_str (cf : Nat → List D → Hq → R D) (s : Str) (ρ0 : Env) (h : Hq) : evE cf (.str s) ρ0 h = (.ok (.str s) h) := rfl
@[simp] theorem q_evE_var (cf : Nat → List D → Hq → R D) (i : Nat) (ρ : Env) (h : Hq) : evE cf (.var i) ρ h = (match ρ[i]? with
    | some (.fz d) => .ok d h
    | _ => .bad) := rfl
@[simp] theorem q_evE_own (cf : Nat → List D → Hq → R D) (i : Nat) (ρ : Env) (h : Hq) : evE cf (.own i) ρ h = (match ρ[i]? with
    | some (.ow d) => .ok d h
    | _ => .bad) := rfl
@[simp] theorem q_evE_gfn (cf : Nat → List D → Hq → R D) (n : Nat) (ρ0 : Env) (h : Hq) : evE cf (.gfn n) ρ0 h = (.ok (.fn n []) h) := rfl
@[simp] theorem q_evE_bin (cf : Nat → List D → Hq → R D) (op : Bop) (a : E) (b : E) (ρ : Env) (h : Hq) : evE cf (.bin op a b) ρ h = ((evE cf a ρ h).bind fun x h => (evE cf b ρ h).bind fun y h => liftO (bin op x y) h) := rfl
@[simp] theorem q_evE_neg (cf : Nat → List D → Hq → R D) (a : E) (ρ : Env) (h : Hq) : evE cf (.neg a) ρ h = ((evE cf a ρ h).bind fun x h => liftO ((intOf x).map fun i => .int (-i)) h) := rfl
@[simp] theorem q_evE_not (cf : Nat → List D → Hq → R D) (a : E) (ρ : Env) (h : Hq) : evE cf (.not a) ρ h = ((evE cf a ρ h).bind fun x h => liftO ((truthy x).map fun c => .bl (!c)) h) := rfl
@[simp] theorem q_evE_cmp (cf : Nat → List D → Hq → R D) (op : Cop) (a : E) (b : E) (ρ : Env) (h : Hq) : evE cf (.cmp op a b) ρ h = ((evE cf a ρ h).bind fun x h => (evE cf b ρ h).bind fun y h => liftO (cmp op x y) h) := rfl
@[simp] theorem q_evE_chain (cf : Nat → List D → Hq → R D) (o : Cop) (p : Cop) (a : E) (b : E) (c : E) (ρ : Env) (h : Hq) : evE cf (.chain o p a b c) ρ h = ((evE cf a ρ h).bind fun x h => (evE cf b ρ h).bind fun y h => (liftO ((cmp o x y).bind truthy) h).bind fun k h =>
    if k = true then (evE cf c ρ h).bind fun z h => liftO (cmp p y z) h else .ok (.bl false) h) := rfl
@[simp] theorem q_evE_and (cf : Nat → List D → Hq → R D) (a : E) (b : E) (ρ : Env) (h : Hq) : evE cf (.and a b) ρ h = ((evE cf a ρ h).bind fun x h => (liftO (truthy x) h).bind fun k h => if k = true then evE cf b ρ h else .ok x h) := rfl
@[simp] theorem q_evE_or (cf : Nat → List D → Hq → R D) (a : E) (b : E) (ρ : Env) (h : Hq) : evE cf (.or a b) ρ h = ((evE cf a ρ h).bind fun x h => (liftO (truthy x) h).bind fun k h => if k = true then .ok x h else evE cf b ρ h) := rfl
@[simp] theorem q_evE_ife (cf : Nat → List D → Hq → R D) (c : E) (a : E) (b : E) (ρ : Env) (h : Hq) : evE cf (.ife c a b) ρ h = ((evE cf c ρ h).bind fun x h => (liftO (truthy x) h).bind fun k h => if k = true then evE cf a ρ h else evE cf b ρ h) := rfl
@[simp] theorem q_evE_call (cf : Nat → List D → Hq → R D) (n : Nat) (es : Es) (ρ : Env) (h : Hq) : evE cf (.call n es) ρ h = ((evEs cf es ρ h).bind fun ds h => cf n ds h) := rfl
@[simp] theorem q_evE_callk (cf : Nat → List D → Hq → R D) (n : Nat) (es : Es) (ks : Es) (p : List Nat) (ρ : Env) (h : Hq) : evE cf (.callk n es ks p) ρ h = ((evEs cf es ρ h).bind fun ds h => (evEs cf ks ρ h).bind fun zs h => (liftO (p.mapM fun j => (ds ++ zs)[j]?) h).bind fun ds h => cf n ds h) := rfl
@[simp] theorem q_evE_calll (cf : Nat → List D → Hq → R D) (i : Nat) (es : Es) (ρ : Env) (h : Hq) : evE cf (.calll i es) ρ h = (match ρ[i]? with
    | some (.fz (.fn n cs)) => (evEs cf es ρ h).bind fun ds h => cf n (ds ++ cs) h
    | _ => .bad) := rfl
@[simp] theorem q_evE_bi (cf : Nat → List D → Hq → R D) (f : BI) (es : Es) (ρ : Env) (h : Hq) : evE cf (.bi f es) ρ h = ((evEs cf es ρ h).bind fun ds h => liftO (bi f ds) h) := rfl
@[simp] theorem q_evE_isi (cf : Nat → List D → Hq → R D) (t : String) (a : E) (ρ : Env) (h : Hq) : evE cf (.isi t a) ρ h = ((evE cf a ρ h).bind fun x h => liftO ((isi t x).map .bl) h) := rfl
@[simp] theorem q_evE_mt (cf : Nat → List D → Hq → R D) (m : Mth) (a : E) (es : Es) (ρ : Env) (h : Hq) : evE cf (.mt m a es) ρ h = ((evE cf a ρ h).bind fun x h => (liftO (recv m x) h).bind fun _ h => (evEs cf es ρ h).bind fun ds h => liftO (mt m x ds) h) := rfl
@[simp] theorem q_evE_tup (cf : Nat → List D → Hq → R D) (es : Es) (ρ : Env) (h : Hq) : evE cf (.tup es) ρ h = ((evEs cf es ρ h).bind fun ds h => .ok (.tup ds) h) := rfl
@[simp] theorem q_evE_lst (cf : Nat → List D → Hq → R D) (es : Es) (ρ : Env) (h : Hq) : evE cf (.lst es) ρ h = ((evEs cf es ρ h).bind fun ds h => .ok (.lst ds) h) := rfl
@[simp] theorem q_evE_cell (cf : Nat → List D → Hq → R D) (es : Es) (ρ : Env) (h : Hq) : evE cf (.cell es) ρ h = ((evEs cf es ρ h).bind fun ds h => .ok (.cell h.length) (h ++ [.lst ds])) := rfl
@[simp] theorem q_evE_dnew (cf : Nat → List D → Hq → R D) (t : Bool) (ρ0 : Env) (h : Hq) : evE cf (.dnew t) ρ0 h = (.ok (if t then .dT [] [] else .dI [] []) h) := rfl
@[simp] theorem q_evE_ddisp (cf : Nat → List D → Hq → R D) (t : Bool) (k : E) (v : E) (ρ : Env) (h : Hq) : evE cf (.ddisp t k v) ρ h = ((evE cf k ρ h).bind fun x h => (evE cf v ρ h).bind fun y h => liftO (if t then (keyT x).map fun k => .dT [k] [y] else (intOf x).map fun k => .dI [k] [y]) h) := rfl
@[simp] theorem q_evE_lc (cf : Nat → List D → Hq → R D) (e : E) (tg : Tg) (it : It) (ρ : Env) (h : Hq) : evE cf (.lc e tg it) ρ h = ((evI cf it ρ h).bind fun ds h => if ds.length ≤ 16777216 then (lcF (evE cf e) (fun _ h => .ok (.bl true) h) tg (wipeE ρ tg.slots) ds h).nox.bind fun r h => .ok (.lst r) h else .bad) := rfl
@[simp] theorem q_evE_lcif (cf : Nat → List D → Hq → R D) (e : E) (tg : Tg) (it : It) (c : E) (ρ : Env) (h : Hq) : evE cf (.lcif e tg it c) ρ h = ((evI cf it ρ h).bind fun ds h => if ds.length ≤ 16777216 then (lcF (evE cf e) (evE cf c) tg (wipeE ρ tg.slots) ds h).nox.bind fun r h => .ok (.lst r) h else .bad) := rfl
@[simp] theorem q_evE_dc (cf : Nat → List D → Hq → R D) (k : E) (v : E) (tg : Tg) (it : It) (ρ : Env) (h : Hq) : evE cf (.dc k v tg it) ρ h = ((evI cf it ρ h).bind fun ds h => if ds.length ≤ 1000000 then (dcF (evE cf k) (evE cf v) tg (wipeE ρ tg.slots) ds (.dI [] []) h).nox else .bad) := rfl
@[simp] theorem q_evE_vals (cf : Nat → List D → Hq → R D) (a : E) (ρ : Env) (h : Hq) : evE cf (.vals a) ρ h = ((evE cf a ρ h).bind fun x h => liftO (valsOf x) h) := rfl
@[simp] theorem q_evE_ix (cf : Nat → List D → Hq → R D) (a : E) (i : E) (ρ : Env) (h : Hq) : evE cf (.ix a i) ρ h = ((evE cf a ρ h).bind fun x h => (evE cf i ρ h).bind fun y h => liftO (ixD x y h) h) := rfl
@[simp] theorem q_evE_slab (cf : Nat → List D → Hq → R D) (a : E) (lo : E) (hi : E) (ρ : Env) (h : Hq) : evE cf (.slab a lo hi) ρ h = ((evE cf a ρ h).bind fun x h => (evE cf lo ρ h).bind fun y h => (liftO (intOf y) h).bind fun i h => (evE cf hi ρ h).bind fun z h => (liftO (intOf z) h).bind fun j h => liftO (cutD (some i) (some j) x) h) := rfl
@[simp] theorem q_evE_sla (cf : Nat → List D → Hq → R D) (a : E) (lo : E) (ρ : Env) (h : Hq) : evE cf (.sla a lo) ρ h = ((evE cf a ρ h).bind fun x h => (evE cf lo ρ h).bind fun y h => (liftO (intOf y) h).bind fun i h => liftO (cutD (some i) none x) h) := rfl
@[simp] theorem q_evE_slb (cf : Nat → List D → Hq → R D) (a : E) (hi : E) (ρ : Env) (h : Hq) : evE cf (.slb a hi) ρ h = ((evE cf a ρ h).bind fun x h => (evE cf hi ρ h).bind fun y h => (liftO (intOf y) h).bind fun i h => liftO (cutD none (some i) x) h) := rfl
@[simp] theorem q_evE_rev (cf : Nat → List D → Hq → R D) (a : E) (ρ : Env) (h : Hq) : evE cf (.rev a) ρ h = ((evE cf a ρ h).bind fun x h => match x with
    | .lst xs => .ok (.lst xs.reverse) h
    | .tup xs => .ok (.tup xs.reverse) h
    | _ => .bad) := rfl
@[simp] theorem q_evE_lrg (cf : Nat → List D → Hq → R D) (t : Bool) (a : E) (b : E) (ρ : Env) (h : Hq) : evE cf (.lrg t a b) ρ h = ((evE cf a ρ h).bind fun x h => (evE cf b ρ h).bind fun y h => liftO ((intOf x).bind fun i => (intOf y).bind fun j => if okR i && okR j then some (seqD t (range2 i j)) else none) h) := rfl
@[simp] theorem q_evE_lrg1 (cf : Nat → List D → Hq → R D) (t : Bool) (a : E) (ρ : Env) (h : Hq) : evE cf (.lrg1 t a) ρ h = ((evE cf a ρ h).bind fun x h => liftO ((intOf x).bind fun i => if okR i then some (seqD t (range2 0 i)) else none) h) := rfl
@[simp] theorem q_evE_sortk (cf : Nat → List D → Hq → R D) (i : Nat) (cap : List Nat) (b : E) (a : E) (ρ : Env) (h : Hq) : evE cf (.sortk i cap b a) ρ h = ((evE cf a ρ h).bind fun x h => (liftO (lstOf x) h).bind fun xs h => liftO ((if xs.length ≤ 1000000 && D.plainL 60 xs then keysF (evE cf b) i (keepE 0 cap ρ) xs else none).bind fun ks => if srtOk ks && nodupD ks then some (.lst ((sortK (ks.zip xs)).map (·.2))) else none) h) := rfl
@[simp] theorem q_evE_mink (cf : Nat → List D → Hq → R D) (i : Nat) (cap : List Nat) (b : E) (a : E) (ρ : Env) (h : Hq) : evE cf (.mink i cap b a) ρ h = ((evE cf a ρ h).bind fun x h => (liftO (lstOf x) h).bind fun xs h => liftO ((if D.plainL 60 xs then keysF (evE cf b) i (keepE 0 cap ρ) xs else none).bind fun ks => if srtOk ks then minK (ks.zip xs) else none) h) := rfl
@[simp] theorem q_evE_rgv1 (cf : Nat → List D → Hq → R D) (a : E) (ρ : Env) (h : Hq) : evE cf (.rgv1 a) ρ h = ((evE cf a ρ h).bind fun x h => liftO ((intOf x).bind fun i => if okR i then some (.rng 0 i) else none) h) := rfl
@[simp] theorem q_evE_rgv2 (cf : Nat → List D → Hq → R D) (a : E) (b : E) (ρ : Env) (h : Hq) : evE cf (.rgv2 a b) ρ h = ((evE cf a ρ h).bind fun x h => (evE cf b ρ h).bind fun y h => liftO ((intOf x).bind fun i => (intOf y).bind fun j => if okR i && okR j then some (.rng i j) else none) h) := rfl
@[simp] theorem q_evE_sset (cf : Nat → List D → Hq → R D) (a : E) (ρ : Env) (h : Hq) : evE cf (.sset a) ρ h = ((evE cf a ρ h).bind fun x h => liftO ((lstOf x).bind fun xs => (intsOf xs).bind fun l => if l.length < 60 then some (.lst ((sortI (dedupI l)).map .int)) else none) h) := rfl
@[simp] theorem q_evE_lamv (cf : Nat → List D → Hq → R D) (n : Nat) (cap : List Nat) (ρ : Env) (h : Hq) : evE cf (.lamv n cap) ρ h = ((liftO (capE ρ cap) h).bind fun cs h => .ok (.fn n cs) h) := rfl
@[simp] theorem q_evE_heard (cf : Nat → List D → Hq → R D) (tb : List (Nat × Str × Bool)) (e : E) (ρ : Env) (h : Hq) : evE cf (.heard tb e) ρ h = (hearR tb (evE cf e ρ h)) := rfl
@[simp] theorem q_evEs_nil (cf : Nat → List D → Hq → R D)  (ρ0 : Env) (h : Hq) : evEs cf (.nil) ρ0 h = (.ok [] h) := rfl
@[simp] theorem q_evEs_cons (cf : Nat → List D → Hq → R D) (e : E) (es : Es) (ρ : Env) (h : Hq) : evEs cf (.cons e es) ρ h = ((evE cf e ρ h).bind fun d h => (evEs cf es ρ h).bind fun ds h => .ok (d :: ds) h) := rfl
@[simp] theorem q_evI_val (cf : Nat → List D → Hq → R D) (e : E) (ρ : Env) (h : Hq) : evI cf (.val e) ρ h = ((evE cf e ρ h).bind fun x h => liftO (e.walk x) h) := rfl
@[simp] theorem q_evI_rng1 (cf : Nat → List D → Hq → R D) (a : E) (ρ : Env) (h : Hq) : evI cf (.rng1 a) ρ h = ((evE cf a ρ h).bind fun x h => liftO ((intOf x).bind fun i => if okR i then some (range1 i) else none) h) := rfl
@[simp] theorem q_evI_rng2 (cf : Nat → List D → Hq → R D) (a : E) (b : E) (ρ : Env) (h : Hq) : evI cf (.rng2 a b) ρ h = ((evE cf a ρ h).bind fun x h => (evE cf b ρ h).bind fun y h => liftO ((intOf x).bind fun i => (intOf y).bind fun j => if okR i && okR j then some (range2 i j) else none) h) := rfl
@[simp] theorem q_evI_rngd (cf : Nat → List D → Hq → R D) (a : E) (b : E) (ρ : Env) (h : Hq) : evI cf (.rngd a b) ρ h = ((evE cf a ρ h).bind fun x h => (evE cf b ρ h).bind fun y h => liftO ((intOf x).bind fun i => (intOf y).bind fun j => if okR i && okR j then some (rangeD i j) else none) h) := rfl
@[simp] theorem q_evI_enum (cf : Nat → List D → Hq → R D) (a : E) (ρ : Env) (h : Hq) : evI cf (.enum a) ρ h = ((evE cf a ρ h).bind fun x h => liftO (enumOf x) h) := rfl
@[simp] theorem q_evI_zip (cf : Nat → List D → Hq → R D) (a : E) (b : E) (ρ : Env) (h : Hq) : evI cf (.zip a b) ρ h = ((evE cf a ρ h).bind fun x h => (evE cf b ρ h).bind fun y h => liftO (zipOf x y) h) := rfl
@[simp] theorem q_evI_zipm (cf : Nat → List D → Hq → R D) (a : E) (b : E) (ρ : Env) (h : Hq) : evI cf (.zipm a b) ρ h = ((evE cf a ρ h).bind fun x h => (evE cf b ρ h).bind fun y h => liftO (zipmOf x y) h) := rfl
@[simp] theorem q_evI_items (cf : Nat → List D → Hq → R D) (a : E) (ρ : Env) (h : Hq) : evI cf (.items a) ρ h = ((evE cf a ρ h).bind fun x h => match x with
    | .dI ks vs => .ok ((ks.zip vs).map fun p => .tup [.int p.1, p.2]) h
    | _ => .bad) := rfl
@[simp] theorem q_exS_no (cf : Nat → List D → Hq → R D) (wf : Nat)  (ρ0 : Env) (h0 : Hq) : exS cf wf (.no) ρ0 h0 = (.bad) := rfl
@[simp] theorem q_exS_set (cf : Nat → List D → Hq → R D) (wf : Nat) (i : Nat) (e : E) (ρ : Env) (h : Hq) : exS cf wf (.set i e) ρ h = ((evE cf e ρ h).bind fun d h => .ok (.nx (ρ.set i (.fz d))) h) := rfl
@[simp] theorem q_exS_own (cf : Nat → List D → Hq → R D) (wf : Nat) (i : Nat) (e : E) (ρ : Env) (h : Hq) : exS cf wf (.own i e) ρ h = ((evE cf e ρ h).bind fun d h => match d with
    | .lst _ => .ok (.nx (ρ.set i (.ow d))) h
    | .dI _ _ => .ok (.nx (ρ.set i (.ow d))) h
    | .dT _ _ => .ok (.nx (ρ.set i (.ow d))) h
    | _ => .bad) := rfl
@[simp] theorem q_exS_tset (cf : Nat → List D → Hq → R D) (wf : Nat) (is : List Nat) (e : E) (ρ : Env) (h : Hq) : exS cf wf (.tset is e) ρ h = ((evE cf e ρ h).bind fun d h => (liftO (bindTg (.tp is) d ρ) h).bind fun ρ h => .ok (.nx ρ) h) := rfl
@[simp] theorem q_exS_par (cf : Nat → List D → Hq → R D) (wf : Nat) (i : Nat) (o : Bool) (a : E) (j : Nat) (p : Bool) (b : E) (ρ : Env) (h : Hq) : exS cf wf (.par i o a j p b) ρ h = ((evE cf a ρ h).bind fun x h => (evE cf b ρ h).bind fun y h => if okO o x && okO p y then .ok (.nx ((ρ.set i (slO o x)).set j (slO p y))) h else .bad) := rfl
@[simp] theorem q_exS_multi (cf : Nat → List D → Hq → R D) (wf : Nat) (ts : List (Nat × Bool)) (es : Es) (ρ : Env) (h : Hq) : exS cf wf (.multi ts es) ρ h = ((evM cf ts es ρ h ρ).bind fun ρ h => .ok (.nx ρ) h) := rfl
@[simp] theorem q_exS_nest (cf : Nat → List D → Hq → R D) (wf : Nat) (ts : List Tg) (es : Es) (ρ : Env) (h : Hq) : exS cf wf (.nest ts es) ρ h = ((evEs cf es ρ h).bind fun ds h => (liftO (bindTs ts ds ρ) h).bind fun ρ h => .ok (.nx ρ) h) := rfl
@[simp] theorem q_exS_ixset (cf : Nat → List D → Hq → R D) (wf : Nat) (i : Nat) (k : E) (v : E) (ρ : Env) (h : Hq) : exS cf wf (.ixset i k v) ρ h = ((evE cf v ρ h).bind fun d h => (liftO (isSl i ρ) h).bind fun _ h => (evE cf k ρ h).bind fun z h => (setI i z d ρ h).bind fun ρ h => .ok (.nx ρ) h) := rfl
@[simp] theorem q_exS_ixtup (cf : Nat → List D → Hq → R D) (wf : Nat) (i : Nat) (k : E) (j : Nat) (e : E) (ρ : Env) (h : Hq) : exS cf wf (.ixtup i k j e) ρ h = ((evE cf e ρ h).bind fun d h => match d with
    | .tup [a, b] => (liftO (isSl i ρ) h).bind fun _ h => (evE cf k ρ h).bind fun z h => (setI i z a ρ h).bind fun ρ h => .ok (.nx (ρ.set j (.fz b))) h
    | _ => .bad) := rfl
@[simp] theorem q_exS_app (cf : Nat → List D → Hq → R D) (wf : Nat) (i : Nat) (e : E) (ρ : Env) (h : Hq) : exS cf wf (.app i e) ρ h = ((liftO (isOw i ρ) h).bind fun _ h => (evE cf e ρ h).bind fun d h => match ρ[i]? with
    | some (.ow (.lst xs)) => if xs.length < 16777216 then .ok (.nx (ρ.set i (.ow (.lst (xs ++ [d]))))) h else .bad
    | _ => .bad) := rfl
@[simp] theorem q_exS_ext (cf : Nat → List D → Hq → R D) (wf : Nat) (i : Nat) (e : E) (ρ : Env) (h : Hq) : exS cf wf (.ext i e) ρ h = ((liftO (isOw i ρ) h).bind fun _ h => (evE cf e ρ h).bind fun d h => (liftO (seqOf d) h).bind fun ys h => match ρ[i]? with
    | some (.ow (.lst xs)) => if xs.length + ys.length ≤ 16777216 then .ok (.nx (ρ.set i (.ow (.lst (xs ++ ys))))) h else .bad
    | _ => .bad) := rfl
@[simp] theorem q_exS_ex (cf : Nat → List D → Hq → R D) (wf : Nat) (e : E) (ρ : Env) (h : Hq) : exS cf wf (.ex e) ρ h = ((evE cf e ρ h).bind fun _ h => .ok (.nx ρ) h) := rfl
@[simp] theorem q_exS_ite (cf : Nat → List D → Hq → R D) (wf : Nat) (c : E) (a : Ss) (b : Ss) (ρ : Env) (h : Hq) : exS cf wf (.ite c a b) ρ h = ((evE cf c ρ h).bind fun x h => (liftO (truthy x) h).bind fun k h => if k = true then exSs cf wf a ρ h else exSs cf wf b ρ h) := rfl
@[simp] theorem q_exS_for (cf : Nat → List D → Hq → R D) (wf : Nat) (tg : Tg) (it : It) (b : Ss) (ρ : Env) (h : Hq) : exS cf wf (.for tg it b) ρ h = ((evI cf it ρ h).bind fun ds h => forF (exSs cf wf b) tg ds ρ h) := rfl
@[simp] theorem q_exS_while (cf : Nat → List D → Hq → R D) (wf : Nat) (c : E) (b : Ss) (ρ : Env) (h : Hq) : exS cf wf (.while c b) ρ h = (whF (evE cf c) (exSs cf wf b) wf ρ h) := rfl
@[simp] theorem q_exS_ret (cf : Nat → List D → Hq → R D) (wf : Nat) (e : E) (ρ : Env) (h : Hq) : exS cf wf (.ret e) ρ h = ((evE cf e ρ h).bind fun d h => .ok (.rt d) h) := rfl
@[simp] theorem q_exS_retn (cf : Nat → List D → Hq → R D) (wf : Nat)  (ρ0 : Env) (h : Hq) : exS cf wf (.retn) ρ0 h = (.ok (.rt .non) h) := rfl
@[simp] theorem q_exS_pass (cf : Nat → List D → Hq → R D) (wf : Nat)  (ρ : Env) (h : Hq) : exS cf wf (.pass) ρ h = (.ok (.nx ρ) h) := rfl
@[simp] theorem q_exS_raise (cf : Nat → List D → Hq → R D) (wf : Nat) (c : Nat) (e : E) (ρ : Env) (h : Hq) : exS cf wf (.raise c e) ρ h = ((evE cf e ρ h).bind fun d h => .exc c d h) := rfl
@[simp] theorem q_exS_raise0 (cf : Nat → List D → Hq → R D) (wf : Nat) (c : Nat) (ρ0 : Env) (h : Hq) : exS cf wf (.raise0 c) ρ0 h = (.exc c .non h) := rfl
@[simp] theorem q_exS_frz (cf : Nat → List D → Hq → R D) (wf : Nat) (i : Nat) (ρ : Env) (h : Hq) : exS cf wf (.frz i) ρ h = (.ok (.nx (fzS i ρ)) h) := rfl
@[simp] theorem q_exS_drop (cf : Nat → List D → Hq → R D) (wf : Nat) (i : Nat) (ρ : Env) (h : Hq) : exS cf wf (.drop i) ρ h = (.ok (.nx (ρ.set i .no)) h) := rfl
@[simp] theorem q_exSs_nil (cf : Nat → List D → Hq → R D) (wf : Nat)  (ρ : Env) (h : Hq) : exSs cf wf (.nil) ρ h = (.ok (.nx ρ) h) := rfl
@[simp] theorem q_exSs_cons (cf : Nat → List D → Hq → R D) (wf : Nat) (s : S) (r : Ss) (ρ : Env) (h : Hq) : exSs cf wf (.cons s r) ρ h = ((exS cf wf s ρ h).bind fun f h => match f with
    | .nx ρ' => exSs cf wf r ρ' h
    | f => .ok f h) := rfl
end Mn

namespace Hd
open PySem L2 PySem.Spec PyProof.Rows
def top (i : Nat) : Stmt := PySem.Challenge.pw_shadestrings_k82_whole_floors.main.body.getD i (.Pass ⟨0, 0, 0, 0⟩)
def df (i : Nat) (n : Str) : He.DefD := ⟨(n, none), n, n, defArgs (top i), defBody (top i), defScope (top i), [], []⟩
def fnl : List He.DefD := [df 8 "is_number", df 12 "is_floor_form", df 13 "floor_cells", df 14 "floor_counts", df 15 "strings_on", df 17 "check_number", df 18 "check_floor", df 20 "is_floor", df 21 "floor_lengths", df 22 "check_floor_size", df 23 "rows_floor", df 24 "columns_floor", df 26 "_law_urn", df 27 "_law_take", df 28 "_law_floor", df 29 "_law_sizes", df 30 "_law_is_floor", df 31 "_law_right", df 32 "law"]
def frl : List Str := ["ValueError", "abs", "all", "bool", "divmod", "int", "isinstance", "len", "list", "max", "min", "range", "repr", "set", "sorted", "super", "tuple"]
def cls : List (Str × Nat × Option Str) := []
def hrd : Option Mn.HrD := none
def tfl : List He.Defn := []
def fal : List He.Fa := [.glo "is_number", .glo "is_floor_form", .glo "floor_cells", .glo "floor_counts", .glo "strings_on", .glo "check_number", .glo "check_floor", .glo "is_floor", .glo "floor_lengths", .glo "check_floor_size", .glo "rows_floor", .glo "columns_floor", .glo "_law_urn", .glo "_law_take", .glo "_law_floor", .glo "_law_sizes", .glo "_law_is_floor", .glo "_law_right", .glo "law", .free "ValueError", .free "abs", .free "all", .free "bool", .free "divmod", .free "int", .free "isinstance", .free "len", .free "list", .free "max", .free "min", .free "range", .free "repr", .free "set", .free "sorted", .free "super", .free "tuple", .int "MOST_LEVEL" (8), .int "MOST_STRINGS" (8), .int "MOST_FLOOR" (6), .int "MOST_CELLS" (24)]
abbrev R : PySem.W.OpenRow := PySem.W.OpenLaw.row PySem.Challenge.rw_shadestrings_k82_whole_floors
abbrev ex : PySem.W.Frag → Bool := Mn.exM PySem.Challenge.rw_shadestrings_k82_whole_floors.prog cls hrd tfl
abbrev hook : PySem.W.Hook := Mn.hookM 4 fal fnl tfl ex
def seen (s : PySem.W.SharedT) : He.AlD × Bool := Mn.obsM 4 fal fnl tfl ex (HandSHeadRun.getT s)
theorem seen_eq (s : PySem.W.SharedT) : seen s = hook.obs s.abs := Mn.obsM_eq (HandSHeadRun.getT_eq s)
def loose : List Str := [("ShadeError" : Str), ("InvalidNumber" : Str), ("InvalidFloor" : Str), ("OutOfRange" : Str), ("MOST_LEVEL" : Str), ("MOST_STRINGS" : Str), ("is_number" : Str), ("MOST_FLOOR" : Str), ("MOST_CELLS" : Str), ("is_floor_form" : Str), ("floor_cells" : Str), ("floor_counts" : Str), ("strings_on" : Str), ("check_number" : Str), ("check_floor" : Str), ("is_floor" : Str), ("floor_lengths" : Str), ("check_floor_size" : Str), ("rows_floor" : Str), ("columns_floor" : Str), ("_law_urn" : Str), ("_law_take" : Str), ("_law_floor" : Str), ("_law_sizes" : Str), ("_law_is_floor" : Str), ("_law_right" : Str)]
theorem runs (w : World) : HandSHeadRun.RunEq R (PySem.W.view R.prog [32]) hook seen 4000 loose w := by
  intro os
  kernel_rfl
end Hd

namespace Mn
open PySem (Str)
/-- is_number -/
def f_is_number : Fn := ⟨3, 3, .cons (.ite (.or (.not (.isi "int" (.var 0))) (.isi "bool" (.var 0))) (.cons (.ret (.bl false)) .nil) .nil) (.cons (.ret (.and (.cmp .ge (.var 0) (.var 1)) (.or (.cmp .is (.var 2) .non) (.cmp .le (.var 0) (.var 2))))) .nil)⟩
/-- is_floor_form -/
def f_is_floor_form : Fn := ⟨1, 5, .cons (.ite (.or (.not (.isi "tuple" (.var 0))) (.not (.chain .le .le (.int 1) (.bi .len (.cons (.var 0) .nil)) (.gint 6)))) (.cons (.ret (.bl false)) .nil) .nil) (.cons (.ite (.not (.bi .all (.cons (.lc (.and (.isi "tuple" (.var 3)) (.chain .le .le (.int 1) (.bi .len (.cons (.var 3) .nil)) (.gint 6))) (.nm 3) (.val (.var 0))) .nil))) (.cons (.ret (.bl false)) .nil) .nil) (.cons (.set 1 (.call 182 (.cons (.var 0) .nil))) (.cons (.ite (.or (.cmp .ne (.bi .len (.cons (.var 1) .nil)) (.bin .mul (.bi .len (.cons (.var 0) .nil)) (.bi .len (.cons (.ix (.var 0) (.int 0)) .nil)))) (.cmp .gt (.bi .len (.cons (.var 1) .nil)) (.gint 24))) (.cons (.ret (.bl false)) .nil) .nil) (.cons (.ite (.not (.bi .all (.cons (.lc (.cmp .eq (.bi .len (.cons (.var 3) .nil)) (.bi .len (.cons (.ix (.var 0) (.int 0)) .nil))) (.nm 3) (.val (.var 0))) .nil))) (.cons (.ret (.bl false)) .nil) .nil) (.cons (.ite (.not (.bi .all (.cons (.lc (.call 243 (.cons (.var 4) (.cons (.int 0) (.cons (.bin .sub (.gint 8) (.int 1)) .nil)))) (.nm 4) (.val (.var 1))) .nil))) (.cons (.ret (.bl false)) .nil) .nil) (.cons (.ret (.bi .all (.cons (.lc (.chain .le .le (.int 1) (.mt .count (.var 1) (.cons (.var 2) .nil)) (.gint 8)) (.nm 2) (.rng1 (.bin .add (.bi .max (.cons (.var 1) .nil)) (.int 1)))) .nil))) .nil))))))⟩
/-- floor_cells -/
def f_floor_cells : Fn := ⟨1, 3, .cons (.own 1 (.lst .nil)) (.cons (.for (.nm 2) (.val (.var 0)) (.cons (.ext 1 (.var 2)) .nil)) (.cons (.frz 1) (.cons (.ret (.var 1)) .nil)))⟩
/-- floor_counts -/
def f_floor_counts : Fn := ⟨2, 3, .cons (.ret (.bi .tuple (.cons (.lc (.mt .count (.var 0) (.cons (.var 2) .nil)) (.nm 2) (.rng1 (.var 1))) .nil))) .nil⟩
/-- strings_on -/
def f_strings_on : Fn := ⟨1, 1, .cons (.ret (.bin .add (.bi .max (.cons (.call 182 (.cons (.var 0) .nil)) .nil)) (.int 1))) .nil⟩
/-- check_number -/
def f_check_number : Fn := ⟨3, 3, .cons (.ite (.not (.call 243 (.cons (.var 0) (.cons (.var 1) (.cons (.var 2) .nil))))) (.cons .no .nil) .nil) .nil⟩
/-- check_floor -/
def f_check_floor : Fn := ⟨1, 1, .cons (.ite (.not (.call 222 (.cons (.var 0) .nil))) (.cons .no .nil) .nil) .nil⟩
/-- is_floor -/
def f_is_floor : Fn := ⟨1, 1, .cons (.ret (.call 222 (.cons (.var 0) .nil))) .nil⟩
/-- floor_lengths -/
def f_floor_lengths : Fn := ⟨1, 1, .cons (.ex (.call 104 (.cons (.var 0) .nil))) (.cons (.ret (.call 183 (.cons (.call 182 (.cons (.var 0) .nil)) (.cons (.call 377 (.cons (.var 0) .nil)) .nil)))) .nil)⟩
/-- check_floor_size -/
def f_check_floor_size : Fn := ⟨2, 2, .cons (.ex (.call 125 (.cons (.var 0) (.cons (.int 1) (.cons (.gint 6) .nil))))) (.cons (.ex (.call 125 (.cons (.var 1) (.cons (.int 1) (.cons (.gint 6) .nil))))) (.cons (.ite (.cmp .gt (.bin .mul (.var 0) (.var 1)) (.gint 24)) (.cons .no .nil) .nil) .nil))⟩
/-- rows_floor -/
def f_rows_floor : Fn := ⟨2, 3, .cons (.ex (.call 105 (.cons (.var 0) (.cons (.var 1) .nil)))) (.cons (.ret (.bi .tuple (.cons (.lc (.bin .mul (.tup (.cons (.var 2) .nil)) (.var 1)) (.nm 2) (.rng1 (.var 0))) .nil))) .nil)⟩
/-- columns_floor -/
def f_columns_floor : Fn := ⟨2, 2, .cons (.ex (.call 105 (.cons (.var 0) (.cons (.var 1) .nil)))) (.cons (.ret (.bin .mul (.tup (.cons (.lrg1 true (.var 1)) .nil)) (.var 0))) .nil)⟩
/-- _law_urn -/
def f_law_urn : Fn := ⟨2, 5, .cons (.set 2 (.bin .add (.int 827013) (.bin .mul (.int 8111) (.var 1)))) (.cons (.for (.nm 3) (.val (.slb (.var 0) (.int 9))) (.cons (.set 2 (.bin .mod (.bi .int (.cons (.bin .add (.bin .add (.bin .mul (.var 2) (.int 50021)) (.bin .mul (.bin .mod (.bi .int (.cons (.var 3) .nil)) (.int 2147483477)) (.int 13))) (.int 41)) .nil)) (.int 2147483629))) .nil)) (.cons (.set 4 (.ife (.cmp .lt (.var 1) (.bi .len (.cons (.var 0) .nil))) (.bi .int (.cons (.ix (.var 0) (.var 1)) .nil)) (.int 0))) (.cons (.set 2 (.bin .mod (.bi .int (.cons (.bin .add (.bin .add (.bin .mul (.var 2) (.int 59)) (.bin .mul (.bin .mod (.bi .int (.cons (.var 4) .nil)) (.int 2147483477)) (.int 30029))) (.int 5)) .nil)) (.int 2147483629))) (.cons (.ret (.cell (.cons (.ife (.or (.cmp .lt (.var 4) (.int 0)) (.cmp .ge (.var 4) (.bin .pow (.int 10) (.int 15)))) (.bi .abs (.cons (.var 4) .nil)) (.int 0)) (.cons (.var 2) (.cons (.int 0) .nil))))) .nil))))⟩
/-- _law_take -/
def f_law_take : Fn := ⟨2, 4, .cons (.ite (.cmp .gt (.ix (.var 0) (.int 0)) (.int 0)) (.cons (.ixtup 0 (.int 0) 2 (.bi .divmod (.cons (.ix (.var 0) (.int 0)) (.cons (.var 1) .nil)))) (.cons (.ret (.var 2)) .nil)) .nil) (.cons (.ixset 0 (.int 2) (.bin .add (.ix (.var 0) (.int 2)) (.int 1))) (.cons (.set 3 (.bin .mod (.bi .int (.cons (.bin .add (.bin .mul (.ix (.var 0) (.int 1)) (.int 40009)) (.bin .mul (.int 15013) (.ix (.var 0) (.int 2)))) .nil)) (.int 2147483629))) (.cons (.ixset 0 (.int 1) (.bin .mod (.bi .int (.cons (.bin .add (.bin .mul (.var 3) (.bin .add (.bin .mod (.bi .int (.cons (.var 3) .nil)) (.int 5003)) (.int 30011))) (.bin .mul (.int 3) (.ix (.var 0) (.int 2)))) .nil)) (.int 2147483629))) (.cons (.ret (.bin .mod (.bi .int (.cons (.bin .fdiv (.ix (.var 0) (.int 1)) (.int 907)) .nil)) (.var 1))) .nil))))⟩
/-- _law_floor -/
def f_law_floor : Fn := ⟨1, 13, .cons (.tset [1, 2] (.tup (.cons (.bin .add (.int 1) (.call 1001 (.cons (.var 0) (.cons (.int 6) .nil)))) (.cons (.bin .add (.int 1) (.call 1001 (.cons (.var 0) (.cons (.int 6) .nil)))) .nil)))) (.cons (.set 2 (.bi .min2 (.cons (.var 2) (.cons (.bin .fdiv (.int 24) (.var 1)) .nil)))) (.cons (.multi [(3, false), (4, false), (5, false), (6, true)] (.cons (.call 1001 (.cons (.var 0) (.cons (.int 4) .nil))) (.cons (.bin .add (.int 1) (.call 1001 (.cons (.var 0) (.cons (.int 8) .nil)))) (.cons (.tup .nil) (.cons (.dnew false) .nil))))) (.cons (.for (.nm 7) (.rng1 (.var 1)) (.cons (.set 8 (.tup .nil)) (.cons (.for (.nm 9) (.rng1 (.var 2)) (.cons (.set 10 (.ife (.cmp .eq (.var 3) (.int 0)) (.var 7) (.ife (.cmp .eq (.var 3) (.int 1)) (.var 9) (.call 1001 (.cons (.var 0) (.cons (.var 4) .nil)))))) (.cons (.ite (.cmp .eq (.mt .get (.own 6) (.cons (.var 10) (.cons (.int 0) .nil))) (.int 8)) (.cons (.set 10 (.bi .min (.cons (.lcif (.var 12) (.nm 12) (.rng1 (.int 9)) (.cmp .lt (.mt .get (.own 6) (.cons (.var 12) (.cons (.int 0) .nil))) (.int 8))) .nil))) .nil) .nil) (.cons (.ixset 6 (.var 10) (.bin .add (.mt .get (.own 6) (.cons (.var 10) (.cons (.int 0) .nil))) (.int 1))) (.cons (.set 8 (.bin .add (.var 8) (.tup (.cons (.var 10) .nil)))) .nil))))) (.cons (.set 5 (.bin .add (.var 5) (.tup (.cons (.var 8) .nil)))) .nil)))) (.cons (.set 11 (.bi .sorted (.cons (.own 6) .nil))) (.cons (.ret (.bi .tuple (.cons (.lc (.bi .tuple (.cons (.lc (.mt .index (.var 11) (.cons (.var 10) .nil)) (.nm 10) (.val (.var 8))) .nil)) (.nm 8) (.val (.var 5))) .nil))) .nil)))))⟩
/-- _law_sizes -/
def f_law_sizes : Fn := ⟨1, 4, .cons (.set 1 (.lst .nil)) (.cons (.for (.nm 2) (.val (.var 0)) (.cons (.set 1 (.bin .add (.var 1) (.bi .list (.cons (.var 2) .nil)))) .nil)) (.cons (.ret (.bi .tuple (.cons (.lc (.mt .count (.var 1) (.cons (.var 3) .nil)) (.nm 3) (.rng1 (.bin .add (.bi .max (.cons (.var 1) .nil)) (.int 1)))) .nil))) .nil))⟩
/-- _law_is_floor -/
def f_law_is_floor : Fn := ⟨1, 4, .cons (.ite (.or (.not (.isi "tuple" (.var 0))) (.not (.chain .le .le (.int 1) (.bi .len (.cons (.var 0) .nil)) (.int 6)))) (.cons (.ret (.bl false)) .nil) .nil) (.cons (.set 1 (.lst .nil)) (.cons (.for (.nm 2) (.val (.var 0)) (.cons (.ite (.or (.not (.isi "tuple" (.var 2))) (.or (.not (.chain .le .le (.int 1) (.bi .len (.cons (.var 2) .nil)) (.int 6))) (.cmp .ne (.bi .len (.cons (.var 2) .nil)) (.bi .len (.cons (.ix (.var 0) (.int 0)) .nil))))) (.cons (.ret (.bl false)) .nil) .nil) (.cons (.ite (.cmp .ne (.lcif (.var 3) (.nm 3) (.val (.var 2)) (.or (.not (.isi "int" (.var 3))) (.or (.isi "bool" (.var 3)) (.cmp .lt (.var 3) (.int 0))))) (.lst .nil)) (.cons (.ret (.bl false)) .nil) .nil) (.cons (.set 1 (.bin .add (.var 1) (.bi .list (.cons (.var 2) .nil)))) .nil)))) (.cons (.ite (.or (.cmp .gt (.bi .len (.cons (.var 1) .nil)) (.int 24)) (.or (.cmp .gt (.bi .max (.cons (.var 1) .nil)) (.int 7)) (.cmp .gt (.bi .max (.cons (.lc (.mt .count (.var 1) (.cons (.var 3) .nil)) (.nm 3) (.val (.var 1))) .nil)) (.int 8)))) (.cons (.ret (.bl false)) .nil) .nil) (.cons (.ret (.cmp .eq (.sset (.var 1)) (.lrg1 false (.bin .add (.bi .max (.cons (.var 1) .nil)) (.int 1))))) .nil))))⟩
/-- _law_right -/
def f_law_right : Fn := ⟨1, 14, .cons (.for (.nm 1) (.rng1 (.int 4)) (.cons (.set 2 (.call 1002 (.cons (.var 0) .nil))) (.cons (.set 3 (.call 1003 (.cons (.var 2) .nil))) (.cons (.ite (.cmp .ne (.bi .repr (.cons (.lst (.cons (.call 184 (.cons (.var 2) .nil)) (.cons (.callk 184 .nil (.cons (.var 2) .nil) [0]) .nil))) .nil)) (.bi .repr (.cons (.lst (.cons (.var 3) (.cons (.var 3) .nil))) .nil))) (.cons (.ret (.bl false)) .nil) .nil) (.cons (.tset [4, 5] (.tup (.cons (.bin .add (.int 1) (.call 1001 (.cons (.var 0) (.cons (.int 6) .nil)))) (.cons (.bin .add (.int 1) (.call 1001 (.cons (.var 0) (.cons (.int 4) .nil)))) .nil)))) (.cons (.tset [6, 7] (.tup (.cons (.bi .tuple (.cons (.lc (.bin .mul (.tup (.cons (.var 12) .nil)) (.var 5)) (.nm 12) (.rng1 (.var 4))) .nil)) (.cons (.bin .mul (.tup (.cons (.lrg1 true (.var 5)) .nil)) (.var 4)) .nil)))) (.cons (.set 8 (.lst (.cons (.call 359 (.cons (.var 4) (.cons (.var 5) .nil))) (.cons (.callk 359 .nil (.cons (.var 5) (.cons (.var 4) .nil)) [1, 0]) .nil)))) (.cons (.set 8 (.bin .add (.var 8) (.lst (.cons (.call 140 (.cons (.var 4) (.cons (.var 5) .nil))) (.cons (.callk 140 .nil (.cons (.var 5) (.cons (.var 4) .nil)) [1, 0]) .nil))))) (.cons (.ite (.cmp .ne (.bi .repr (.cons (.var 8) .nil)) (.bi .repr (.cons (.lst (.cons (.var 6) (.cons (.var 6) (.cons (.var 7) (.cons (.var 7) .nil))))) .nil))) (.cons (.ret (.bl false)) .nil) .nil) (.cons (.set 9 (.lst (.cons .non (.cons (.tup .nil) (.cons (.var 2) (.cons (.bi .list (.cons (.var 2) .nil)) (.cons (.bin .add (.var 2) (.tup (.cons (.tup .nil) .nil))) (.cons (.bin .add (.var 2) (.tup (.cons (.ix (.var 2) (.int 0)) .nil))) .nil)))))))) (.cons (.set 9 (.bin .add (.var 9) (.lst (.cons (.bi .tuple (.cons (.lc (.bin .add (.var 13) (.tup (.cons (.int 0) .nil))) (.nm 13) (.val (.var 2))) .nil)) (.cons (.tup (.cons (.int 0) (.cons (.int 1) .nil))) .nil))))) (.cons (.set 9 (.bin .add (.var 9) (.lst (.cons (.bin .add (.slb (.var 2) (.int 1)) (.tup (.cons (.bin .add (.ix (.var 2) (.int 0)) (.tup (.cons (.int 0) .nil))) .nil))) (.cons (.bi .tuple (.cons (.lc (.bin .add (.slb (.var 13) (.neg (.int 1))) (.tup (.cons (.int 9) .nil))) (.nm 13) (.val (.var 2))) .nil)) (.cons (.tup (.cons (.tup (.cons (.int 0) .nil)) (.cons (.tup (.cons (.int 1) (.cons (.int 1) .nil))) .nil))) .nil)))))) (.cons (.set 9 (.bin .add (.var 9) (.lst (.cons (.tup (.cons (.tup (.cons (.bl true) .nil)) .nil)) (.cons (.tup (.cons (.tup (.cons (.int 1) .nil)) .nil)) .nil))))) (.cons (.set 9 (.bin .add (.var 9) (.lst (.cons (.tup (.cons (.tup (.cons (.int 0) (.cons .non .nil))) .nil)) (.cons (.tup (.cons (.lst (.cons (.int 0) (.cons (.int 1) .nil))) .nil)) (.cons (.bin .mul (.tup (.cons (.bin .mul (.tup (.cons (.int 0) .nil)) (.int 5)) .nil)) (.int 5)) (.cons (.bin .mul (.tup (.cons (.bin .mul (.tup (.cons (.int 0) .nil)) (.int 4)) .nil)) (.int 6)) (.cons (.tup (.cons (.bin .mul (.tup (.cons (.int 0) .nil)) (.int 7)) .nil)) (.cons (.tup (.cons (.tup (.cons (.neg (.int 1)) (.cons (.int 0) .nil))) .nil)) (.cons (.str "floor") .nil)))))))))) (.cons (.set 9 (.bin .add (.var 9) (.lst (.cons (.tup (.cons (.tup (.cons (.int 0) (.cons (.int 2) .nil))) .nil)) .nil)))) (.cons (.for (.nm 10) (.val (.var 9)) (.cons (.set 11 (.call 1004 (.cons (.var 10) .nil))) (.cons (.ite (.cmp .ne (.bi .repr (.cons (.lst (.cons (.call 221 (.cons (.var 10) .nil)) (.cons (.callk 221 .nil (.cons (.var 10) .nil) [0]) .nil))) .nil)) (.bi .repr (.cons (.lst (.cons (.var 11) (.cons (.var 11) .nil))) .nil))) (.cons (.ret (.bl false)) .nil) .nil) .nil))) .nil)))))))))))))))) (.cons (.ret (.bl true)) .nil)⟩
/-- law -/
def f_law : Fn := ⟨1, 2, .cons (.ret (.bi .all (.cons (.lc (.call 1005 (.cons (.call 1000 (.cons (.var 0) (.cons (.var 1) .nil))) .nil)) (.nm 1) (.rng1 (.bi .max2 (.cons (.int 1) (.cons (.bi .min2 (.cons (.bi .len (.cons (.var 0) .nil)) (.cons (.int 3) .nil))) .nil))))) .nil))) .nil⟩
def tab : Tb := [(243, ⟨Hd.df 8 "is_number", f_is_number, ["value", "low", "high"]⟩),
  (222, ⟨Hd.df 12 "is_floor_form", f_is_floor_form, ["value", "cells", "index", "row", "cell"]⟩),
  (182, ⟨Hd.df 13 "floor_cells", f_floor_cells, ["floor", "found", "row"]⟩),
  (183, ⟨Hd.df 14 "floor_counts", f_floor_counts, ["cells", "many", "index"]⟩),
  (377, ⟨Hd.df 15 "strings_on", f_strings_on, ["floor"]⟩),
  (125, ⟨Hd.df 17 "check_number", f_check_number, ["number", "low", "high"]⟩),
  (104, ⟨Hd.df 18 "check_floor", f_check_floor, ["floor"]⟩),
  (221, ⟨Hd.df 20 "is_floor", f_is_floor, ["value"]⟩),
  (184, ⟨Hd.df 21 "floor_lengths", f_floor_lengths, ["floor"]⟩),
  (105, ⟨Hd.df 22 "check_floor_size", f_check_floor_size, ["rows", "columns"]⟩),
  (359, ⟨Hd.df 23 "rows_floor", f_rows_floor, ["rows", "columns", "row"]⟩),
  (140, ⟨Hd.df 24 "columns_floor", f_columns_floor, ["rows", "columns"]⟩),
  (1000, ⟨Hd.df 26 "_law_urn", f_law_urn, ["script", "lap", "mixed", "cell", "own"]⟩),
  (1001, ⟨Hd.df 27 "_law_take", f_law_take, ["urn", "many", "figure", "stir"]⟩),
  (1002, ⟨Hd.df 28 "_law_floor", f_law_floor, ["urn", "rows", "columns", "kind", "many", "found", "counts", "top", "row", "left", "index", "used", "k"]⟩),
  (1003, ⟨Hd.df 29 "_law_sizes", f_law_sizes, ["floor", "every", "row", "k"]⟩),
  (1004, ⟨Hd.df 30 "_law_is_floor", f_law_is_floor, ["value", "every", "row", "each"]⟩),
  (1005, ⟨Hd.df 31 "_law_right", f_law_right, ["urn", "turn", "floor", "due", "rows", "columns", "one", "two", "told", "odd", "value", "so", "k", "row"]⟩),
  (1006, ⟨Hd.df 32 "law", f_law, ["script", "lap"]⟩)]
def gil : List (Str × Int) := [(("MOST_LEVEL" : Str), (8 : Int)), (("MOST_STRINGS" : Str), (8 : Int)), (("MOST_FLOOR" : Str), (6 : Int)), (("MOST_CELLS" : Str), (24 : Int))]
end Mn
namespace Mn
open PySem L2 PySem.Spec PyProof.Rows
theorem tab_ok : (tab.all fun p => entC (tab.gam gil Hd.frl (gcOf Hd.cls) (hdOf Hd.hrd)) p.2) = true := by decide +kernel
end Mn

namespace Mn
open PySem (Str)

/-! ### what terms give: helps -/
theorem callF_eq {G : Nat → Option Fn} {wf k n : Nat} {f : Fn} {ds : List D} {h : Hq} (hG : G n = some f) (hl : ds.length = f.np) :
    callF G wf (k + 1) n ds h = (exSs (callF G wf k) wf f.body (ds.map .fz ++ List.replicate (f.ns - f.np) .no) h).bind fun r h => match r with
      | .rt d => .ok d h
      | .nx _ => .ok .non h
      | _ => .bad := by
  show (match G n with | some f => runFn (callF G wf k) wf f ds h | none => .bad) = _
  rw [hG]
  show runFn (callF G wf k) wf f ds h = _
  unfold runFn
  exact if_pos hl
@[simp] theorem bind_ok {α β : Type} (a : α) (h : Hq) (f : α → Hq → R β) : (R.ok a h).bind f = f a h := rfl
@[simp] theorem lift_some {α : Type} (a : α) (h : Hq) : liftO (some a) h = .ok a h := rfl
@[simp] theorem nox_ok {α : Type} (a : α) (h : Hq) : (R.ok a h).nox = .ok a h := rfl
@[simp] theorem intsOf_map (l : List Int) : intsOf (l.map D.int) = some l := by
  induction l with
  | nil => rfl
  | cons i l ih => simp [intsOf, ih]
@[simp] theorem intsOf_map2 {α : Type} (g : α → Int) (l : List α) : intsOf (l.map fun x => D.int (g x)) = some (l.map g) := by
  rw [← intsOf_map, List.map_map]; rfl
@[simp] theorem intsOf_map3 {α : Type} (g : α → Int) (l : List α) : intsOf (l.map (D.int ∘ g)) = some (l.map g) := intsOf_map2 g l
@[simp] theorem blsOf_map2 {α : Type} (g : α → Bool) (l : List α) : blsOf (l.map fun x => D.bl (g x)) = some (l.map g) := by
  induction l with
  | nil => rfl
  | cons i l ih => simp [blsOf, ih]
@[simp] theorem blsOf_map (l : List Bool) : blsOf (l.map D.bl) = some l := by
  induction l with
  | nil => rfl
  | cons i l ih => simp [blsOf, ih]
theorem lc_nm {α : Type} {f : Env → Hq → R D} {i : Nat} {ρ : Env} {inj g : α → D} {h : Hq} : ∀ {xs : List α}, (∀ x ∈ xs, f (ρ.set i (.fz (inj x))) h = .ok (g x) h) → lcF f (fun _ h => .ok (.bl true) h) (.nm i) ρ (xs.map inj) h = .ok (xs.map g) h
  | [], _ => rfl
  | x :: xs, hf => by
    rw [List.map_cons, lcF]
    simp only [bindTg, lift_some, bind_ok, nox_ok, truthy, if_true, hf x List.mem_cons_self]
    rw [lc_nm fun y hy => hf y (List.mem_cons_of_mem _ hy)]
    rfl
theorem lcif_nm {α : Type} {f c : Env → Hq → R D} {i : Nat} {ρ : Env} {inj g : α → D} {q : α → Bool} {h : Hq} : ∀ {xs : List α}, (∀ x ∈ xs, c (ρ.set i (.fz (inj x))) h = .ok (.bl (q x)) h) → (∀ x ∈ xs, q x = true → f (ρ.set i (.fz (inj x))) h = .ok (g x) h) → lcF f c (.nm i) ρ (xs.map inj) h = .ok ((xs.filter q).map g) h
  | [], _, _ => rfl
  | x :: xs, hc, hf => by
    rw [List.map_cons, lcF]
    simp only [bindTg, lift_some, bind_ok, nox_ok, truthy, hc x List.mem_cons_self]
    have ih := lcif_nm (fun y hy => hc y (List.mem_cons_of_mem _ hy)) (fun y hy => hf y (List.mem_cons_of_mem _ hy))
    cases hq : q x with
    | true =>
      rw [if_pos rfl, hf x List.mem_cons_self hq]
      simp only [nox_ok, bind_ok, ih, List.filter_cons, hq, if_true, List.map_cons]
    | false =>
      simp only [List.filter_cons, hq, Bool.false_eq_true, if_false, ih]
theorem forF_inv {f : Env → Hq → R Fl} {tg : Tg} (I : Nat → Env → Hq → Prop) : ∀ (ds : List D) (n : Nat) (ρ : Env) (h : Hq), I n ρ h → (∀ i d ρ h, ds[i]? = some d → I (n + i) ρ h → ∃ ρ' ρ'' h'', bindTg tg d ρ = some ρ' ∧ f ρ' h = .ok (.nx ρ'') h'' ∧ I (n + i + 1) ρ'' h'') → ∃ ρ' h', forF f tg ds ρ h = .ok (.nx ρ') h' ∧ I (n + ds.length) ρ' h'
  | [], n, ρ, h, h0, _ => ⟨ρ, h, rfl, h0⟩
  | d :: ds, n, ρ, h, h0, hs => by
    obtain ⟨ρ', ρ'', h'', e1, e2, h1⟩ := hs 0 d ρ h rfl h0
    obtain ⟨r, hh, e3, h3⟩ := forF_inv I ds (n + 1) ρ'' h'' h1 fun i d ρ h hi hI => by
      have z := hs (i + 1) d ρ h (by simpa using hi) (by rw [show n + (i + 1) = n + 1 + i by omega]; exact hI)
      rw [show n + (i + 1) + 1 = n + 1 + i + 1 by omega] at z
      exact z
    refine ⟨r, hh, ?_, by rw [List.length_cons, show n + (ds.length + 1) = n + 1 + ds.length by omega]; exact h3⟩
    rw [forF, e1]
    simp only [lift_some, bind_ok, e2, e3]
@[simp] theorem b_add (x y : Int) : bin .add (.int x) (.int y) = some (.int (x + y)) := rfl
@[simp] theorem b_sub (x y : Int) : bin .sub (.int x) (.int y) = some (.int (x - y)) := rfl
@[simp] theorem c_lt (x y : Int) : cmp .lt (.int x) (.int y) = some (.bl (decide (x < y))) := rfl
@[simp] theorem c_le (x y : Int) : cmp .le (.int x) (.int y) = some (.bl (decide (x ≤ y))) := rfl
@[simp] theorem c_gt (x y : Int) : cmp .gt (.int x) (.int y) = some (.bl (decide (y < x))) := rfl
@[simp] theorem c_ge (x y : Int) : cmp .ge (.int x) (.int y) = some (.bl (decide (y ≤ x))) := rfl
@[simp] theorem c_eq (x y : Int) : cmp .eq (.int x) (.int y) = some (.bl (decide (x = y))) := rfl
@[simp] theorem c_ne (x y : Int) : cmp .ne (.int x) (.int y) = some (.bl (!decide (x = y))) := rfl
@[simp] theorem c_isnon (d : D) : cmp .is d .non = some (.bl (isNon d)) := by cases d <;> rfl
@[simp] theorem c_isnot (d : D) : cmp .isnot d .non = some (.bl (!isNon d)) := by cases d <;> rfl
@[simp] theorem isNon_int (i : Int) : isNon (.int i) = false := rfl
@[simp] theorem isNon_non : isNon .non = true := rfl
@[simp] theorem tr_bl (b : Bool) : truthy (.bl b) = some b := rfl
@[simp] theorem io_int (i : Int) : intOf (.int i) = some i := rfl
@[simp] theorem sq_tup (l : List D) : seqOf (.tup l) = some l := rfl
@[simp] theorem sq_lst (l : List D) : seqOf (.lst l) = some l := rfl
@[simp] theorem evM_nil {cf : Nat → List D → Hq → R D} {ρ ρ1 : Env} {h : Hq} : evM cf [] .nil ρ h ρ1 = .ok ρ1 h := rfl
@[simp] theorem evM_cons {cf : Nat → List D → Hq → R D} {ρ ρ1 : Env} {h : Hq} (t : Nat × Bool) (ts : List (Nat × Bool)) (e : E) (es : Es) : evM cf (t :: ts) (.cons e es) ρ h ρ1 = (evE cf e ρ h).bind fun d h => if okO t.2 d then evM cf ts es ρ h (ρ1.set t.1 (slO t.2 d)) else .bad := rfl
@[simp] theorem hear_ok {tb : List (Nat × Str × Bool)} {d : D} {h : Hq} : hearR tb (.ok d h) = .ok (.lst [.str "let"]) h := rfl
@[simp] theorem it_tup (l : List D) : itOf (.tup l) = some l := rfl
@[simp] theorem it_lst (l : List D) : itOf (.lst l) = some l := rfl
@[simp] theorem bi_len_tup (l : List D) : bi .len [.tup l] = some (.int l.length) := rfl
@[simp] theorem bi_len_lst (l : List D) : bi .len [.lst l] = some (.int l.length) := rfl
@[simp] theorem bi_tup_lst (l : List D) : bi .tuple [.lst l] = some (.tup l) := rfl
@[simp] theorem bi_lst_tup (l : List D) : bi .list [.tup l] = some (.lst l) := rfl
@[simp] theorem bi_int (i : Int) : bi .int [.int i] = some (.int i) := rfl
@[simp] theorem bi_all2 {α : Type} (g : α → Bool) (l : List α) : bi .all [.lst (l.map fun x => .bl (g x))] = some (.bl (l.all g)) := by
  show (blsOf (l.map fun x => D.bl (g x))).map (fun l => D.bl (l.all id)) = _
  rw [blsOf_map2, Option.map_some, List.all_map]
  rfl
@[simp] theorem bi_any2 {α : Type} (g : α → Bool) (l : List α) : bi .any [.lst (l.map fun x => .bl (g x))] = some (.bl (l.any g)) := by
  show (blsOf (l.map fun x => D.bl (g x))).map (fun l => D.bl (l.any id)) = _
  rw [blsOf_map2, Option.map_some, List.any_map]
  rfl
@[simp] theorem bi_sum2 {α : Type} (g : α → Int) (l : List α) : bi .sum [.lst (l.map fun x => .int (g x))] = some (.int (l.map g).sum) := by
  show (intsOf (l.map fun x => D.int (g x))).map (fun l => D.int l.sum) = _
  rw [intsOf_map2]; rfl
@[simp] theorem bi_sum3 (l : List Int) : bi .sum [.lst (l.map .int)] = some (.int l.sum) := by
  show (intsOf (l.map D.int)).map (fun l => D.int l.sum) = _
  rw [intsOf_map]; rfl
@[simp] theorem bi_sumT3 (l : List Int) : bi .sum [.tup (l.map .int)] = some (.int l.sum) := by
  show (intsOf (l.map D.int)).map (fun l => D.int l.sum) = _
  rw [intsOf_map]; rfl
@[simp] theorem bi_max2' (i j : Int) : bi .max2 [.int i, .int j] = some (.int (max i j)) := rfl
@[simp] theorem bi_min2' (i j : Int) : bi .min2 [.int i, .int j] = some (.int (min i j)) := rfl
theorem b_mul {x y : Int} (h : small x = true) : bin .mul (.int x) (.int y) = some (.int (x * y)) := by simp [bin, h]
theorem b_mul' {x y : Int} (h : small y = true) : bin .mul (.int x) (.int y) = some (.int (x * y)) := by simp [bin, h]
/-! ### a def's parts by their places -/
def Ss.nth : Ss → Nat → S
  | .nil, _ => .pass
  | .cons s _, 0 => s
  | .cons _ r, n + 1 => r.nth n
def S.sub : S → Ss
  | .for _ _ b => b
  | .while _ b => b
  | .ite _ a _ => a
  | _ => .nil
def S.els : S → Ss
  | .ite _ _ b => b
  | _ => .nil
def bodyAt (b : Ss) : List Nat → Ss
  | [] => b
  | i :: p => bodyAt (b.nth i).sub p
theorem lc_tp {α : Type} {f : Env → Hq → R D} {i j : Nat} {ρ : Env} {a b g : α → D} {h : Hq} : ∀ {xs : List α}, (∀ x ∈ xs, f ((ρ.set i (.fz (a x))).set j (.fz (b x))) h = .ok (g x) h) → lcF f (fun _ h => .ok (.bl true) h) (.tp [i, j]) ρ (xs.map fun x => .tup [a x, b x]) h = .ok (xs.map g) h
  | [], _ => rfl
  | x :: xs, hf => by
    rw [List.map_cons, lcF]
    have hb : bindTg (.tp [i, j]) (.tup [a x, b x]) ρ = some ((ρ.set i (.fz (a x))).set j (.fz (b x))) := rfl
    simp only [hb, lift_some, bind_ok, nox_ok, truthy, if_true, hf x List.mem_cons_self]
    rw [lc_tp fun y hy => hf y (List.mem_cons_of_mem _ hy)]
    rfl
theorem lcif_tp {α : Type} {f c : Env → Hq → R D} {i j : Nat} {ρ : Env} {a b g : α → D} {q : α → Bool} {h : Hq} : ∀ {xs : List α}, (∀ x ∈ xs, c ((ρ.set i (.fz (a x))).set j (.fz (b x))) h = .ok (.bl (q x)) h) → (∀ x ∈ xs, q x = true → f ((ρ.set i (.fz (a x))).set j (.fz (b x))) h = .ok (g x) h) → lcF f c (.tp [i, j]) ρ (xs.map fun x => .tup [a x, b x]) h = .ok ((xs.filter q).map g) h
  | [], _, _ => rfl
  | x :: xs, hc, hf => by
    rw [List.map_cons, lcF]
    have hb : bindTg (.tp [i, j]) (.tup [a x, b x]) ρ = some ((ρ.set i (.fz (a x))).set j (.fz (b x))) := rfl
    simp only [hb, lift_some, bind_ok, nox_ok, truthy, hc x List.mem_cons_self]
    have ih := lcif_tp (fun y hy => hc y (List.mem_cons_of_mem _ hy)) (fun y hy => hf y (List.mem_cons_of_mem _ hy))
    cases hq : q x with
    | true =>
      rw [if_pos rfl, hf x List.mem_cons_self hq]
      simp only [nox_ok, bind_ok, ih, List.filter_cons, hq, if_true, List.map_cons]
    | false => simp only [List.filter_cons, hq, Bool.false_eq_true, if_false, ih]
/-- a loop that gathers: one thing for each item -/
theorem forF_acc {α β σ : Type} {f : Env → Hq → R Fl} {tg : Tg} {inj : α → D} (N : Nat) (I : Hq → Prop) (P : α → β → Prop) (env : List β → σ → Env) : ∀ (xs : List α) (acc : List β) (w : σ) (h : Hq), I h → acc.length + xs.length ≤ N →
    (∀ x ∈ xs, ∀ acc w h, acc.length < N → I h → ∃ ρ' b w' h', bindTg tg (inj x) (env acc w) = some ρ' ∧ f ρ' h = .ok (.nx (env (acc ++ [b]) w')) h' ∧ P x b ∧ I h') →
    ∃ rs w' h', forF f tg (xs.map inj) (env acc w) h = .ok (.nx (env (acc ++ rs) w')) h' ∧ rs.length = xs.length ∧ (∀ p ∈ xs.zip rs, P p.1 p.2) ∧ I h'
  | [], acc, w, h, hI, _, _ => ⟨[], w, h, by simp [forF], rfl, by simp, hI⟩
  | x :: xs, acc, w, h, hI, hl, hs => by
    simp only [List.length_cons] at hl
    obtain ⟨ρ', b, w', h', e1, e2, p, hI'⟩ := hs x List.mem_cons_self acc w h (by omega) hI
    obtain ⟨rs, w2, h2, e3, l3, p3, hI2⟩ := forF_acc N I P env xs (acc ++ [b]) w' h' hI' (by simp; omega) fun y hy => hs y (List.mem_cons_of_mem _ hy)
    refine ⟨b :: rs, w2, h2, ?_, by simp [l3], fun q hq => ?_, hI2⟩
    · rw [List.map_cons, forF, e1]
      simp only [lift_some, bind_ok, e2, e3]
      simp
    · rw [List.zip_cons_cons] at hq
      rcases List.mem_cons.mp hq with z | z
      · rw [z]; exact p
      · exact p3 q z
/-- a loop that leaves all as it is, but for some slots -/
theorem forF_all {α σ : Type} {f : Env → Hq → R Fl} {tg : Tg} {inj : α → D} (I : Hq → Prop) (env : σ → Env) : ∀ (xs : List α) (w : σ) (h : Hq), I h →
    (∀ x ∈ xs, ∀ w h, I h → ∃ ρ' w' h', bindTg tg (inj x) (env w) = some ρ' ∧ f ρ' h = .ok (.nx (env w')) h' ∧ I h') →
    ∃ w' h', forF f tg (xs.map inj) (env w) h = .ok (.nx (env w')) h' ∧ I h'
  | [], w, h, hI, _ => ⟨w, h, rfl, hI⟩
  | x :: xs, w, h, hI, hs => by
    obtain ⟨ρ', w', h', e1, e2, hI'⟩ := hs x List.mem_cons_self w h hI
    obtain ⟨w2, h2, e3, hI2⟩ := forF_all I env xs w' h' hI' fun y hy => hs y (List.mem_cons_of_mem _ hy)
    refine ⟨w2, h2, ?_, hI2⟩
    rw [List.map_cons, forF, e1]
    simp only [lift_some, bind_ok, e2, e3]
theorem zip_tup {α β : Type} (a : α → D) (b : β → D) (xs : List α) (ys : List β) : zipOf (.tup (xs.map a)) (.tup (ys.map b)) = some ((xs.zip ys).map fun p => .tup [a p.1, b p.2]) := by
  show some (((xs.map a).zip (ys.map b)).map fun p => D.tup [p.1, p.2]) = _
  rw [List.zip_map, List.map_map]
  rfl
theorem eqvL_ints : ∀ l m : List Int, D.eqvL (l.map .int) (m.map .int) = decide (l = m)
  | [], [] => rfl
  | [], _ :: _ => rfl
  | _ :: _, [] => rfl
  | x :: l, y :: m => by
    show ((x == y) && D.eqvL (l.map .int) (m.map .int)) = _
    rw [eqvL_ints l m]
    by_cases h : x = y <;> by_cases h2 : l = m <;> simp [h, h2]
theorem plainL_ints (n : Nat) (l : List Int) : D.plainL (n + 1) (l.map .int) = true := by
  induction l with
  | nil => rfl
  | cons x l ih => simp [D.plainL, D.plain, ih]
@[simp] theorem eq_tints (l m : List Int) : cmp .eq (.tup (l.map .int)) (.tup (m.map .int)) = some (.bl (decide (l = m))) := by
  have e1 : D.plain 60 (.tup (l.map .int)) = true := plainL_ints 59 l
  have e2 : D.plain 60 (.tup (m.map .int)) = true := plainL_ints 59 m
  have e3 : D.eqv (.tup (l.map .int)) (.tup (m.map .int)) = decide (l = m) := eqvL_ints l m
  show (if (D.plain 60 (.tup (l.map .int)) && D.plain 60 (.tup (m.map .int))) = true then some (D.eqv (.tup (l.map .int)) (.tup (m.map .int))) else none).map D.bl = _
  rw [e1, e2, e3]
  rfl
@[simp] theorem ne_tints (l m : List Int) : cmp .ne (.tup (l.map .int)) (.tup (m.map .int)) = some (.bl (!decide (l = m))) := by
  have z := eq_tints l m
  simp only [cmp, Option.map_eq_some_iff] at z ⊢
  obtain ⟨b, e1, e2⟩ := z
  exact ⟨b, e1, by cases e2; rfl⟩
@[simp] theorem eq_lints (l m : List Int) : cmp .eq (.lst (l.map .int)) (.lst (m.map .int)) = some (.bl (decide (l = m))) := by
  have e1 : D.plain 60 (.lst (l.map .int)) = true := plainL_ints 59 l
  have e2 : D.plain 60 (.lst (m.map .int)) = true := plainL_ints 59 m
  have e3 : D.eqv (.lst (l.map .int)) (.lst (m.map .int)) = decide (l = m) := eqvL_ints l m
  show (if (D.plain 60 (.lst (l.map .int)) && D.plain 60 (.lst (m.map .int))) = true then some (D.eqv (.lst (l.map .int)) (.lst (m.map .int))) else none).map D.bl = _
  rw [e1, e2, e3]
  rfl
@[simp] theorem perm1 (a : D) : ([0] : List Nat).mapM (fun j => ([a] : List D)[j]?) = some [a] := rfl
@[simp] theorem perm2 (a b : D) : ([1, 0] : List Nat).mapM (fun j => ([a, b] : List D)[j]?) = some [b, a] := rfl
@[simp] theorem perm3 (a b c : D) : ([2, 1, 0] : List Nat).mapM (fun j => ([a, b, c] : List D)[j]?) = some [c, b, a] := rfl
@[simp] theorem perm4' (a b c d : D) : ([3, 2, 1, 0] : List Nat).mapM (fun j => ([a, b, c, d] : List D)[j]?) = some [d, c, b, a] := rfl
@[simp] theorem b_addl (l m : List D) (h : l.length + m.length ≤ 16777216) : bin .add (.lst l) (.lst m) = some (.lst (l ++ m)) := by simp [bin, h]
/-- a loop that reckons -/
theorem forF_fold {α β σ : Type} {f : Env → Hq → R Fl} {tg : Tg} {inj : α → D} (env : β → σ → Env) (g : β → α → β) (h : Hq) : ∀ (xs : List α) (b : β) (w : σ), (∀ x ∈ xs, ∀ b w, ∃ ρ' w', bindTg tg (inj x) (env b w) = some ρ' ∧ f ρ' h = .ok (.nx (env (g b x) w')) h) →
    ∃ w', forF f tg (xs.map inj) (env b w) h = .ok (.nx (env (xs.foldl g b) w')) h
  | [], b, w, _ => ⟨w, rfl⟩
  | x :: xs, b, w, hs => by
    obtain ⟨ρ', w', e1, e2⟩ := hs x List.mem_cons_self b w
    obtain ⟨w2, e3⟩ := forF_fold env g h xs (g b x) w' fun y hy => hs y (List.mem_cons_of_mem _ hy)
    refine ⟨w2, ?_⟩
    rw [List.map_cons, forF, e1]
    simp only [lift_some, bind_ok, e2, e3, List.foldl_cons]
theorem perm_sum {l m : List Int} (h : l.Perm m) : l.sum = m.sum := by
  induction h with
  | nil => rfl
  | cons x _ ih => rw [List.sum_cons, List.sum_cons, ih]
  | swap x y l => simp only [List.sum_cons]; omega
  | trans _ _ h1 h2 => rw [h1, h2]
@[simp] theorem eq_lnil (l : List Int) : cmp .eq (.lst (l.map .int)) (.lst []) = some (.bl (decide (l = []))) := by
  have z := eq_lints l []
  simpa using z
@[simp] theorem ne_lnil (l : List Int) : cmp .ne (.lst (l.map .int)) (.lst []) = some (.bl (!decide (l = []))) := by
  have z := eq_lnil l
  simp only [cmp, Option.map_eq_some_iff] at z ⊢
  obtain ⟨b, e1, e2⟩ := z
  exact ⟨b, e1, by cases e2; rfl⟩
/-! ### a block run statement by statement -/
def Ss.from : Ss → Nat → Ss
  | b, 0 => b
  | .nil, _ + 1 => .nil
  | .cons _ r, n + 1 => r.from n
def Ss.size : Ss → Nat
  | .nil => 0
  | .cons _ r => r.size + 1
theorem from_cons : ∀ (b : Ss) (i : Nat), i < b.size → b.from i = .cons (b.nth i) (b.from (i + 1))
  | .nil, i, h => by simp [Ss.size] at h
  | .cons s r, 0, _ => by cases r <;> rfl
  | .cons s r, i + 1, h => from_cons r i (by simpa [Ss.size] using h)
theorem go {cf : Nat → List D → Hq → R D} {wf : Nat} {b : Ss} {i : Nat} {ρ ρ' : Env} {h h' : Hq} {r : R Fl} (e : exS cf wf (b.nth i) ρ h = .ok (.nx ρ') h') (hi : i < b.size) (rest : exSs cf wf (b.from (i + 1)) ρ' h' = r) : exSs cf wf (b.from i) ρ h = r := by
  rw [from_cons b i hi, q_exSs_cons, e, bind_ok]
  exact rest
theorem go0 {cf : Nat → List D → Hq → R D} {wf : Nat} {b : Ss} {ρ : Env} {h : Hq} {r : R Fl} (e : exSs cf wf (b.from 0) ρ h = r) : exSs cf wf b ρ h = r := by
  have : b.from 0 = b := by cases b <;> rfl
  rw [← this]; exact e
theorem goR {cf : Nat → List D → Hq → R D} {wf : Nat} {b : Ss} {i : Nat} {ρ : Env} {h h' : Hq} {d : D} (e : exS cf wf (b.nth i) ρ h = .ok (.rt d) h') (hi : i < b.size) : exSs cf wf (b.from i) ρ h = .ok (.rt d) h' := by
  rw [from_cons b i hi, q_exSs_cons, e, bind_ok]
theorem go_nil {cf : Nat → List D → Hq → R D} {wf : Nat} {b : Ss} {i : Nat} {ρ : Env} {h : Hq} (hi : b.from i = .nil) : exSs cf wf (b.from i) ρ h = .ok (.nx ρ) h := by rw [hi]; rfl
/-- a def run by its body -/
theorem fn_run {G : Nat → Option Fn} {wf k n : Nat} {f : Fn} {ds : List D} {h h' : Hq} {d : D} (hG : G n = some f) (hl : ds.length = f.np) (e : exSs (callF G wf k) wf f.body (ds.map .fz ++ List.replicate (f.ns - f.np) .no) h = .ok (.rt d) h') : callF G wf (k + 1) n ds h = .ok d h' := by
  rw [callF_eq hG hl, e]; rfl


/-! ### fields -/
def sD (s : List Int) : D := .tup (s.map .int)
def fD (f : List (List Int)) : D := .tup (f.map sD)
def strCur (s : List Int) (L : Int) : Int := if L ≤ s.length then (at_ ((sortI s).reverse) (L - 1)).getD 0 else 0
def cur (f : List (List Int)) (L : Int) : Int := (f.map fun s => strCur s L).sum
abbrev C (k n : Nat) (ds : List D) (h : Hq) : R D := callF tab.G 100 k n ds h
theorem sortI_len (s : List Int) : (sortI s).length = s.length := (sortI_perm s).length_eq
theorem at_map {α β : Type} (f : α → β) (xs : List α) (i : Int) : at_ (xs.map f) i = (at_ xs i).map f := by
  unfold at_
  rw [List.length_map]
  cases ixN xs.length i with
  | none => rfl
  | some j => simp
@[simp] theorem at0 {α : Type} (a : α) (l : List α) : at_ (a :: l) 0 = some a := by
  unfold at_ ixN
  have h : (0 : Int) < ((a :: l).length : Int) := by simp
  rw [if_pos (by decide), if_pos h]
  rfl
theorem at_in {α : Type} (xs : List α) {i : Int} (h0 : 0 ≤ i) (h1 : i < xs.length) : ∃ x ∈ xs, at_ xs i = some x := by
  have hi : i.toNat < xs.length := by omega
  refine ⟨xs[i.toNat], List.getElem_mem hi, ?_⟩
  unfold at_ ixN
  rw [if_pos h0, if_pos h1]
  simp [hi]
/-! ### levels -/
def lens (f : List (List Int)) : List Int := f.map fun s => (s.length : Int)
def mxl (f : List (List Int)) : Int := ((lens f).max?).getD 0
/-- a field of the law -/
structure Fld (f : List (List Int)) : Prop where
  ne : f ≠ []
  few : f.length ≤ 8
  str : ∀ s ∈ f, 1 ≤ s.length ∧ s.length ≤ 8
  lit : ∀ s ∈ f, ∀ x ∈ s, 0 ≤ x ∧ x ≤ 99
  sum : (lens f).sum ≤ 24
theorem lens_max {f : List (List Int)} (v : Fld f) : ∃ M, (lens f).max? = some M ∧ mxl f = M ∧ 1 ≤ M ∧ M ≤ 8 ∧ ∀ s ∈ f, (s.length : Int) ≤ M := by
  cases e : (lens f).max? with
  | none =>
    rw [List.max?_eq_none_iff] at e
    unfold lens at e
    rw [List.map_eq_nil_iff] at e
    exact absurd e v.ne
  | some M =>
    obtain ⟨h1, h2⟩ := List.max?_eq_some_iff.mp e
    unfold lens at h1
    obtain ⟨s, hs, rfl⟩ := List.mem_map.mp h1
    have := v.str s hs
    refine ⟨_, rfl, by unfold mxl; rw [e]; rfl, by omega, by omega, fun t ht => h2 _ ?_⟩
    exact List.mem_map_of_mem (f := fun s : List Int => (s.length : Int)) ht
def lvls (f : List (List Int)) : List Int := (List.range (mxl f).toNat).map fun k => 1 + (k : Nat)
theorem mem_lvls {f : List (List Int)} {L : Int} (h : L ∈ lvls f) : 1 ≤ L ∧ L ≤ mxl f := by
  unfold lvls at h
  obtain ⟨k, hk, rfl⟩ := List.mem_map.mp h
  rw [List.mem_range] at hk
  omega
def ylds (f : List (List Int)) : List Int := (lvls f).map fun L => L * cur f L
theorem ylds_max {f : List (List Int)} (v : Fld f) : ∃ Y, (ylds f).max? = some Y := by
  obtain ⟨M, e1, e2, e3, e4, _⟩ := lens_max v
  cases e : (ylds f).max? with
  | some Y => exact ⟨Y, rfl⟩
  | none =>
    rw [List.max?_eq_none_iff] at e
    have := congrArg List.length e
    simp [ylds, lvls] at this
    omega
theorem all_true {α : Type} (l : List α) : (l.map fun _ => true).all id = true := by
  induction l with
  | nil => rfl
  | cons _ _ ih => simp
/-- the first place of a number -/
def fst (x : Int) (l : List Int) : Nat := l.findIdx fun y => y == x
theorem firstAt_int (x : Int) : ∀ l : List Int, x ∈ l → firstAt (.int x) (l.map .int) = some (fst x l)
  | [], h => by simp at h
  | y :: l, h => by
    rw [List.map_cons, firstAt]
    by_cases hy : y = x
    · subst hy
      simp [D.eqv, fst, List.findIdx_cons]
    · have hm : x ∈ l := by
        rcases List.mem_cons.mp h with z | z
        · exact absurd z.symm hy
        · exact z
      have e : (y == x) = false := by simpa using hy
      simp [D.eqv, e, firstAt_int x l hm, fst, List.findIdx_cons]
theorem flat_ints (l : List Int) : (l.map D.int).all flat = true := by simp [flat]

/-! ### arguments -/
theorem c_is_number (k : Nat) (x lo hi : Int) (h1 : lo ≤ x) (h2 : x ≤ hi) (h : Hq) : C (k + 1) 243 [.int x, .int lo, .int hi] h = .ok (.bl true) h := by
  rw [C, callF_eq (f := f_is_number) rfl rfl]
  simp [f_is_number, isi, truthy, cmp, h1, h2, isNon]
theorem c_is_number0 (k : Nat) (x lo : Int) (h1 : lo ≤ x) (h : Hq) : C (k + 1) 243 [.int x, .int lo, .non] h = .ok (.bl true) h := by
  rw [C, callF_eq (f := f_is_number) rfl rfl]
  simp [f_is_number, isi, truthy, cmp, h1, isNon]
theorem c_check_number (k : Nat) (x lo hi : Int) (h1 : lo ≤ x) (h2 : x ≤ hi) (h : Hq) : C (k + 2) 125 [.int x, .int lo, .int hi] h = .ok .non h := by
  rw [C, callF_eq (f := f_check_number) rfl rfl]
  simp [f_check_number, c_is_number k x lo hi h1 h2, truthy]
theorem c_check_number0 (k : Nat) (x lo : Int) (h1 : lo ≤ x) (h : Hq) : C (k + 2) 125 [.int x, .int lo, .non] h = .ok .non h := by
  rw [C, callF_eq (f := f_check_number) rfl rfl]
  simp [f_check_number, c_is_number0 k x lo h1, truthy]

/-! ### the urn -/
def UO (h : Hq) (n : Nat) : Prop := ∃ a m c : Int, h[n]? = some (.lst [.int a, .int m, .int c]) ∧ 0 ≤ a ∧ 0 ≤ m ∧ 0 ≤ c
theorem t_take (k n : Nat) (many : Int) (h : Hq) (u : UO h n) (h1 : 0 < many) (h2 : many < 1073741824) : ∃ r h', C (k + 1) 1001 [.cell n, .int many] h = .ok (.int r) h' ∧ 0 ≤ r ∧ r < many ∧ UO h' n ∧ h'.length = h.length := by
  obtain ⟨a, m, c, hu, ha, hm, hc⟩ := u
  have hn : n < h.length := (List.getElem?_eq_some_iff.mp hu).1
  rw [C, callF_eq (f := f_law_take) rfl rfl]
  by_cases h0 : 0 < a
  · refine ⟨a % many, h.set n (.lst [.int (a / many), .int m, .int c]), ?_, Int.emod_nonneg _ (by omega), Int.emod_lt_of_pos _ h1, ⟨a / many, m, c, by simp [hn], Int.ediv_nonneg ha (by omega), hm, hc⟩, by simp⟩
    simp [f_law_take, ixD, hu, at_, ixN, cmp, truthy, h0, bi, h1, h2, isSl, setI]
  · have e0 : ¬ (0 < a) := h0
    generalize hs : (m * 40009 + 15013 * (c + 1)) % 2147483629 = st
    have s1 : 0 ≤ st := by rw [← hs]; exact Int.emod_nonneg _ (by decide)
    have s2 : st < 2147483629 := by rw [← hs]; exact Int.emod_lt_of_pos _ (by decide)
    have sm : small st = true := by simp [small]; omega
    generalize hs' : (st * (st % 5003 + 30011) + 3 * (c + 1)) % 2147483629 = m'
    have m1 : 0 ≤ m' := by rw [← hs']; exact Int.emod_nonneg _ (by decide)
    refine ⟨(m' / 907) % many, (h.set n (.lst [.int a, .int m, .int (c + 1)])).set n (.lst [.int a, .int m', .int (c + 1)]), ?_, Int.emod_nonneg _ (by omega), Int.emod_lt_of_pos _ h1, ⟨a, m', c + 1, by simp [hn], ha, m1, by omega⟩, by simp⟩
    have g : ∀ X : Ob, (h.set n X)[n]? = some X := fun X => List.getElem?_set_self hn
    have sm2 : small 15013 = true := by decide
    have sm3 : small 40009 = true := by decide
    have sm4 : small 3 = true := by decide
    have l9 : Nat.log2 907 < 9000 := by decide
    simp [f_law_take, ixD, hu, at_, ixN, cmp, truthy, e0, bi, isSl, setI, g, bin, sm2, sm3, sm4, hs, sm, hs', l9, h1]
theorem t_urn (k : Nat) (ns : List Int) (lap : Nat) (h : Hq) : ∃ h', C (k + 1) 1000 [.frl (ns.map .int), .int lap] h = .ok (.cell h.length) h' ∧ UO h' h.length ∧ h'.length = h.length + 1 := by
  rw [C, callF_eq (f := f_law_urn) rfl rfl]
  have sm1 : small 8111 = true := by decide
  have loop : ∀ (l : List Int) (m : Int) (s3 : Sl), 0 ≤ m → ∃ m' s3', 0 ≤ m' ∧ forF (exSs (callF tab.G 100 k) 100 (.cons (.set 2 (.bin .mod (.bi .int (.cons (.bin .add (.bin .add (.bin .mul (.var 2) (.int 50021)) (.bin .mul (.bin .mod (.bi .int (.cons (.var 3) .nil)) (.int 2147483477)) (.int 13))) (.int 41)) .nil)) (.int 2147483629))) .nil)) (.nm 3) (l.map .int)
      [.fz (.frl (ns.map .int)), .fz (.int lap), .fz (.int m), s3, .no] h = .ok (.nx [.fz (.frl (ns.map .int)), .fz (.int lap), .fz (.int m'), s3', .no]) h := by
    intro l
    induction l with
    | nil => exact fun m s3 hm => ⟨m, s3, hm, rfl⟩
    | cons x l ih =>
      intro m s3 hm
      have sm2 : small 50021 = true := by decide
      have sm3 : small 13 = true := by decide
      obtain ⟨m', s3', h1, h2⟩ := ih ((m * 50021 + x % 2147483477 * 13 + 41) % 2147483629) (.fz (.int x)) (Int.emod_nonneg _ (by decide))
      refine ⟨m', s3', h1, ?_⟩
      rw [List.map_cons, forF]
      simp only [bindTg, lift_some, bind_ok]
      simp [bin, bi, sm2, sm3]
      exact h2
  obtain ⟨l, hl⟩ : ∃ l : List Int, cut (ns.map .int) none (some 9) = l.map .int := ⟨_, by
    unfold cut
    rw [← List.map_drop, ← List.map_take]⟩
  obtain ⟨m, s3, hm, e⟩ := loop l (827013 + 8111 * lap) .no (by omega)
  obtain ⟨own, ho⟩ : ∃ own : Int, evE (callF tab.G 100 k) (.ife (.cmp .lt (.var 1) (.bi .len (.cons (.var 0) .nil))) (.bi .int (.cons (.ix (.var 0) (.var 1)) .nil)) (.int 0)) [.fz (.frl (ns.map .int)), .fz (.int lap), .fz (.int m), s3, .no] h = .ok (.int own) h := by
    by_cases hlap : lap < ns.length
    · obtain ⟨x, _, hx⟩ := at_in ns (i := (lap : Int)) (by omega) (by omega)
      have e2 : at_ (ns.map D.int) (lap : Int) = some (.int x) := by rw [at_map, hx]; rfl
      exact ⟨x, by simp [bi, cmp, truthy, hlap, ixD, e2]⟩
    · exact ⟨0, by simp [bi, cmp, truthy, hlap]⟩
  have sm2 : small 59 = true := by decide
  have sm3 : small 30029 = true := by decide
  generalize hm' : (m * 59 + own % 2147483477 * 30029 + 5) % 2147483629 = m'
  have m1 : 0 ≤ m' := by rw [← hm']; exact Int.emod_nonneg _ (by decide)
  obtain ⟨a, ha, ea⟩ : ∃ a : Int, 0 ≤ a ∧ evE (callF tab.G 100 k) (.ife (.or (.cmp .lt (.var 4) (.int 0)) (.cmp .ge (.var 4) (.bin .pow (.int 10) (.int 15)))) (.bi .abs (.cons (.var 4) .nil)) (.int 0)) [.fz (.frl (ns.map .int)), .fz (.int lap), .fz (.int m'), s3, .fz (.int own)] h = .ok (.int a) h := by
    by_cases h0 : own < 0
    · exact ⟨-own, by omega, by simp [cmp, truthy, h0, bi]⟩
    · by_cases h2 : (1000000000000000 : Int) ≤ own
      · exact ⟨own, by omega, by simp [cmp, truthy, h0, bi, bin, h2]⟩
      · exact ⟨0, by omega, by simp [cmp, truthy, h0, bi, bin, h2]⟩
  refine ⟨h ++ [.lst [.int a, .int m', .int 0]], ?_, ⟨a, m', 0, by simp, ha, m1, by omega⟩, by simp⟩
  simp [f_law_urn, bin, sm1, cutD, intOf, hl, seqOf, e, -q_evE_ife, ho, ea, bi, sm2, sm3, hm']


/-! ### a drawn field -/
abbrev rowS : Ss := .cons (.set 6 (.bin .add (.var 6) (.tup (.cons (.call 1002 (.cons (.var 0) (.cons (.lst (.cons (.int 0) (.cons (.var 1) (.cons (.call 1001 (.cons (.var 0) (.cons (.bin .add (.var 1) (.int 1)) .nil))) (.cons (.call 1001 (.cons (.var 0) (.cons (.bin .add (.var 1) (.int 1)) .nil))) .nil))))) .nil))) .nil)))) .nil
theorem plain_ints (l : List Int) : D.plain 60 (.tup (l.map .int)) = true := by
  have : ∀ n (l : List Int), D.plainL (n + 1) (l.map .int) = true := by
    intro n l
    induction l with
    | nil => rfl
    | cons x l ih => simp [D.plainL, D.plain, ih]
  exact this 59 l
abbrev fldS : Ss := .cons (.set 5 (.bin .add (.int 1) (.call 1001 (.cons (.var 0) (.cons (.call 1002 (.cons (.var 0) (.cons (.lst (.cons (.int 2) (.cons (.int 4) (.cons (.int 8) .nil)))) .nil))) .nil))))) (.cons (.set 6 (.tup .nil)) (.cons (.for (.nm 7) (.rng1 (.ife (.cmp .lt (.bin .add (.var 3) (.var 5)) (.int 25)) (.var 5) (.int 0))) rowS)
  (.cons (.tset [2, 3] (.ife (.cmp .ne (.var 6) (.tup .nil)) (.tup (.cons (.bin .add (.var 2) (.tup (.cons (.var 6) .nil))) (.cons (.bin .add (.var 3) (.var 5)) .nil))) (.tup (.cons (.var 2) (.cons (.var 3) .nil))))) .nil)))

/-! ### currents, yields -/
theorem sum_filter {α : Type} (p : α → Bool) (g : α → Int) : ∀ l : List α, ((l.filter p).map g).sum = (l.map fun x => if p x = true then g x else 0).sum
  | [] => rfl
  | x :: l => by
    rw [List.filter_cons]
    by_cases h : p x = true
    · rw [if_pos h, List.map_cons, List.map_cons, List.sum_cons, List.sum_cons, if_pos h, sum_filter p g l]
    · rw [if_neg h, List.map_cons, List.sum_cons, if_neg h, sum_filter p g l]; omega
abbrev curS : Ss := .cons (.app 2 (.bi .sum (.cons (.lcif (.ix (.var 5) (.bin .sub (.var 3) (.int 1))) (.nm 5) (.val (.var 1)) (.cmp .ge (.bi .len (.cons (.var 5) .nil)) (.var 3))) .nil))) .nil
def row1 (s : List Int) : D := .lst ((sortI s).reverse.map .int)
theorem t_curS (cf : Nat → List D → Hq → R D) {f : List (List Int)} (v : Fld f) (X : D) (L : Int) (hL : 1 ≤ L) (acc : List Int) (hacc : acc.length ≤ 100) (s5 : Sl) (h : Hq) : exSs cf 100 curS [.fz X, .fz (.lst (f.map row1)), .ow (.lst (acc.map .int)), .fz (.int L), .no, s5] h = .ok (.nx [.fz X, .fz (.lst (f.map row1)), .ow (.lst ((acc ++ [cur f L]).map .int)), .fz (.int L), .no, s5]) h := by
  have e : lcF (evE cf (.ix (.var 5) (.bin .sub (.var 3) (.int 1)))) (evE cf (.cmp .ge (.bi .len (.cons (.var 5) .nil)) (.var 3))) (.nm 5) (wipeE [.fz X, .fz (.lst (f.map row1)), .ow (.lst (acc.map .int)), .fz (.int L), .no, s5] [5]) (f.map row1) h = .ok ((f.filter fun s => decide (L ≤ s.length)).map fun s => .int (strCur s L)) h := by
    refine lcif_nm (fun s hs => ?_) (fun s hs hq => ?_)
    · simp [wipeE, row1, bi, cmp, sortI_len]
    · have hq : L ≤ s.length := of_decide_eq_true hq
      obtain ⟨x, _, hx⟩ := at_in (sortI s).reverse (i := L - 1) (by omega) (by rw [List.length_reverse, sortI_len]; omega)
      have e2 : at_ (((sortI s).map D.int).reverse) (L - 1) = some (.int x) := by rw [← List.map_reverse, at_map, hx]; rfl
      simp [wipeE, row1, bin, ixD, e2, strCur, hq, hx]
  have hlen : f.length ≤ 16777216 := by have := v.few; omega
  have hs : ((f.filter fun s => decide (L ≤ s.length)).map fun s => strCur s L).sum = cur f L := by
    rw [sum_filter]
    unfold cur
    congr 1
    refine List.map_congr_left fun s _ => ?_
    by_cases h : L ≤ s.length
    · simp [h]
    · simp [h, strCur]
  have ha : acc.length < 16777216 := by omega
  simp [curS, isOw, seqOf, hlen, Tg.slots, e, bi, hs, ha]
def curs (f : List (List Int)) : List Int := (List.range 8).map fun k => cur f (1 + (k : Nat))

theorem small_of {x : Int} (h0 : 0 ≤ x) (h1 : x ≤ 1000000000) : small x = true := by
  simp [small]; omega
theorem curs_len (f : List (List Int)) : (curs f).length = 8 := by unfold curs; rw [List.length_map, List.length_range]
theorem curs_at (f : List (List Int)) (j : Nat) (hj : j < 8) : at_ ((curs f).map D.int) (j : Nat) = some (.int (cur f (1 + (j : Nat)))) := by
  rw [at_map]
  unfold at_ ixN
  rw [curs_len, if_pos (Int.natCast_nonneg j), if_pos (Int.ofNat_lt.mpr hj)]
  show Option.map D.int ((curs f)[(j : Int).toNat]?) = _
  rw [Int.toNat_natCast]
  unfold curs
  rw [List.getElem?_map, List.getElem?_range hj]
  rfl
theorem yl_e (k : Nat) {f : List (List Int)} (R : List Nat) (hR : ∀ j ∈ R, j < 8) (h : Hq) : lcF (evE (callF tab.G 100 (k + 1)) (.bin .mul (.bin .add (.var 2) (.int 1)) (.ix (.var 1) (.var 2)))) (fun _ h => .ok (.bl true) h) (.nm 2) (wipeE [.fz (fD f), .fz (.lst ((curs f).map .int)), .no] [2]) (R.map fun j => .int (j : Nat)) h = .ok (R.map fun j => .int (((j : Nat) + 1 : Int) * cur f (1 + (j : Nat)))) h := by
  refine lc_nm fun j hj => ?_
  have hj := hR j hj
  have sm : small ((j : Int) + 1) = true := small_of (by omega) (by omega)
  have e1 : evE (callF tab.G 100 (k + 1)) (.bin .add (.var 2) (.int 1)) [.fz (fD f), .fz (.lst ((curs f).map .int)), .fz (.int (j : Nat))] h = .ok (.int ((j : Int) + 1)) h := by simp [bin]
  have e2 : evE (callF tab.G 100 (k + 1)) (.ix (.var 1) (.var 2)) [.fz (fD f), .fz (.lst ((curs f).map .int)), .fz (.int (j : Nat))] h = .ok (.int (cur f (1 + (j : Nat)))) h := by simp [ixD, curs_at f j hj]
  have e3 : bin .mul (.int ((j : Int) + 1)) (.int (cur f (1 + (j : Nat)))) = some (.int (((j : Int) + 1) * cur f (1 + (j : Nat)))) := by simp [bin, sm]
  show evE (callF tab.G 100 (k + 1)) (.bin .mul (.bin .add (.var 2) (.int 1)) (.ix (.var 1) (.var 2))) [.fz (fD f), .fz (.lst ((curs f).map .int)), .fz (.int (j : Nat))] h = _
  rw [q_evE_bin, e1, bind_ok, e2, bind_ok, e3, lift_some]
theorem curs_at' (f : List (List Int)) (L : Int) (h1 : 1 ≤ L) (h2 : L ≤ 8) : at_ ((curs f).map D.int) (L - 1) = some (.int (cur f L)) := by
  have e := curs_at f (L - 1).toNat (by omega)
  have e1 : (((L - 1).toNat : Nat) : Int) = L - 1 := by omega
  rw [e1] at e
  rw [e]
  congr 3
  omega


/-! ### plain laws of currents -/
theorem strCur_bd {s : List Int} (hs : ∀ x ∈ s, 0 ≤ x ∧ x ≤ 99) (L : Int) (hL : 1 ≤ L) : 0 ≤ strCur s L ∧ strCur s L ≤ 99 := by
  unfold strCur
  by_cases h : L ≤ s.length
  · rw [if_pos h]
    obtain ⟨x, hx, e⟩ := at_in (sortI s).reverse (i := L - 1) (by omega) (by rw [List.length_reverse, sortI_len]; omega)
    rw [e]
    rw [List.mem_reverse] at hx
    exact hs x ((sortI_perm s).mem_iff.mp hx)
  · rw [if_neg h]; omega
theorem sum_bd {α : Type} (g : α → Int) (b : Int) (hb : 0 ≤ b) : ∀ l : List α, (∀ x ∈ l, 0 ≤ g x ∧ g x ≤ b) → 0 ≤ (l.map g).sum ∧ (l.map g).sum ≤ b * l.length
  | [], _ => by simp
  | x :: l, h => by
    have h1 := h x List.mem_cons_self
    have h2 := sum_bd g b hb l fun y hy => h y (List.mem_cons_of_mem _ hy)
    rw [List.map_cons, List.sum_cons, List.length_cons]
    have e : b * ((l.length + 1 : Nat) : Int) = b * (l.length : Int) + b := by
      rw [Int.natCast_add, Int.mul_add]; simp
    omega
theorem cur_bd {f : List (List Int)} (v : Fld f) (L : Int) (hL : 1 ≤ L) : 0 ≤ cur f L ∧ cur f L ≤ 792 := by
  have z := sum_bd (fun s => strCur s L) 99 (by omega) f fun s hs => strCur_bd (v.lit s hs) L hL
  have := v.few
  unfold cur
  omega
theorem cur_far {f : List (List Int)} (v : Fld f) (L : Int) (hL : mxl f < L) : cur f L = 0 := by
  obtain ⟨M, e1, e2, e3, e4, e5⟩ := lens_max v
  unfold cur
  have : ∀ l : List (List Int), (∀ s ∈ l, s ∈ f) → (l.map fun s => strCur s L).sum = 0 := by
    intro l
    induction l with
    | nil => intro _; rfl
    | cons s l ih =>
      intro h
      have hs := e5 s (h s List.mem_cons_self)
      rw [List.map_cons, List.sum_cons, ih fun t ht => h t (List.mem_cons_of_mem _ ht)]
      unfold strCur
      rw [if_neg (by omega)]
      rfl
  exact this f fun _ h => h
def all8 : List Int := (List.range 8).map fun k => 1 + (k : Nat)
theorem mem_all8 {L : Int} : L ∈ all8 ↔ 1 ≤ L ∧ L ≤ 8 := by
  unfold all8
  constructor
  · intro h
    obtain ⟨k, hk, rfl⟩ := List.mem_map.mp h
    rw [List.mem_range] at hk
    omega
  · rintro ⟨h1, h2⟩
    exact List.mem_map.mpr ⟨(L - 1).toNat, by rw [List.mem_range]; omega, by omega⟩
theorem mem_lvls' {f : List (List Int)} {L : Int} : L ∈ lvls f ↔ 1 ≤ L ∧ L ≤ mxl f := by
  constructor
  · exact mem_lvls
  · rintro ⟨h1, h2⟩
    unfold lvls
    exact List.mem_map.mpr ⟨(L - 1).toNat, by rw [List.mem_range]; omega, by omega⟩
/-- the greatest yield of all eight levels is that of the levels there are -/
theorem most_eq {f : List (List Int)} (v : Fld f) {Y : Int} (hY : (ylds f).max? = some Y) : (∃ L, 1 ≤ L ∧ L ≤ mxl f ∧ L * cur f L = Y) ∧ (∀ L, 1 ≤ L → L ≤ 8 → L * cur f L ≤ Y) ∧ 0 ≤ Y := by
  obtain ⟨h1, h2⟩ := List.max?_eq_some_iff.mp hY
  obtain ⟨M, e1, e2, e3, e4, e5⟩ := lens_max v
  unfold ylds at h1
  obtain ⟨L0, hL0, rfl⟩ := List.mem_map.mp h1
  have b0 := mem_lvls hL0
  have y0 : 0 ≤ L0 * cur f L0 := Int.mul_nonneg (by omega) (cur_bd v L0 b0.1).1
  refine ⟨⟨L0, b0.1, b0.2, rfl⟩, fun L hL hL8 => ?_, y0⟩
  by_cases hm : L ≤ mxl f
  · exact h2 _ (List.mem_map_of_mem (f := fun L => L * cur f L) (mem_lvls'.mpr ⟨hL, hm⟩))
  · rw [cur_far v L (by omega), Int.mul_zero]
    exact y0
theorem most8 {f : List (List Int)} (v : Fld f) {Y : Int} (hY : (ylds f).max? = some Y) : bi .max [.lst ((List.range 8).map fun j => D.int (((j : Nat) + 1 : Int) * cur f (1 + (j : Nat))))] = some (.int Y) := by
  obtain ⟨⟨L, a1, a2, a3⟩, m2, m3⟩ := most_eq v hY
  obtain ⟨M, e1, e2, e3, e4, e5⟩ := lens_max v
  have e : ((List.range 8).map fun j : Nat => ((j : Nat) + 1 : Int) * cur f (1 + (j : Nat))).max? = some Y := by
    refine List.max?_eq_some_iff.mpr ⟨List.mem_map.mpr ⟨(L - 1).toNat, by rw [List.mem_range]; omega, ?_⟩, fun x hx => ?_⟩
    · have h1 : ((L - 1).toNat : Int) + 1 = L := by omega
      have h2 : 1 + ((L - 1).toNat : Int) = L := by omega
      simp only [h1, h2]; exact a3
    · obtain ⟨j, hj, rfl⟩ := List.mem_map.mp hx
      rw [List.mem_range] at hj
      have h1 : (j : Int) + 1 = 1 + (j : Int) := by omega
      simp only [h1]
      exact m2 (1 + (j : Int)) (by omega) (by omega)
  show ((intsOf ((List.range 8).map fun j => D.int (((j : Nat) + 1 : Int) * cur f (1 + (j : Nat))))).bind fun l => l.max?.map D.int) = _
  rw [intsOf_map2, Option.bind_some, e]
  rfl


/-! ### texts of lists of small numbers -/
theorem log_small {x : Int} (h0 : 0 ≤ x) (h1 : x ≤ 1000000) : x.natAbs.log2 < 20 := by
  by_cases hz : x.natAbs = 0
  · rw [hz]; decide
  · rw [Nat.log2_lt hz]; omega
theorem rp (l : List Int) (hl : l.length ≤ 20) (hb : ∀ x ∈ l, 0 ≤ x ∧ x ≤ 1000000) : bi .repr [.lst (l.map .int)] = some (.rep (.lst (l.map .int))) := by
  have p1 : ∀ (n : Nat) (l : List Int), D.plainL (n + 1) (l.map .int) = true := by
    intro n l
    induction l with
    | nil => rfl
    | cons x l ih => simp [D.plainL, D.plain, ih]
  have p2 : ∀ l : List Int, (∀ x ∈ l, 0 ≤ x ∧ x ≤ 1000000) → D.showsL (l.map .int) = true := by
    intro l
    induction l with
    | nil => intro _; rfl
    | cons x l ih =>
      intro h
      have hx := h x List.mem_cons_self
      have := log_small hx.1 hx.2
      have e : decide (x.natAbs.log2 < 1920) = true := decide_eq_true (by omega)
      show (decide (x.natAbs.log2 < 1920) && D.showsL (l.map .int)) = true
      rw [e, ih fun y hy => h y (List.mem_cons_of_mem _ hy)]
      rfl
  have p3 : ∀ l : List Int, (∀ x ∈ l, 0 ≤ x ∧ x ≤ 1000000) → D.wtL (l.map .int) ≤ 30 * l.length := by
    intro l
    induction l with
    | nil => intro _; exact Nat.le_refl _
    | cons x l ih =>
      intro h
      have hx := h x List.mem_cons_self
      have h1 := log_small hx.1 hx.2
      have h2 := ih fun y hy => h y (List.mem_cons_of_mem _ hy)
      show x.natAbs.log2 + 3 + 2 + D.wtL (l.map .int) ≤ 30 * (l.length + 1)
      omega
  have e1 : D.plain 60 (.lst (l.map .int)) = true := p1 59 l
  have e2 : D.shows (.lst (l.map .int)) = true := p2 l hb
  have e3 : D.wt (.lst (l.map .int)) ≤ 16777216 := by
    have := p3 l hb
    show D.wtL (l.map .int) + 3 ≤ _
    omega
  show (if (seqOf (.lst (l.map .int))).isSome && D.plain 60 (.lst (l.map .int)) && D.shows (.lst (l.map .int)) && decide (D.wt (.lst (l.map .int)) ≤ 16777216) then some (D.rep (.lst (l.map .int))) else none) = _
  rw [e1, e2, decide_eq_true e3]
  rfl
theorem same_ints : ∀ l : List Int, D.sameL (l.map .int) (l.map .int) = true
  | [] => rfl
  | x :: l => by
    show ((x == x) && D.sameL (l.map .int) (l.map .int)) = true
    rw [same_ints l]
    simp
theorem ne_rep (l : List Int) : cmp .ne (.rep (.lst (l.map .int))) (.rep (.lst (l.map .int))) = some (.bl false) := by
  have e : D.same (.lst (l.map .int)) (.lst (l.map .int)) = true := same_ints l
  simp [cmp, eqD, e]
/-! ### data that has a text -/
mutual
theorem same_refl : ∀ (d : D) (n : Nat), D.plain n d = true → D.same d d = true
  | .non, _, _ => rfl
  | .bl b, _, _ => by simp [D.same]
  | .int i, _, _ => by simp [D.same]
  | .str x, _, _ => by simp [D.same]
  | .tup xs, n, h => sameL_refl xs n h
  | .lst xs, n, h => sameL_refl xs n h
  | .frl _, n, h => by cases n <;> simp [D.plain] at h
  | .dI _ _, n, h => by cases n <;> simp [D.plain] at h
  | .dT _ _, n, h => by cases n <;> simp [D.plain] at h
  | .rng _ _, n, h => by cases n <;> simp [D.plain] at h
  | .rep _, n, h => by cases n <;> simp [D.plain] at h
  | .cell _, n, h => by cases n <;> simp [D.plain] at h
  | .fn _ _, n, h => by cases n <;> simp [D.plain] at h
theorem sameL_refl : ∀ (ds : List D) (n : Nat), D.plainL n ds = true → D.sameL ds ds = true
  | [], _, _ => rfl
  | x :: xs, 0, h => by simp [D.plainL] at h
  | x :: xs, n + 1, h => by
    have h : (D.plain n x && D.plainL (n + 1) xs) = true := h
    rw [Bool.and_eq_true] at h
    show (D.same x x && D.sameL xs xs) = true
    rw [same_refl x n h.1, sameL_refl xs (n + 1) h.2]
    rfl
end
def Rk (n w : Nat) (d : D) : Prop := D.plain n d = true ∧ D.shows d = true ∧ D.wt d ≤ w
theorem rk_int {n : Nat} {x : Int} (h : x.natAbs ≤ 1000000) : Rk n 30 (.int x) := by
  have z : x.natAbs.log2 < 20 := by
    by_cases hz : x.natAbs = 0
    · rw [hz]; decide
    · rw [Nat.log2_lt hz]; omega
  refine ⟨by cases n <;> rfl, ?_, ?_⟩
  · show decide (x.natAbs.log2 < 1920) = true
    exact decide_eq_true (by omega)
  · show x.natAbs.log2 + 3 ≤ 30
    omega
theorem rk_non {n : Nat} : Rk n 30 .non := ⟨by cases n <;> rfl, rfl, by decide⟩
theorem rk_bl {n : Nat} {b : Bool} : Rk n 30 (.bl b) := ⟨by cases n <;> rfl, rfl, by show 5 ≤ 30; omega⟩
theorem rkL {n w : Nat} : ∀ {ds : List D}, (∀ d ∈ ds, Rk n w d) → D.plainL (n + 1) ds = true ∧ D.showsL ds = true ∧ D.wtL ds ≤ (w + 2) * ds.length
  | [], _ => ⟨rfl, rfl, Nat.zero_le _⟩
  | d :: ds, h => by
    obtain ⟨h1, h2, h3⟩ := h d List.mem_cons_self
    obtain ⟨g1, g2, g3⟩ := rkL (n := n) (w := w) (ds := ds) fun x hx => h x (List.mem_cons_of_mem _ hx)
    refine ⟨?_, ?_, ?_⟩
    · show (D.plain n d && D.plainL (n + 1) ds) = true
      rw [h1, g1]; rfl
    · show (D.shows d && D.showsL ds) = true
      rw [h2, g2]; rfl
    · show D.wt d + 2 + D.wtL ds ≤ (w + 2) * (ds.length + 1)
      rw [Nat.mul_add]
      omega
theorem rk_tup {n w v : Nat} {ds : List D} (h : ∀ d ∈ ds, Rk n w d) (hv : (w + 2) * ds.length + 3 ≤ v) : Rk (n + 1) v (.tup ds) := by
  obtain ⟨g1, g2, g3⟩ := rkL h
  exact ⟨g1, g2, by show D.wtL ds + 3 ≤ v; omega⟩
theorem rk_lst {n w v : Nat} {ds : List D} (h : ∀ d ∈ ds, Rk n w d) (hv : (w + 2) * ds.length + 3 ≤ v) : Rk (n + 1) v (.lst ds) := by
  obtain ⟨g1, g2, g3⟩ := rkL h
  exact ⟨g1, g2, by show D.wtL ds + 3 ≤ v; omega⟩
theorem Rk.mono {n v w : Nat} {d : D} (h : Rk n v d) (hv : v ≤ w) : Rk n w d := ⟨h.1, h.2.1, Nat.le_trans h.2.2 hv⟩
theorem rk_ints {n : Nat} {l : List Int} (h : ∀ x ∈ l, x.natAbs ≤ 1000000) : ∀ d ∈ l.map D.int, Rk n 30 d := fun d hd => by
  obtain ⟨x, hx, rfl⟩ := List.mem_map.mp hd
  exact rk_int (h x hx)
theorem rp_lst {w : Nat} {ds : List D} (h : Rk 60 w (.lst ds)) (hw : w ≤ 16777216) : bi .repr [.lst ds] = some (.rep (.lst ds)) := by
  show (if (seqOf (.lst ds)).isSome && D.plain 60 (.lst ds) && D.shows (.lst ds) && decide (D.wt (.lst ds) ≤ 16777216) then some (D.rep (.lst ds)) else none) = _
  rw [h.1, h.2.1, decide_eq_true (Nat.le_trans h.2.2 hw)]
  rfl
theorem rp_tup {w : Nat} {ds : List D} (h : Rk 60 w (.tup ds)) (hw : w ≤ 16777216) : bi .repr [.tup ds] = some (.rep (.tup ds)) := by
  show (if (seqOf (.tup ds)).isSome && D.plain 60 (.tup ds) && D.shows (.tup ds) && decide (D.wt (.tup ds) ≤ 16777216) then some (D.rep (.tup ds)) else none) = _
  rw [h.1, h.2.1, decide_eq_true (Nat.le_trans h.2.2 hw)]
  rfl
theorem ne_rr {n w : Nat} {d : D} (h : Rk n w d) : cmp .ne (.rep d) (.rep d) = some (.bl false) := by
  have e := same_refl d n h.1
  simp [cmp, eqD, e]
theorem rks_nil {n w : Nat} : ∀ d ∈ ([] : List D), Rk n w d := fun _ h => by cases h
theorem rks_cons {n w : Nat} {d : D} {ds : List D} (h : Rk n w d) (t : ∀ x ∈ ds, Rk n w x) : ∀ x ∈ d :: ds, Rk n w x := fun x hx => by
  rcases List.mem_cons.mp hx with z | z
  · rw [z]; exact h
  · exact t x z
theorem rk_pair {n : Nat} {a b : Int} (ha : a.natAbs ≤ 1000000) (hb : b.natAbs ≤ 1000000) : Rk (n + 1) 70 (.tup [.int a, .int b]) := rk_tup (w := 30) (rks_cons (rk_int ha) (rks_cons (rk_int hb) rks_nil)) (by simp)


/-! ### the light of a level, by counting -/
theorem desc_count : ∀ (d : List Int), d.Pairwise (fun a b => b ≤ a) → ∀ (i : Nat) (hi : i < d.length) (x : Int), x ≤ d[i] ↔ i < d.countP fun y => decide (x ≤ y)
  | [], _, i, hi, _ => by simp at hi
  | a :: r, h, i, hi, x => by
    rw [List.pairwise_cons] at h
    obtain ⟨h1, h2⟩ := h
    rw [List.countP_cons]
    by_cases ha : x ≤ a
    · simp only [ha, decide_true, if_true]
      cases i with
      | zero => simp [ha]
      | succ i =>
        have z := desc_count r h2 i (by simpa using hi) x
        simp only [List.getElem_cons_succ]
        rw [z]
        omega
    · have hz : r.countP (fun y => decide (x ≤ y)) = 0 := by
        rw [List.countP_eq_zero]
        intro y hy
        have := h1 y hy
        simp
        omega
      simp only [ha, decide_false, Bool.false_eq_true, if_false, hz]
      cases i with
      | zero => simp [ha]
      | succ i =>
        simp only [List.getElem_cons_succ]
        have hi' : i < r.length := by simpa using hi
        have := h1 r[i] (List.getElem_mem hi')
        omega
theorem strCur_at (s : List Int) (L : Int) (h1 : 1 ≤ L) (h2 : L ≤ s.length) : ∃ (hi : (L - 1).toNat < (sortI s).reverse.length), strCur s L = (sortI s).reverse[(L - 1).toNat] := by
  have hi : (L - 1).toNat < (sortI s).reverse.length := by rw [List.length_reverse, sortI_len]; omega
  refine ⟨hi, ?_⟩
  unfold strCur
  rw [if_pos h2]
  unfold at_ ixN
  rw [if_pos (by omega), if_pos (by rw [List.length_reverse, sortI_len]; omega), Option.bind_some, List.getElem?_eq_getElem hi]
  rfl
/-- x or more at a level: so many lights are x or more -/
theorem strCur_ge (s : List Int) (L x : Int) (h1 : 1 ≤ L) (h2 : L ≤ s.length) : x ≤ strCur s L ↔ L ≤ (s.countP fun y => decide (x ≤ y) : Nat) := by
  obtain ⟨hi, e⟩ := strCur_at s L h1 h2
  have hp : (sortI s).reverse.Pairwise fun a b => b ≤ a := by
    rw [List.pairwise_reverse]; exact sortI_sorted s
  rw [e, desc_count _ hp _ hi x, List.countP_reverse, (sortI_perm s).countP_eq]
  omega
/-- nowhere above -/
def UpS (s t : List Int) : Prop := s.length = t.length ∧ ∀ p ∈ s.zip t, p.1 ≤ p.2
theorem count_up (x : Int) : ∀ s t : List Int, UpS s t → s.countP (fun y => decide (x ≤ y)) ≤ t.countP fun y => decide (x ≤ y)
  | [], [], _ => Nat.le_refl _
  | [], _ :: _, h => by simp [UpS] at h
  | _ :: _, [], h => by simp [UpS] at h
  | a :: s, b :: t, h => by
    obtain ⟨h1, h2⟩ := h
    have ih := count_up x s t ⟨by simpa using h1, fun p hp => h2 p (by rw [List.zip_cons_cons]; exact List.mem_cons_of_mem _ hp)⟩
    have hab : a ≤ b := h2 (a, b) (by rw [List.zip_cons_cons]; exact List.mem_cons_self)
    rw [List.countP_cons, List.countP_cons]
    by_cases ha : x ≤ a
    · have hb : x ≤ b := by omega
      simp [ha, hb]; exact ih
    · simp [ha]; omega
theorem strCur_up {s t : List Int} (h : UpS s t) (L : Int) (hL : 1 ≤ L) : strCur s L ≤ strCur t L := by
  by_cases h2 : L ≤ s.length
  · have h3 : L ≤ t.length := by rw [← h.1]; exact h2
    rw [strCur_ge t L _ hL h3]
    have z := (strCur_ge s L (strCur s L) hL h2).mp (Int.le_refl _)
    have := count_up (strCur s L) s t h
    omega
  · have h3 : ¬ L ≤ t.length := by rw [← h.1]; exact h2
    unfold strCur
    rw [if_neg h2, if_neg h3]
    exact Int.le_refl _
def Up (f g : List (List Int)) : Prop := f.length = g.length ∧ ∀ p ∈ f.zip g, UpS p.1 p.2
theorem up_ind {P : List (List Int) → List (List Int) → Prop} (h0 : P [] []) (hs : ∀ s t f g, UpS s t → Up f g → P f g → P (s :: f) (t :: g)) : ∀ f g, Up f g → P f g
  | [], [], _ => h0
  | [], _ :: _, h => by simp [Up] at h
  | _ :: _, [], h => by simp [Up] at h
  | s :: f, t :: g, h => by
    obtain ⟨h1, h2⟩ := h
    have hu : Up f g := ⟨by simpa using h1, fun p hp => h2 p (by rw [List.zip_cons_cons]; exact List.mem_cons_of_mem _ hp)⟩
    exact hs s t f g (h2 (s, t) (by rw [List.zip_cons_cons]; exact List.mem_cons_self)) hu (up_ind h0 hs f g hu)
theorem cur_up {f g : List (List Int)} (h : Up f g) (L : Int) (hL : 1 ≤ L) : cur f L ≤ cur g L := by
  refine up_ind (P := fun f g => cur f L ≤ cur g L) (Int.le_refl _) (fun s t f g hs _ ih => ?_) f g h
  have := strCur_up hs L hL
  unfold cur at ih ⊢
  simp only [List.map_cons, List.sum_cons]
  omega
theorem lens_up {f g : List (List Int)} (h : Up f g) : lens f = lens g := by
  refine up_ind (P := fun f g => lens f = lens g) rfl (fun s t f g hs _ ih => ?_) f g h
  unfold lens at ih ⊢
  simp only [List.map_cons]
  rw [ih, hs.1]
theorem lvls_eq {f g : List (List Int)} (h : lens f = lens g) : lvls f = lvls g := by unfold lvls mxl; rw [h]
theorem zip_trans {s t u : List Int} (h1 : UpS s t) (h2 : UpS t u) : UpS s u := by
  refine ⟨h1.1.trans h2.1, fun p hp => ?_⟩
  obtain ⟨i, hi, e⟩ := List.mem_iff_getElem.mp hp
  have l1 := h1.1
  have l2 := h2.1
  rw [List.length_zip] at hi
  have a := h1.2 (s[i]'(by omega), t[i]'(by omega)) (List.mem_iff_getElem.mpr ⟨i, by rw [List.length_zip]; omega, by simp⟩)
  have b := h2.2 (t[i]'(by omega), u[i]'(by omega)) (List.mem_iff_getElem.mpr ⟨i, by rw [List.length_zip]; omega, by simp⟩)
  simp at e
  rw [← e]
  exact Int.le_trans a b
theorem up_trans {f g k : List (List Int)} (h1 : Up f g) (h2 : Up g k) : Up f k := by
  refine ⟨h1.1.trans h2.1, fun p hp => ?_⟩
  obtain ⟨i, hi, e⟩ := List.mem_iff_getElem.mp hp
  have l1 := h1.1
  have l2 := h2.1
  rw [List.length_zip] at hi
  have a := h1.2 (f[i]'(by omega), g[i]'(by omega)) (List.mem_iff_getElem.mpr ⟨i, by rw [List.length_zip]; omega, by simp⟩)
  have b := h2.2 (g[i]'(by omega), k[i]'(by omega)) (List.mem_iff_getElem.mpr ⟨i, by rw [List.length_zip]; omega, by simp⟩)
  simp at e
  rw [← e]
  exact zip_trans a b


/-! ### eight levels -/
def R8 : List Nat := List.range 8
@[simp] theorem range1_8 : range1 8 = R8.map fun j => D.int (j : Nat) := rfl
@[simp] theorem R8_len : R8.length = 8 := rfl
theorem mem_R8 {j : Nat} : j ∈ R8 ↔ j < 8 := by unfold R8; exact List.mem_range
theorem all8_R8 : all8 = R8.map fun j : Nat => (1 : Int) + (j : Nat) := rfl
@[simp] theorem range2_19 : range2 1 9 = all8.map D.int := rfl
def yl8 (f : List (List Int)) : List Int := all8.map fun L => L * cur f L
theorem all8_at {α : Type} (F : Int → α) (L : Int) (h1 : 1 ≤ L) (h2 : L ≤ 8) : at_ (all8.map F) (L - 1) = some (F L) := by
  have hl : (all8.map F).length = 8 := by rw [List.length_map]; rfl
  unfold at_ ixN
  rw [hl, if_pos (by omega), if_pos (by omega), Option.bind_some]
  have : all8[(L - 1).toNat]? = some L := by
    unfold all8
    rw [List.getElem?_map, List.getElem?_range (by omega)]
    simp
    omega
  rw [List.getElem?_map, this]
  rfl
theorem yl8_at (f : List (List Int)) (L : Int) (h1 : 1 ≤ L) (h2 : L ≤ 8) : at_ ((yl8 f).map D.int) (L - 1) = some (.int (L * cur f L)) := by
  unfold yl8
  rw [List.map_map]
  exact all8_at (D.int ∘ fun L => L * cur f L) L h1 h2
theorem yl8_atN (f : List (List Int)) (j : Nat) (h : j < 8) : at_ ((yl8 f).map D.int) (j : Nat) = some (.int ((1 + (j : Nat)) * cur f (1 + (j : Nat)))) := by
  have z := yl8_at f (1 + (j : Nat)) (by omega) (by omega)
  rw [show (1 + (j : Int) - 1) = (j : Int) by omega] at z
  exact z
theorem curs_all8 (f : List (List Int)) : curs f = all8.map (cur f) := by
  unfold curs all8
  rw [List.map_map]
  rfl
/-- the greatest of some -/
theorem max_le {l : List Int} {m : Int} (h : l.max? = some m) (x : Int) : m ≤ x ↔ ∀ y ∈ l, y ≤ x := by
  obtain ⟨h1, h2⟩ := List.max?_eq_some_iff.mp h
  exact ⟨fun z y hy => Int.le_trans (h2 y hy) z, fun z => z m h1⟩
theorem max_some {l : List Int} (h : l ≠ []) : ∃ m, l.max? = some m := by
  cases e : l.max? with
  | some m => exact ⟨m, rfl⟩
  | none => exact absurd (List.max?_eq_none_iff.mp e) h
theorem min_some {l : List Int} (h : l ≠ []) : ∃ m, l.min? = some m := by
  cases e : l.min? with
  | some m => exact ⟨m, rfl⟩
  | none => exact absurd (List.min?_eq_none_iff.mp e) h
theorem bi_max {l : List Int} {m : Int} (h : l.max? = some m) : bi .max [.lst (l.map .int)] = some (.int m) := by simp [bi, h]
theorem bi_min {l : List Int} {m : Int} (h : l.min? = some m) : bi .min [.lst (l.map .int)] = some (.int m) := by simp [bi, h]
theorem bi_maxT {l : List Int} {m : Int} (h : l.max? = some m) : bi .max [.tup (l.map .int)] = some (.int m) := by simp [bi, h]
theorem bi_minT {l : List Int} {m : Int} (h : l.min? = some m) : bi .min [.tup (l.map .int)] = some (.int m) := by simp [bi, h]
theorem yl8_max {f : List (List Int)} (v : Fld f) {Y : Int} (hY : (ylds f).max? = some Y) : (yl8 f).max? = some Y := by
  obtain ⟨⟨L, a1, a2, a3⟩, m2, m3⟩ := most_eq v hY
  obtain ⟨M, e1, e2, e3, e4, e5⟩ := lens_max v
  refine List.max?_eq_some_iff.mpr ⟨List.mem_map.mpr ⟨L, mem_all8.mpr ⟨a1, by omega⟩, a3⟩, fun x hx => ?_⟩
  obtain ⟨K, hK, rfl⟩ := List.mem_map.mp hx
  obtain ⟨k1, k2⟩ := mem_all8.mp hK
  exact m2 K k1 k2
/-- a loop that ends at the first item of a kind -/
theorem forF_find {α σ : Type} {f : Env → Hq → R Fl} {tg : Tg} {inj : α → D} (env : σ → Env) (p : α → Bool) (r : α → D) (h : Hq) : ∀ (xs : List α) (w : σ),
    (∀ x ∈ xs, ∀ w, ∃ ρ', bindTg tg (inj x) (env w) = some ρ' ∧ (p x = true → f ρ' h = .ok (.rt (r x)) h) ∧ (p x = false → ∃ w', f ρ' h = .ok (.nx (env w')) h)) →
    (∀ x, xs.find? p = some x → forF f tg (xs.map inj) (env w) h = .ok (.rt (r x)) h) ∧ (xs.find? p = none → ∃ w', forF f tg (xs.map inj) (env w) h = .ok (.nx (env w')) h)
  | [], w, _ => ⟨fun x hx => by simp at hx, fun _ => ⟨w, rfl⟩⟩
  | x :: xs, w, hs => by
    obtain ⟨ρ', e1, e2, e3⟩ := hs x List.mem_cons_self w
    rw [List.map_cons, forF, e1]
    simp only [lift_some, bind_ok, List.find?_cons]
    cases hp : p x with
    | true =>
      refine ⟨fun y hy => ?_, fun hn => by simp at hn⟩
      simp only [Option.some.injEq] at hy
      subst hy
      rw [e2 hp]
      rfl
    | false =>
      obtain ⟨w', e4⟩ := e3 hp
      obtain ⟨i1, i2⟩ := forF_find env p r h xs w' fun y hy => hs y (List.mem_cons_of_mem _ hy)
      rw [e4]
      exact ⟨i1, i2⟩
theorem foldr_find {α β : Type} (p : α → Bool) (r : α → β) (z : β) : ∀ l : List α, l.foldr (fun x a => if p x = true then r x else a) z = match l.find? p with | some x => r x | none => z
  | [] => rfl
  | x :: l => by
    rw [List.foldr_cons, List.find?_cons]
    cases hp : p x with
    | true => simp
    | false => simp [foldr_find p r z l]


/-! ### the law over all its laps -/
theorem lc_all (k : Nat) (hr : ∀ (h : Hq) (n : Nat), UO h n → ∃ h', C (k + 1) 1005 [.cell n] h = .ok (.bl true) h') (ns : List Int) : ∀ (l : List Nat) (h : Hq), ∃ h', lcF (evE (callF tab.G 100 (k + 1)) (.call 1005 (.cons (.call 1000 (.cons (.var 0) (.cons (.var 1) .nil))) .nil))) (fun _ h => .ok (.bl true) h) (.nm 1) (wipeE [.fz (.frl (ns.map .int)), .no] [1]) (l.map fun j => D.int (j : Nat)) h = .ok (l.map fun _ => D.bl true) h'
  | [], h => ⟨h, rfl⟩
  | j :: l, h => by
    obtain ⟨h1, e1, u1, _⟩ := t_urn k ns j h
    obtain ⟨h2, e2⟩ := hr h1 h.length u1
    obtain ⟨h3, e3⟩ := lc_all k hr ns l h2
    refine ⟨h3, ?_⟩
    rw [List.map_cons, lcF]
    have e4 : evE (callF tab.G 100 (k + 1)) (.call 1005 (.cons (.call 1000 (.cons (.var 0) (.cons (.var 1) .nil))) .nil)) [.fz (.frl (ns.map .int)), .fz (.int (j : Nat))] h = .ok (.bl true) h2 := by
      simp [e1, e2]
    have e5 : bindTg (.nm 1) (.int (j : Nat)) (wipeE [.fz (.frl (ns.map .int)), .no] [1]) = some [.fz (.frl (ns.map .int)), .fz (.int (j : Nat))] := rfl
    rw [e5, lift_some, bind_ok, nox_ok, bind_ok]
    simp only [truthy, lift_some, bind_ok, if_true, e4, nox_ok, e3]
    rfl
theorem law_of (k : Nat) (hr : ∀ (h : Hq) (n : Nat), UO h n → ∃ h', C (k + 1) 1005 [.cell n] h = .ok (.bl true) h') (ns : List Int) : ∃ h, callF tab.G 100 (k + 2) 1006 [.frl (ns.map .int)] [] = .ok (.bl true) h := by
  obtain ⟨M, hM⟩ : ∃ M : Int, M = max 1 (min (ns.length : Int) 3) := ⟨_, rfl⟩
  obtain ⟨h', e⟩ := lc_all k hr ns (List.range M.toNat) []
  refine ⟨h', ?_⟩
  rw [callF_eq (f := f_law) rfl rfl]
  have ok : okR M = true := by simp [okR]; omega
  have hr : range1 M = (List.range M.toNat).map fun j => D.int (j : Nat) := rfl
  have hl : (List.range M.toNat).length ≤ 16777216 := by rw [List.length_range]; omega
  obtain ⟨R, hR⟩ : ∃ R, R = List.range M.toNat := ⟨_, rfl⟩
  rw [← hR] at hr hl e
  have h1 : bi .len [.frl (ns.map .int)] = some (.int (ns.length : Int)) := by simp [bi]
  have h2 : bi .min2 [.int (ns.length : Int), .int 3] = some (.int (min (ns.length : Int) 3)) := rfl
  have h3 : bi .max2 [.int 1, .int (min (ns.length : Int) 3)] = some (.int M) := by rw [hM]; rfl
  simp [f_law, h1, h2, h3, intOf, ok, hr, hl, Tg.slots, e]


/-! ### rows that are looked at from the left -/
theorem at_last {α : Type} (p : List α) (x : α) : at_ (p ++ [x]) (-1) = some x := by
  unfold at_ ixN
  have h1 : ¬ (0 : Int) ≤ -1 := by omega
  have h2 : -((p ++ [x]).length : Int) ≤ -1 := by rw [List.length_append]; simp; omega
  rw [if_neg h1, if_pos h2, Option.bind_some]
  have : (-1 + ((p ++ [x]).length : Int)).toNat = p.length := by rw [List.length_append]; simp; omega
  rw [this]
  simp
theorem at_last2 {α : Type} (p : List α) (y x : α) : at_ (p ++ [y] ++ [x]) (-2) = some y := by
  unfold at_ ixN
  have h1 : ¬ (0 : Int) ≤ -2 := by omega
  have h2 : -((p ++ [y] ++ [x]).length : Int) ≤ -2 := by simp; omega
  rw [if_neg h1, if_pos h2, Option.bind_some]
  have : (-2 + ((p ++ [y] ++ [x]).length : Int)).toNat = p.length := by simp; omega
  rw [this]
  simp
theorem ne_nil_tup (d : D) (l : List D) : cmp .eq (.tup (d :: l)) (.tup []) = none ∨ cmp .eq (.tup (d :: l)) (.tup []) = some (.bl false) := by
  have e : D.eqv (.tup (d :: l)) (.tup []) = false := rfl
  by_cases hp : D.plain 60 (.tup (d :: l)) = true
  · right
    have hp0 : D.plain 60 (.tup []) = true := rfl
    show (if (D.plain 60 (.tup (d :: l)) && D.plain 60 (.tup [])) = true then some (D.eqv (.tup (d :: l)) (.tup [])) else none).map D.bl = _
    rw [hp, hp0, e]; rfl
  · left
    show (if (D.plain 60 (.tup (d :: l)) && D.plain 60 (.tup [])) = true then some (D.eqv (.tup (d :: l)) (.tup [])) else none).map D.bl = _
    rw [(Bool.not_eq_true _).mp hp]; rfl
theorem eq_nil_tup {l : List D} (hp : D.plain 60 (.tup l) = true) (hne : l ≠ []) : cmp .eq (.tup l) (.tup []) = some (.bl false) := by
  cases l with
  | nil => exact absurd rfl hne
  | cons d l =>
    have e : D.eqv (.tup (d :: l)) (.tup []) = false := rfl
    have hp0 : D.plain 60 (.tup []) = true := rfl
    show (if (D.plain 60 (.tup (d :: l)) && D.plain 60 (.tup [])) = true then some (D.eqv (.tup (d :: l)) (.tup [])) else none).map D.bl = _
    rw [hp, hp0, e]; rfl
/-! ### lengths -/
/-- lengths: falling -/
structure Lng (l : List Int) : Prop where
  ne : l ≠ []
  few : l.length ≤ 8
  bd : ∀ x ∈ l, 1 ≤ x ∧ x ≤ 8
  fall : l.Pairwise fun a b => b ≤ a
  sum : l.sum ≤ 24
theorem sum_nn {l : List Int} (h : ∀ x ∈ l, 0 ≤ x) : 0 ≤ l.sum := by
  induction l with
  | nil => simp
  | cons a l ih =>
    have h1 := h a List.mem_cons_self
    have h2 := ih fun x hx => h x (List.mem_cons_of_mem _ hx)
    rw [List.sum_cons]; omega
theorem take_sum {l : List Int} (h : ∀ x ∈ l, 0 ≤ x) (i : Nat) : (l.take i).sum ≤ l.sum := by
  have e : l.sum = (l.take i).sum + (l.drop i).sum := by rw [← List.sum_append, List.take_append_drop]
  have := sum_nn (l := l.drop i) fun x hx => h x (List.mem_of_mem_drop hx)
  omega
/-- a beginning of a row, with its last ones told -/
theorem row_ind {P : List Int → Prop} {l : List Int} (hf : l.Pairwise fun a b => b ≤ a) (one : ∀ x, x ∈ l → P [x]) (more : ∀ p y x, y ∈ l → x ∈ l → x ≤ y → (p ++ [y] ++ [x]).length ≤ l.length → (p ++ [y] ++ [x]) <+: l → P (p ++ [y] ++ [x])) (i : Nat) (hi : i < l.length) : P (l.take (i + 1)) := by
  cases i with
  | zero =>
    cases l with
    | nil => simp at hi
    | cons a l => exact one a List.mem_cons_self
  | succ i =>
    have e : l.take (i + 2) = l.take i ++ [l[i]] ++ [l[i + 1]] := by
      rw [List.take_succ_eq_append_getElem (by omega), List.take_succ_eq_append_getElem (by omega)]
    rw [e]
    refine more _ _ _ (List.getElem_mem _) (List.getElem_mem _) ?_ ?_ ?_
    · exact (List.pairwise_iff_getElem.mp hf) i (i + 1) (by omega) hi (by omega)
    · simp [List.length_take]; omega
    · rw [← e]; exact List.take_prefix _ _

/-! ### turns of a law -/
theorem turns {f : Env → Hq → R Fl} {i N n : Nat} (hf : ∀ (l : Env) (h : Hq), l.length = N → UO h n → ∃ l' h', f (.fz (.cell n) :: l) h = .ok (.nx (.fz (.cell n) :: l')) h' ∧ l'.length = N ∧ UO h' n) :
    ∀ (ds : List D) (l : Env) (h : Hq), l.length = N → UO h n → ∃ l' h', forF f (.nm (i + 1)) ds (.fz (.cell n) :: l) h = .ok (.nx (.fz (.cell n) :: l')) h' ∧ l'.length = N ∧ UO h' n
  | [], l, h, hl, hu => ⟨l, h, rfl, hl, hu⟩
  | d :: ds, l, h, hl, hu => by
    obtain ⟨l1, h1, e1, hl1, hu1⟩ := hf (l.set i (.fz d)) h (by rw [List.length_set]; exact hl) hu
    obtain ⟨l2, h2, e2, hl2, hu2⟩ := turns (i := i) hf ds l1 h1 hl1 hu1
    refine ⟨l2, h2, ?_, hl2, hu2⟩
    have eb : bindTg (.nm (i + 1)) d (.fz (.cell n) :: l) = some (.fz (.cell n) :: l.set i (.fz d)) := rfl
    rw [forF, eb, lift_some, bind_ok, e1, bind_ok]
    exact e2
theorem ne_lints (l m : List Int) : cmp .ne (.lst (l.map .int)) (.lst (m.map .int)) = some (.bl (!decide (l = m))) := by
  have z := eq_lints l m
  simp only [cmp, Option.map_eq_some_iff] at z ⊢
  obtain ⟨b, e1, e2⟩ := z
  exact ⟨b, e1, by cases e2; rfl⟩
theorem any_ints (x : Int) : ∀ l : List Int, ((l.map D.int).any fun y => D.eqv y (.int x)) = decide (x ∈ l)
  | [] => by simp
  | a :: l => by
    rw [List.map_cons, List.any_cons, any_ints x l]
    have e : D.eqv (.int a) (.int x) = (a == x) := rfl
    rw [e, Bool.eq_iff_iff, Bool.or_eq_true, beq_iff_eq, decide_eq_true_iff, decide_eq_true_iff, List.mem_cons]
    exact ⟨fun h => h.imp Eq.symm id, fun h => h.imp Eq.symm id⟩
theorem isin_lints (x : Int) (l : List Int) : isin (.int x) (.lst (l.map .int)) = some (decide (x ∈ l)) := by
  show (if (D.plain 60 (.int x) && D.plainL 60 (l.map .int)) = true then some ((l.map D.int).any fun y => D.eqv y (.int x)) else none) = _
  rw [plainL_ints 59 l, any_ints]
  rfl
@[simp] theorem in_lints (x : Int) (l : List Int) : cmp .isin (.int x) (.lst (l.map .int)) = some (.bl (decide (x ∈ l))) := by
  show (isin (.int x) (.lst (l.map .int))).map D.bl = _
  rw [isin_lints]; rfl
@[simp] theorem notin_lints (x : Int) (l : List Int) : cmp .notin (.int x) (.lst (l.map .int)) = some (.bl (!decide (x ∈ l))) := by
  show (isin (.int x) (.lst (l.map .int))).map (fun c => D.bl (!c)) = _
  rw [isin_lints]; rfl
theorem cut_take (xs : List D) (j : Nat) : cutD none (some ((j : Int) + 1)) (.tup xs) = some (.tup (xs.take (j + 1))) := by
  show some (D.tup (cut xs none (some ((j : Int) + 1)))) = _
  unfold cut lim
  have h1 : ¬ ((j : Int) + 1 < 0) := by omega
  simp only [h1, if_false, List.drop_zero, Nat.sub_zero]
  rw [show ((j : Int) + 1).toNat = j + 1 by omega, ← List.take_eq_take_min]
theorem range1_map (n : Nat) : range1 (n : Int) = (List.range n).map fun j : Nat => D.int (j : Nat) := rfl
theorem okR_nat {n : Nat} (h : n ≤ 1000000) : okR (n : Int) = true := by simp [okR]; omega
theorem zip_two {α : Type} (a b : α → D) (l : List α) : zipOf (.tup (l.map a)) (.tup (l.map b)) = some (l.map fun p => .tup [a p, b p]) := by
  show some ((((l.map a).zip (l.map b))).map fun p => D.tup [p.1, p.2]) = _
  rw [List.zip_map', List.map_map]; rfl


/-! ### a dict that counts -/
def dk (cs : List Int) : List Int := cs.foldl (fun ks k => ptk k ks) []
def cntD (cs : List Int) : D := .dI (dk cs) ((dk cs).map fun k => .int (cs.count k : Nat))
theorem dk_snoc (cs : List Int) (k : Int) : dk (cs ++ [k]) = ptk k (dk cs) := by simp [dk]
theorem dk_from : ∀ (cs ks : List Int) (k : Int), k ∈ cs.foldl (fun ks k => ptk k ks) ks ↔ k ∈ ks ∨ k ∈ cs
  | [], ks, k => by simp
  | c :: cs, ks, k => by
    rw [List.foldl_cons, dk_from cs, List.mem_cons]
    unfold ptk
    split
    · rename_i h
      exact ⟨fun z => z.elim .inl fun z => .inr (.inr z), fun z => z.elim .inl fun z => z.elim (fun e => .inl (by rw [e]; exact h)) .inr⟩
    · rw [List.mem_append, List.mem_singleton, or_assoc]
theorem dk_mem {cs : List Int} {k : Int} : k ∈ dk cs ↔ k ∈ cs := by
  unfold dk
  rw [dk_from]; simp
theorem ptk_nodup {ks : List Int} {k : Int} (h : ks.Nodup) : (ptk k ks).Nodup := by
  unfold ptk
  split
  · exact h
  · rename_i hk
    rw [List.nodup_append]
    exact ⟨h, by simp, fun a ha b hb e => hk (by rw [← List.mem_singleton.mp hb, ← e]; exact ha)⟩
theorem dk_nodup (cs : List Int) : (dk cs).Nodup := by
  unfold dk
  have g : ∀ (cs ks : List Int), ks.Nodup → (cs.foldl (fun ks k => ptk k ks) ks).Nodup := by
    intro cs
    induction cs with
    | nil => intro ks h; exact h
    | cons c cs ih => intro ks h; exact ih _ (ptk_nodup h)
  exact g cs [] .nil
theorem lkp_map (g : Int → D) (k : Int) : ∀ ks : List Int, lkp k ks (ks.map g) = if k ∈ ks then some (g k) else none
  | [] => rfl
  | a :: ks => by
    rw [List.map_cons, lkp]
    by_cases h : a = k
    · subst h; simp
    · rw [if_neg h, lkp_map g k ks]
      have e : (k ∈ a :: ks) ↔ k ∈ ks := by rw [List.mem_cons]; exact ⟨fun z => z.elim (fun e => absurd e.symm h) id, .inr⟩
      by_cases hk : k ∈ ks
      · rw [if_pos hk, if_pos (e.mpr hk)]
      · rw [if_neg hk, if_neg fun z => hk (e.mp z)]
theorem pts_map (g : Int → D) (k : Int) (v : D) (ks : List Int) : pts k v ks (ks.map g) = (ptk k ks).map fun x => if x = k then v else g x := by
  unfold pts ptk
  by_cases h : k ∈ ks
  · rw [if_pos h, if_pos h]
    have e : ks.zip (ks.map g) = ks.map fun x => (x, g x) := by
      have z : (ks.map id).zip (ks.map g) = ks.map fun x => (id x, g x) := List.zip_map'
      simpa using z
    rw [e, List.map_map]
    rfl
  · rw [if_neg h, if_neg h, List.map_append, List.map_singleton, if_pos rfl]
    congr 1
    refine List.map_congr_left fun x hx => ?_
    rw [if_neg]
    intro z
    exact h (by rw [← z]; exact hx)
theorem cnt_get (cs : List Int) (k : Int) : mt .get (cntD cs) [.int k, .int 0] = some (.int (cs.count k : Nat)) := by
  show (lookD (.dI (dk cs) _) (.int k)).map (fun o => o.getD (D.int 0)) = _
  show some ((lkp k (dk cs) ((dk cs).map fun k => .int (cs.count k : Nat))).getD (D.int 0)) = _
  rw [lkp_map]
  by_cases h : k ∈ cs
  · rw [if_pos (dk_mem.mpr h)]; rfl
  · rw [if_neg fun z => h (dk_mem.mp z), List.count_eq_zero_of_not_mem h]; rfl
theorem cnt_set (cs : List Int) (k : Int) (hl : cs.length < 1000) : setD (cntD cs) (.int k) (.int ((cs.count k : Nat) + 1)) = some (cntD (cs ++ [k])) := by
  have hd : (dk cs).length ≤ cs.length := by
    exact (dk_nodup cs).length_le_of_subset fun x hx => dk_mem.mp hx
  show (if (dk cs).length < 16777216 then some (D.dI (ptk k (dk cs)) (pts k _ (dk cs) _)) else none) = _
  rw [if_pos (by omega), pts_map, ← dk_snoc]
  unfold cntD
  congr 2
  refine List.map_congr_left fun x _ => ?_
  rw [List.count_append, List.count_singleton]
  by_cases h : x = k
  · subst h; simp
  · rw [if_neg h]
    have : (k == x) = false := by simpa using fun e => h e.symm
    simp [this]
/-! ### the cells of a floor -/
def cells (f : List (List Int)) : List Int := f.flatten
/-- f, the rows of a floor that is right, w its columns, m its greatest index -/
structure Flo (f : List (List Int)) (w : Nat) (m : Int) : Prop where
  rows : 1 ≤ f.length ∧ f.length ≤ 6
  cols : 1 ≤ w ∧ w ≤ 6
  len : ∀ r ∈ f, r.length = w
  few : (cells f).length ≤ 24
  m0 : 0 ≤ m ∧ m ≤ 7
  rng : ∀ x ∈ cells f, 0 ≤ x ∧ x ≤ m
  has : ∀ x, 0 ≤ x → x ≤ m → x ∈ cells f
  cnt : ∀ x, (cells f).count x ≤ 8
/-- the least index that is not full -/
theorem free_one {cs : List Int} (h : cs.length < 24) : ∃ k : Nat, k ≤ 2 ∧ cs.count (k : Int) < 8 := by
  refine Classical.byContradiction fun hn => ?_
  have g : ∀ k : Nat, k ≤ 2 → 8 ≤ cs.count (k : Int) := fun k hk => Classical.byContradiction fun z => hn ⟨k, hk, by omega⟩
  have c3 : ∀ l : List Int, l.count 0 + l.count 1 + l.count 2 ≤ l.length := by
    intro l
    induction l with
    | nil => simp
    | cons x l ih =>
      simp only [List.count_cons, List.length_cons]
      by_cases h0 : x = 0
      · subst h0; simp; omega
      · by_cases h1 : x = 1
        · subst h1; simp; omega
        · by_cases h2 : x = 2
          · subst h2; simp; omega
          · simp [h0, h1, h2]; omega
  have a := g 0 (by omega)
  have b := g 1 (by omega)
  have c := g 2 (by omega)
  have d := c3 cs
  have e0 : ((0 : Nat) : Int) = 0 := rfl
  have e1 : ((1 : Nat) : Int) = 1 := rfl
  have e2 : ((2 : Nat) : Int) = 2 := rfl
  rw [e0] at a; rw [e1] at b; rw [e2] at c
  omega
theorem min_free {cs : List Int} (h : cs.length < 24) : ∃ k : Int, (((List.range 9).filter fun j : Nat => decide ((cs.count (j : Int) : Int) < 8)).map fun j : Nat => (j : Int)).min? = some k ∧ 0 ≤ k ∧ k ≤ 2 ∧ cs.count k < 8 := by
  obtain ⟨k, hk, hc⟩ := free_one h
  have hm : (k : Int) ∈ ((List.range 9).filter fun j : Nat => decide ((cs.count (j : Int) : Int) < 8)).map fun j : Nat => (j : Int) := by
    refine List.mem_map.mpr ⟨k, List.mem_filter.mpr ⟨List.mem_range.mpr (by omega), ?_⟩, rfl⟩
    simp; omega
  obtain ⟨m, em⟩ := min_some (List.ne_nil_of_mem hm)
  have hmin := List.min?_mem em
  obtain ⟨j, hj, rfl⟩ := List.mem_map.mp hmin
  have hle : (j : Int) ≤ k := by
    exact ((List.le_min?_iff em).mp (Int.le_refl _)) k hm
  refine ⟨j, em, by omega, by omega, ?_⟩
  have z := (List.mem_filter.mp hj).2
  simp at z
  omega


/-! ### a floor is drawn -/
abbrev BF : Ss := bodyAt f_law_floor.body [3, 1]
abbrev BR : Ss := bodyAt f_law_floor.body [3]
/-- what is drawn so far -/
structure Cel (cs : List Int) : Prop where
  rng : ∀ x ∈ cs, 0 ≤ x ∧ x ≤ 7
  cnt : ∀ x, cs.count x ≤ 8
theorem Cel.snoc {cs : List Int} (c : Cel cs) {x : Int} (h0 : 0 ≤ x) (h7 : x ≤ 7) (h8 : cs.count x < 8) : Cel (cs ++ [x]) := by
  refine ⟨fun y hy => ?_, fun y => ?_⟩
  · rcases List.mem_append.mp hy with hy | hy
    · exact c.rng y hy
    · rw [List.mem_singleton.mp hy]; exact ⟨h0, h7⟩
  · rw [List.count_append, List.count_singleton]
    by_cases h : x = y
    · subst h; simp; omega
    · have z := c.cnt y
      have : (x == y) = false := by simpa using h
      simp [this]; exact z
section
variable {k n : Nat} {rows cols kind many : Int}
def cEnv (n : Nat) (rows cols kind many : Int) (F : D) (cs : List Int) (top : Int) (row : List Int) (left : Int) (s10 : Sl) : Env := [.fz (.cell n), .fz (.int rows), .fz (.int cols), .fz (.int kind), .fz (.int many), .fz F, .ow (cntD cs), .fz (.int top), .fz (sD row), .fz (.int left), s10, .no, .no]
theorem cell_pick (u : UO h n) (hm : 1 ≤ many ∧ many ≤ 8) {top left : Int} (ht : 0 ≤ top ∧ top < 6) (hl : 0 ≤ left ∧ left < 6) (F : D) (cs row : List Int) (s10 : Sl) :
    ∃ y h1, exS (callF tab.G 100 (k + 1)) 100 (BF.nth 0) (cEnv n rows cols kind many F cs top row left s10) h = .ok (.nx (cEnv n rows cols kind many F cs top row left (.fz (.int y)))) h1 ∧ UO h1 n ∧ 0 ≤ y ∧ y ≤ 7 := by
  by_cases h0 : kind = 0
  · exact ⟨top, h, by simp [f_law_floor, bodyAt, Ss.nth, S.sub, cEnv, h0], u, ht.1, by omega⟩
  · by_cases h1 : kind = 1
    · exact ⟨left, h, by simp [f_law_floor, bodyAt, Ss.nth, S.sub, cEnv, h1], u, hl.1, by omega⟩
    · obtain ⟨r, h', e, r0, r1, u', _⟩ := t_take k n many h u (by omega) (by omega)
      rw [C] at e
      exact ⟨r, h', by simp [f_law_floor, bodyAt, Ss.nth, S.sub, cEnv, h0, h1, e], u', r0, by omega⟩
theorem cell_full {h : Hq} {top left y : Int} (F : D) {cs : List Int} (c : Cel cs) (few : cs.length < 24) (row : List Int) (hy : 0 ≤ y ∧ y ≤ 7) :
    ∃ x, exS (callF tab.G 100 (k + 1)) 100 (BF.nth 1) (cEnv n rows cols kind many F cs top row left (.fz (.int y))) h = .ok (.nx (cEnv n rows cols kind many F cs top row left (.fz (.int x)))) h ∧ 0 ≤ x ∧ x ≤ 7 ∧ cs.count x < 8 := by
  have g := cnt_get cs y
  by_cases h8 : cs.count y = 8
  · obtain ⟨m, em, m0, m2, m8⟩ := min_free few
    refine ⟨m, ?_, m0, by omega, m8⟩
    have lc : lcF (evE (callF tab.G 100 (k + 1)) (.var 12)) (evE (callF tab.G 100 (k + 1)) (.cmp .lt (.mt .get (.own 6) (.cons (.var 12) (.cons (.int 0) .nil))) (.int 8))) (.nm 12) (wipeE (cEnv n rows cols kind many F cs top row left (.fz (.int y))) [12]) ((List.range 9).map fun j : Nat => D.int (j : Nat)) h =
        .ok (((List.range 9).filter fun j : Nat => decide ((cs.count (j : Int) : Int) < 8)).map fun j : Nat => D.int (j : Nat)) h := by
      refine lcif_nm (fun j _ => ?_) fun j _ _ => ?_
      · have g := cnt_get cs (j : Int)
        simp [cEnv, wipeE, cntD, recv] at g ⊢
        simp [g]
      · simp [cEnv, wipeE]
    have e1 : range1 9 = (List.range 9).map fun j : Nat => D.int (j : Nat) := rfl
    have mi : bi .min [.lst (((List.range 9).filter fun j : Nat => decide ((cs.count (j : Int) : Int) < 8)).map fun j : Nat => D.int (j : Nat))] = some (.int m) := by
      have z := bi_min em
      rw [List.map_map] at z
      exact z
    have g' : (mt .get (cntD cs) [.int y, .int 0]) = some (.int 8) := by rw [g, h8]; rfl
    simp only [cEnv] at lc
    simp [f_law_floor, bodyAt, Ss.nth, S.sub, cEnv, Tg.slots, okR, e1]
    simp [cntD, recv] at g' lc ⊢
    simp [g', lc, mi]
  · refine ⟨y, ?_, hy.1, hy.2, by have := c.cnt y; omega⟩
    have h8' : ¬ ((cs.count y : Nat) : Int) = 8 := by omega
    simp [f_law_floor, bodyAt, Ss.nth, S.sub, cEnv, cntD, recv] at g ⊢
    simp [g, h8']
end


/-! ### a floor is drawn, row by row -/
section
variable {k n : Nat} {rows cols kind many : Int}
def rEnv (n : Nat) (rows cols kind many : Int) (F : D) (cs : List Int) (s7 s8 s9 s10 : Sl) : Env := [.fz (.cell n), .fz (.int rows), .fz (.int cols), .fz (.int kind), .fz (.int many), .fz F, .ow (cntD cs), s7, s8, s9, s10, .no, .no]
theorem cell_rest {h : Hq} {top left x : Int} (F : D) (cs : List Int) (few : cs.length < 24) (row : List Int) (hr : row.length < 1000) :
    exSs (callF tab.G 100 (k + 1)) 100 (BF.from 2) (cEnv n rows cols kind many F cs top row left (.fz (.int x))) h = .ok (.nx (cEnv n rows cols kind many F (cs ++ [x]) top (row ++ [x]) left (.fz (.int x)))) h := by
  have g := cnt_get cs x
  have g2 := cnt_set cs x (by omega)
  have a : bin .add (sD row) (.tup [.int x]) = some (sD (row ++ [x])) := by
    show (if (row.map D.int).length + 1 ≤ 16777216 then some (D.tup (row.map D.int ++ [.int x])) else none) = _
    rw [if_pos (by rw [List.length_map]; omega)]
    simp [sD]
  have x2 : exS (callF tab.G 100 (k + 1)) 100 (BF.nth 2) (cEnv n rows cols kind many F cs top row left (.fz (.int x))) h = .ok (.nx (cEnv n rows cols kind many F (cs ++ [x]) top row left (.fz (.int x)))) h := by
    have r0 : recv .get (cntD cs) = some () := rfl
    simp [f_law_floor, bodyAt, Ss.nth, S.sub, cEnv, r0, g, isSl, setI, g2]
  have x3 : exS (callF tab.G 100 (k + 1)) 100 (BF.nth 3) (cEnv n rows cols kind many F (cs ++ [x]) top row left (.fz (.int x))) h = .ok (.nx (cEnv n rows cols kind many F (cs ++ [x]) top (row ++ [x]) left (.fz (.int x)))) h := by
    simp [f_law_floor, bodyAt, Ss.nth, S.sub, cEnv, a]
  exact go x2 (by decide) (go x3 (by decide) (go_nil rfl))
theorem row_draw {h : Hq} (u : UO h n) (hm : 1 ≤ many ∧ many ≤ 8) {top : Int} (ht : 0 ≤ top ∧ top < 6) (F : D) {w : Nat} (hw : w ≤ 6) {cs : List Int} (c : Cel cs) (few : cs.length + w ≤ 24) (s9 s10 : Sl) :
    ∃ row s9' s10' h', forF (exSs (callF tab.G 100 (k + 1)) 100 BF) (.nm 9) ((List.range w).map fun j : Nat => D.int (j : Nat)) (rEnv n rows cols kind many F cs (.fz (.int top)) (.fz (sD [])) s9 s10) h = .ok (.nx (rEnv n rows cols kind many F (cs ++ row) (.fz (.int top)) (.fz (sD row)) s9' s10')) h' ∧ row.length = w ∧ Cel (cs ++ row) ∧ UO h' n := by
  obtain ⟨ρ', h', e, row, t9, t10, rfl, hl, hc, hu⟩ := forF_inv (f := exSs (callF tab.G 100 (k + 1)) 100 BF) (tg := .nm 9) (fun j ρ hh => ∃ (row : List Int) (t9 t10 : Sl), ρ = rEnv n rows cols kind many F (cs ++ row) (.fz (.int top)) (.fz (sD row)) t9 t10 ∧ row.length = j ∧ Cel (cs ++ row) ∧ UO hh n)
    ((List.range w).map fun j : Nat => D.int (j : Nat)) 0 (rEnv n rows cols kind many F cs (.fz (.int top)) (.fz (sD [])) s9 s10) h ⟨[], s9, s10, by simp, rfl, by simpa using c, u⟩ fun i d ρ hh hd I => by
    obtain ⟨row, t9, t10, rfl, hl, hc, hu⟩ := I
    rw [List.getElem?_map, Option.map_eq_some_iff] at hd
    obtain ⟨j, hj, rfl⟩ := hd
    obtain ⟨hlt, hj⟩ := List.getElem?_eq_some_iff.mp hj
    rw [List.getElem_range] at hj
    rw [List.length_range] at hlt
    subst hj
    have fw : (cs ++ row).length < 24 := by rw [List.length_append]; omega
    obtain ⟨y, h1, e0, u1, y0, y7⟩ := cell_pick (k := k) (rows := rows) (cols := cols) (kind := kind) hu hm ht (left := (i : Int)) (by omega) F (cs ++ row) row t10
    obtain ⟨x, e1, x0, x7, x8⟩ := cell_full (k := k) (n := n) (rows := rows) (cols := cols) (kind := kind) (many := many) (h := h1) (top := top) (left := (i : Int)) F hc fw row ⟨y0, y7⟩
    have e2 := cell_rest (k := k) (n := n) (rows := rows) (cols := cols) (kind := kind) (many := many) (h := h1) (top := top) (left := (i : Int)) (x := x) F (cs ++ row) fw row (by omega)
    refine ⟨_, _, h1, rfl, go0 (go e0 (by decide) (go e1 (by decide) e2)), row ++ [x], .fz (.int i), .fz (.int x), by simp [cEnv, rEnv], by simp; omega, by rw [← List.append_assoc]; exact hc.snoc x0 x7 x8, u1⟩
  exact ⟨row, t9, t10, h', e, by simpa using hl, hc, hu⟩
theorem cells_snoc (f : List (List Int)) (r : List Int) : cells (f ++ [r]) = cells f ++ r := by simp [cells]
theorem rows_draw {h : Hq} (u : UO h n) (hm : 1 ≤ many ∧ many ≤ 8) {r w : Nat} (hr : r ≤ 6) (hw : w ≤ 6) (few : r * w ≤ 24) :
    ∃ f s7 s8 s9 s10 h', forF (exSs (callF tab.G 100 (k + 1)) 100 BR) (.nm 7) ((List.range r).map fun j : Nat => D.int (j : Nat)) (rEnv n rows w kind many (fD []) [] .no .no .no .no) h = .ok (.nx (rEnv n rows w kind many (fD f) (cells f) s7 s8 s9 s10)) h' ∧ f.length = r ∧ (∀ q ∈ f, q.length = w) ∧ Cel (cells f) ∧ UO h' n := by
  obtain ⟨ρ', h', e, f, t7, t8, t9, t10, rfl, hl, hq, hn, hc, hu⟩ := forF_inv (f := exSs (callF tab.G 100 (k + 1)) 100 BR) (tg := .nm 7) (fun j ρ hh => ∃ (f : List (List Int)) (t7 t8 t9 t10 : Sl), ρ = rEnv n rows w kind many (fD f) (cells f) t7 t8 t9 t10 ∧ f.length = j ∧ (∀ q ∈ f, q.length = w) ∧ (cells f).length = j * w ∧ Cel (cells f) ∧ UO hh n)
    ((List.range r).map fun j : Nat => D.int (j : Nat)) 0 (rEnv n rows w kind many (fD []) [] .no .no .no .no) h ⟨[], .no, .no, .no, .no, rfl, rfl, by simp, by simp [cells], ⟨by simp [cells], by simp [cells]⟩, u⟩ fun i d ρ hh hd I => by
    obtain ⟨f, t7, t8, t9, t10, rfl, hl, hq, hn, hc, hu⟩ := I
    rw [List.getElem?_map, Option.map_eq_some_iff] at hd
    obtain ⟨j, hj, rfl⟩ := hd
    obtain ⟨hlt, hj⟩ := List.getElem?_eq_some_iff.mp hj
    rw [List.getElem_range] at hj
    rw [List.length_range] at hlt
    subst hj
    have hle : (i + 1) * w ≤ r * w := Nat.mul_le_mul_right w (by omega)
    rw [Nat.add_mul, Nat.one_mul] at hle
    have hn' : (cells f).length = i * w := by simpa using hn
    have hl' : f.length = i := by simpa using hl
    obtain ⟨row, q9, q10, h1, e1, l1, c1, u1⟩ := row_draw (k := k) (rows := rows) (cols := w) (kind := kind) hu hm (top := (i : Int)) (by omega) (fD f) hw hc (by omega) t9 t10
    have ok : okR (w : Int) = true := okR_nat (by omega)
    have x0 : exS (callF tab.G 100 (k + 1)) 100 (BR.nth 0) ((rEnv n rows w kind many (fD f) (cells f) t7 t8 t9 t10).set 7 (.fz (.int i))) hh = .ok (.nx (rEnv n rows w kind many (fD f) (cells f) (.fz (.int i)) (.fz (sD [])) t9 t10)) hh := by
      simp [f_law_floor, bodyAt, Ss.nth, S.sub, rEnv, sD]
    have x1 : exS (callF tab.G 100 (k + 1)) 100 (BR.nth 1) (rEnv n rows w kind many (fD f) (cells f) (.fz (.int i)) (.fz (sD [])) t9 t10) hh = .ok (.nx (rEnv n rows w kind many (fD f) (cells f ++ row) (.fz (.int i)) (.fz (sD row)) q9 q10)) h1 := by
      simp only [rEnv] at e1
      simp only [BF, bodyAt, Ss.nth, S.sub, f_law_floor] at e1
      simp [f_law_floor, bodyAt, Ss.nth, S.sub, rEnv, ok, range1_map, e1]
    have a : bin .add (fD f) (.tup [sD row]) = some (fD (f ++ [row])) := by
      show (if (f.map sD).length + 1 ≤ 16777216 then some (D.tup (f.map sD ++ [sD row])) else none) = _
      rw [if_pos (by rw [List.length_map]; omega)]
      simp [fD]
    have x2 : exS (callF tab.G 100 (k + 1)) 100 (BR.nth 2) (rEnv n rows w kind many (fD f) (cells f ++ row) (.fz (.int i)) (.fz (sD row)) q9 q10) h1 = .ok (.nx (rEnv n rows w kind many (fD (f ++ [row])) (cells f ++ row) (.fz (.int i)) (.fz (sD row)) q9 q10)) h1 := by
      simp [f_law_floor, bodyAt, Ss.nth, S.sub, rEnv, a]
    refine ⟨_, _, h1, rfl, go0 (go x0 (by decide) (go x1 (by decide) (go x2 (by decide) (go_nil rfl)))), f ++ [row], .fz (.int i), .fz (sD row), q9, q10, by rw [cells_snoc], by simp; omega, fun q hq' => ?_, ?_, by rw [cells_snoc]; exact c1, u1⟩
    · rcases List.mem_append.mp hq' with z | z
      · exact hq q z
      · rw [List.mem_singleton.mp z]; exact l1
    · rw [cells_snoc, List.length_append, hn', l1, Nat.zero_add, Nat.add_mul, Nat.one_mul]
  exact ⟨f, t7, t8, t9, t10, h', e, by simpa using hl, hq, hc, hu⟩
end


/-! ### the indexes made small -/
def usedOf (cs : List Int) : List Int := sortI (dk cs)
def rank (cs : List Int) (x : Int) : Int := (fst x (usedOf cs) : Nat)
theorem used_mem {cs : List Int} {x : Int} : x ∈ usedOf cs ↔ x ∈ cs := by
  unfold usedOf
  rw [(sortI_perm _).mem_iff, dk_mem]
theorem used_nodup (cs : List Int) : (usedOf cs).Nodup := (sortI_perm _).nodup_iff.mpr (dk_nodup cs)
theorem fst_get {x : Int} {l : List Int} (h : x ∈ l) : l[fst x l]? = some x := by
  have hl : fst x l < l.length := List.findIdx_lt_length_of_exists ⟨x, h, by simp⟩
  have z := List.findIdx_getElem (xs := l) (p := fun y => y == x) (w := hl)
  exact (List.getElem?_eq_getElem hl).trans (congrArg some (beq_iff_eq.mp z))
theorem rank_inj {cs : List Int} {x y : Int} (hx : x ∈ cs) (hy : y ∈ cs) (e : rank cs x = rank cs y) : x = y := by
  have a := fst_get (used_mem.mpr hx)
  have b := fst_get (used_mem.mpr hy)
  have e : fst x (usedOf cs) = fst y (usedOf cs) := by unfold rank at e; omega
  rw [e, b] at a
  exact (Option.some.inj a).symm
theorem count_inj {g : Int → Int} {x0 : Int} : ∀ l : List Int, (∀ a ∈ l, g a = g x0 → a = x0) → (l.map g).count (g x0) = l.count x0
  | [], _ => rfl
  | a :: l, h => by
    rw [List.map_cons, List.count_cons, List.count_cons, count_inj l fun b hb => h b (List.mem_cons_of_mem _ hb)]
    by_cases e : a = x0
    · subst e; simp
    · have : g a ≠ g x0 := fun z => e (h a List.mem_cons_self z)
      simp [e, this]
theorem used_few {cs : List Int} (c : Cel cs) : (usedOf cs).length ≤ 8 := by
  have z := (used_nodup cs).length_le_of_subset (l₂ := (List.range 8).map fun j : Nat => (j : Int)) fun x hx => by
    have r := c.rng x (used_mem.mp hx)
    exact List.mem_map.mpr ⟨x.toNat, List.mem_range.mpr (by omega), by omega⟩
  simpa using z
def smallF (f : List (List Int)) : List (List Int) := f.map fun r => r.map (rank (cells f))
theorem cells_small (f : List (List Int)) : cells (smallF f) = (cells f).map (rank (cells f)) := by
  unfold cells smallF
  rw [List.map_flatten]
  rfl
theorem cells_len {f : List (List Int)} {w : Nat} (h : ∀ r ∈ f, r.length = w) : (cells f).length = f.length * w := by
  unfold cells
  induction f with
  | nil => simp
  | cons r f ih =>
    rw [List.flatten_cons, List.length_append, ih fun q hq => h q (List.mem_cons_of_mem _ hq), h r List.mem_cons_self, List.length_cons, Nat.add_mul, Nat.one_mul, Nat.add_comm]
theorem small_ok {f : List (List Int)} {w : Nat} (hr : 1 ≤ f.length ∧ f.length ≤ 6) (hw : 1 ≤ w ∧ w ≤ 6) (hl : ∀ r ∈ f, r.length = w) (few : f.length * w ≤ 24) (c : Cel (cells f)) : Flo (smallF f) w ((usedOf (cells f)).length - 1) := by
  have cl := cells_len hl
  have pos : 1 ≤ (cells f).length := by rw [cl]; exact Nat.mul_le_mul hr.1 hw.1
  obtain ⟨x0, hx0⟩ : ∃ x, x ∈ cells f := List.exists_mem_of_length_pos pos
  have up : 1 ≤ (usedOf (cells f)).length := List.length_pos_of_mem (used_mem.mpr hx0)
  have u8 := used_few c
  refine ⟨by unfold smallF; rw [List.length_map]; exact hr, hw, fun r hr => ?_, by rw [cells_small, List.length_map, cl]; exact few, by omega, fun x hx => ?_, fun y y0 ym => ?_, fun y => ?_⟩
  · obtain ⟨q, hq, rfl⟩ := List.mem_map.mp hr
    rw [List.length_map]; exact hl q hq
  · rw [cells_small] at hx
    obtain ⟨z, hz, rfl⟩ := List.mem_map.mp hx
    have := (List.getElem?_eq_some_iff.mp (fst_get (used_mem.mpr hz))).1
    unfold rank
    omega
  · have hlt : y.toNat < (usedOf (cells f)).length := by omega
    rw [cells_small]
    refine List.mem_map.mpr ⟨(usedOf (cells f))[y.toNat], used_mem.mp (List.getElem_mem _), ?_⟩
    have g := fst_get (List.getElem_mem hlt)
    obtain ⟨g1, g2⟩ := List.getElem?_eq_some_iff.mp g
    have e := (List.getElem_inj (used_nodup (cells f))).mp g2
    unfold rank
    omega
  · rw [cells_small]
    by_cases h : ∃ x ∈ cells f, rank (cells f) x = y
    · obtain ⟨x, hx, rfl⟩ := h
      rw [count_inj (g := rank (cells f)) (cells f) fun a ha e => rank_inj ha hx e]
      exact c.cnt x
    · rw [List.count_eq_zero_of_not_mem]
      · omega
      · intro z
        obtain ⟨x, hx, e⟩ := List.mem_map.mp z
        exact h ⟨x, hx, e⟩
/-! ### the whole draw -/
theorem t_floor (k n : Nat) (h : Hq) (u : UO h n) : ∃ f w m h', C (k + 2) 1002 [.cell n] h = .ok (fD f) h' ∧ Flo f w m ∧ UO h' n := by
  obtain ⟨a, h1, e1, a0, a6, u1, _⟩ := t_take k n 6 h u (by omega) (by omega)
  obtain ⟨b, h2, e2, b0, b6, u2, _⟩ := t_take k n 6 h1 u1 (by omega) (by omega)
  obtain ⟨kind, h3, e3, _, _, u3, _⟩ := t_take k n 4 h2 u2 (by omega) (by omega)
  obtain ⟨c, h4, e4, c0, c8, u4, _⟩ := t_take k n 8 h3 u3 (by omega) (by omega)
  rw [C] at e1 e2 e3 e4
  obtain ⟨r, hr⟩ : ∃ r : Nat, (r : Int) = 1 + a := ⟨(1 + a).toNat, by omega⟩
  have d4 : 4 ≤ 24 / (r : Int) := by
    rw [Int.le_ediv_iff_mul_le (by omega)]; omega
  obtain ⟨w, hw⟩ : ∃ w : Nat, (w : Int) = min (1 + b) (24 / (r : Int)) := ⟨(min (1 + b) (24 / (r : Int))).toNat, by omega⟩
  have few : r * w ≤ 24 := by
    have z : (w : Int) ≤ 24 / (r : Int) := by omega
    rw [Int.le_ediv_iff_mul_le (by omega)] at z
    have z2 : ((w * r : Nat) : Int) ≤ 24 := by rw [Int.natCast_mul]; exact z
    rw [Nat.mul_comm]
    omega
  have w1 : 1 ≤ w ∧ w ≤ 6 := by omega
  have r1 : 1 ≤ r ∧ r ≤ 6 := by omega
  obtain ⟨f, s7, s8, s9, s10, h5, e5, fl, fq, fc, u5⟩ := rows_draw (k := k) (rows := (r : Int)) (kind := kind) (many := 1 + c) u4 (by omega) r1.2 w1.2 few
  have ok : okR (r : Int) = true := okR_nat (by omega)
  refine ⟨smallF f, w, _, h5, ?_, small_ok (by omega) w1 fq (by rw [fl]; exact few) fc, u5⟩
  have x0 : exS (callF tab.G 100 (k + 1)) 100 (f_law_floor.body.nth 0) [.fz (.cell n), .no, .no, .no, .no, .no, .no, .no, .no, .no, .no, .no, .no] h = .ok (.nx [.fz (.cell n), .fz (.int r), .fz (.int (1 + b)), .no, .no, .no, .no, .no, .no, .no, .no, .no, .no]) h2 := by
    simp [f_law_floor, Ss.nth, e1, e2, bindTg, hr]
  have fd : bin .fdiv (.int 24) (.int r) = some (.int (24 / (r : Int))) := by
    have z : (24 : Int).natAbs.log2 < 9000 := by decide
    have z2 : (0 : Int) < (r : Int) ∧ (r : Int).natAbs.log2 < 9000 := ⟨by omega, by
      have : (r : Int).natAbs ≤ 6 := by omega
      exact Nat.lt_of_le_of_lt (Nat.log2_le_self _) (by omega)⟩
    show (if 0 < (r : Int) ∧ (r : Int).natAbs.log2 < 9000 then some (D.int (24 / (r : Int))) else none) = _
    rw [if_pos z2]
  have x1 : exS (callF tab.G 100 (k + 1)) 100 (f_law_floor.body.nth 1) [.fz (.cell n), .fz (.int r), .fz (.int (1 + b)), .no, .no, .no, .no, .no, .no, .no, .no, .no, .no] h2 = .ok (.nx [.fz (.cell n), .fz (.int r), .fz (.int w), .no, .no, .no, .no, .no, .no, .no, .no, .no, .no]) h2 := by
    have m2 : bi .min2 [.int (1 + b), .int (24 / (r : Int))] = some (.int w) := by rw [hw]; rfl
    simp [f_law_floor, Ss.nth, fd, m2]
  have x2 : exS (callF tab.G 100 (k + 1)) 100 (f_law_floor.body.nth 2) [.fz (.cell n), .fz (.int r), .fz (.int w), .no, .no, .no, .no, .no, .no, .no, .no, .no, .no] h2 = .ok (.nx (rEnv n r w kind (1 + c) (fD []) [] .no .no .no .no)) h4 := by
    simp [f_law_floor, Ss.nth, e3, e4, evM, okO, slO, rEnv, fD, cntD, dk]
  have x3 : exS (callF tab.G 100 (k + 1)) 100 (f_law_floor.body.nth 3) (rEnv n r w kind (1 + c) (fD []) [] .no .no .no .no) h4 = .ok (.nx (rEnv n r w kind (1 + c) (fD f) (cells f) s7 s8 s9 s10)) h5 := by
    simp only [rEnv] at e5
    simp only [BR, bodyAt, Ss.nth, S.sub, f_law_floor] at e5
    simp [f_law_floor, Ss.nth, rEnv, ok, range1_map, e5]
  have dl : (dk (cells f)).length < 64 := by
    have z := used_few fc
    unfold usedOf at z
    rw [(sortI_perm _).length_eq] at z
    omega
  have so : bi .sorted [cntD (cells f)] = some (.lst ((usedOf (cells f)).map .int)) := by
    show (if (dk (cells f)).length < 64 then some (D.lst ((sortI (dk (cells f))).map .int)) else none) = _
    rw [if_pos dl]; rfl
  have x4 : exS (callF tab.G 100 (k + 1)) 100 (f_law_floor.body.nth 4) (rEnv n r w kind (1 + c) (fD f) (cells f) s7 s8 s9 s10) h5 = .ok (.nx ((rEnv n r w kind (1 + c) (fD f) (cells f) s7 s8 s9 s10).set 11 (.fz (.lst ((usedOf (cells f)).map .int))))) h5 := by
    simp [f_law_floor, Ss.nth, rEnv, so]
  have fl6 : f.length ≤ 16777216 := by omega
  have x5 : exS (callF tab.G 100 (k + 1)) 100 (f_law_floor.body.nth 5) ((rEnv n r w kind (1 + c) (fD f) (cells f) s7 s8 s9 s10).set 11 (.fz (.lst ((usedOf (cells f)).map .int)))) h5 = .ok (.rt (fD (smallF f))) h5 := by
    have lc : ∀ ρ : Env, ρ[11]? = some (.fz (.lst ((usedOf (cells f)).map .int))) → ∀ q ∈ f, lcF (evE (callF tab.G 100 (k + 1)) (.mt .index (.var 11) (.cons (.var 10) .nil))) (fun _ h => .ok (.bl true) h) (.nm 10) ρ (q.map D.int) h5 = .ok (q.map fun x => D.int (rank (cells f) x)) h5 := by
      intro ρ hρ q hq
      refine lc_nm fun x hx => ?_
      have hx' : x ∈ usedOf (cells f) := used_mem.mpr (List.mem_flatten.mpr ⟨q, hq, hx⟩)
      have hl : 10 < ρ.length := by have := (List.getElem?_eq_some_iff.mp hρ).1; omega
      have fi := firstAt_int x _ hx'
      have ff := flat_ints (usedOf (cells f))
      simp only [evE, evEs, List.getElem?_set_ne (show 10 ≠ 11 by decide), hρ, List.getElem?_set_self hl, bind_ok, recv, lift_some]
      show liftO (if flat (.int x) && ((usedOf (cells f)).map D.int).all flat then (firstAt (.int x) ((usedOf (cells f)).map D.int)).map fun n : Nat => D.int ((n : Nat) : Int) else none) h5 = _
      rw [ff, fi]
      rfl
    have lo : lcF (evE (callF tab.G 100 (k + 1)) (.bi .tuple (.cons (.lc (.mt .index (.var 11) (.cons (.var 10) .nil)) (.nm 10) (.val (.var 8))) .nil))) (fun _ h => .ok (.bl true) h) (.nm 8) (wipeE ((rEnv n r w kind (1 + c) (fD f) (cells f) s7 s8 s9 s10).set 11 (.fz (.lst ((usedOf (cells f)).map .int)))) [8]) (f.map sD) h5 = .ok (f.map fun q => sD (q.map (rank (cells f)))) h5 := by
      refine lc_nm fun q hq => ?_
      have l6 : q.length ≤ 16777216 := by rw [fq q hq]; omega
      have z := lc (wipeE (((wipeE ((rEnv n r w kind (1 + c) (fD f) (cells f) s7 s8 s9 s10).set 11 (.fz (.lst ((usedOf (cells f)).map .int)))) [8]).set 8 (.fz (sD q)))) [10]) (by simp [rEnv, wipeE]) q hq
      simp only [rEnv, wipeE, List.set_cons_succ, List.set_cons_zero] at z ⊢
      simp [sD, l6, Tg.slots, wipeE] at z ⊢
      simp [z]
    simp only [rEnv, wipeE, List.set_cons_succ, List.set_cons_zero] at lo ⊢
    simp [f_law_floor, Ss.nth, Tg.slots, wipeE, fD, fl6] at lo ⊢
    simp [lo, smallF, sD]
  exact fn_run (f := f_law_floor) rfl rfl (go0 (go x0 (by decide) (go x1 (by decide) (go x2 (by decide) (go x3 (by decide) (go x4 (by decide) (goR x5 (by decide))))))))


/-! ### what the program says of floors -/
theorem cells_take {f : List (List Int)} {i : Nat} {r : List Int} (h : f[i]? = some r) : cells (f.take (i + 1)) = cells (f.take i) ++ r := by
  rw [List.take_add_one, h]
  exact cells_snoc _ _
theorem cells_le (f : List (List Int)) (i : Nat) : (cells (f.take i)).length ≤ (cells f).length := by
  have e : cells f = cells (f.take i) ++ cells (f.drop i) := by
    unfold cells
    rw [← List.flatten_append, List.take_append_drop]
  rw [e, List.length_append]
  omega
theorem c_floor_cells (k : Nat) (f : List (List Int)) (hf : (cells f).length ≤ 1000) (h : Hq) : C (k + 1) 182 [fD f] h = .ok (.lst ((cells f).map .int)) h := by
  obtain ⟨ρ', h', e, rfl, s, rfl⟩ := forF_inv (f := exSs (callF tab.G 100 k) 100 (bodyAt f_floor_cells.body [1])) (tg := .nm 2) (fun j ρ hh => hh = h ∧ ∃ s : Sl, ρ = [.fz (fD f), .ow (.lst ((cells (f.take j)).map .int)), s]) (f.map sD) 0 [.fz (fD f), .ow (.lst []), .no] h ⟨rfl, .no, by simp [cells]⟩ fun i d ρ hh hd I => by
    obtain ⟨rfl, s, rfl⟩ := I
    rw [List.getElem?_map, Option.map_eq_some_iff] at hd
    obtain ⟨r, hr, rfl⟩ := hd
    have a := cells_take hr
    have b := cells_le f (i + 1)
    rw [a, List.length_append] at b
    have g : (cells (f.take i)).length + r.length ≤ 16777216 := by omega
    refine ⟨_, _, hh, rfl, ?_, rfl, .fz (sD r), rfl⟩
    simp [f_floor_cells, bodyAt, Ss.nth, S.sub, isOw, seqOf, sD, g, a]
  have t : f.take (0 + (f.map sD).length) = f := List.take_of_length_le (by simp)
  rw [t] at e
  simp only [bodyAt, Ss.nth, S.sub, f_floor_cells] at e
  rw [C, callF_eq (f := f_floor_cells) rfl rfl]
  simp only [fD] at e
  simp [f_floor_cells, fD, fzS, e]
theorem t_sizes_loop (k : Nat) (f : List (List Int)) (hf : (cells f).length ≤ 1000) (h : Hq) (F : D) :
    ∃ s, forF (exSs (callF tab.G 100 k) 100 (bodyAt f_law_sizes.body [1])) (.nm 2) (f.map sD) [.fz F, .fz (.lst []), .no, .no] h = .ok (.nx [.fz F, .fz (.lst ((cells f).map .int)), s, .no]) h := by
  obtain ⟨ρ', h', e, rfl, s, rfl⟩ := forF_inv (f := exSs (callF tab.G 100 k) 100 (bodyAt f_law_sizes.body [1])) (tg := .nm 2) (fun j ρ hh => hh = h ∧ ∃ s : Sl, ρ = [.fz F, .fz (.lst ((cells (f.take j)).map .int)), s, .no]) (f.map sD) 0 [.fz F, .fz (.lst []), .no, .no] h ⟨rfl, .no, by simp [cells]⟩ fun i d ρ hh hd I => by
    obtain ⟨rfl, s, rfl⟩ := I
    rw [List.getElem?_map, Option.map_eq_some_iff] at hd
    obtain ⟨r, hr, rfl⟩ := hd
    have a := cells_take hr
    have b := cells_le f (i + 1)
    rw [a, List.length_append] at b
    have g : (cells (f.take i)).length + r.length ≤ 16777216 := by omega
    refine ⟨_, _, hh, rfl, ?_, rfl, .fz (sD r), rfl⟩
    have bl : bi .list [sD r] = some (.lst (r.map .int)) := rfl
    have ad := b_addl ((cells (f.take i)).map .int) (r.map .int) (by simpa using g)
    simp [f_law_sizes, bodyAt, Ss.nth, S.sub, bl, ad, a]
  have t : f.take (0 + (f.map sD).length) = f := List.take_of_length_le (by simp)
  rw [t] at e
  exact ⟨s, e⟩
theorem Flo.max {f : List (List Int)} {w : Nat} {m : Int} (v : Flo f w m) : (cells f).max? = some m := by
  rw [List.max?_eq_some_iff]
  exact ⟨v.has m v.m0.1 (Int.le_refl _), fun x hx => (v.rng x hx).2⟩
theorem Flo.len' {f : List (List Int)} {w : Nat} {m : Int} (v : Flo f w m) : (cells f).length = f.length * w := cells_len v.len
/-- how many panels each string has -/
def siz (f : List (List Int)) (m : Int) : List Int := (List.range (m + 1).toNat).map fun j : Nat => ((cells f).count (j : Int) : Int)
theorem cnt_list (cs : List Int) (x : Int) : mt .count (.lst (cs.map .int)) [.int x] = some (.int (cs.count x : Nat)) := by
  show (intsOf (cs.map D.int)).map (fun l => D.int (l.count x)) = _
  rw [intsOf_map]; rfl
theorem c_floor_counts (k : Nat) (cs : List Int) (n : Nat) (hn : n ≤ 1000) (h : Hq) : C (k + 1) 183 [.lst (cs.map .int), .int n] h = .ok (sD ((List.range n).map fun j : Nat => (cs.count (j : Int) : Int))) h := by
  have ok : okR (n : Int) = true := okR_nat (by omega)
  have n1 : n ≤ 16777216 := by omega
  rw [C, callF_eq (f := f_floor_counts) rfl rfl]
  simp [f_floor_counts, ok, range1_map, n1, Tg.slots]
  rw [lc_nm (g := fun j : Nat => D.int (cs.count (j : Int) : Nat)) fun j _ => by
    have g := cnt_list cs (j : Int)
    simp [wipeE, recv, g]]
  simp [sD, n1]
theorem c_strings_on (k : Nat) {f : List (List Int)} {w : Nat} {m : Int} (v : Flo f w m) (h : Hq) : C (k + 2) 377 [fD f] h = .ok (.int (m + 1)) h := by
  have c := c_floor_cells k f (by have := v.few; omega) h
  rw [C] at c
  have b := bi_max v.max
  rw [C, callF_eq (f := f_strings_on) rfl rfl]
  simp [f_strings_on, c, b]
theorem c_sizes (k : Nat) {f : List (List Int)} {w : Nat} {m : Int} (v : Flo f w m) (h : Hq) : C (k + 2) 183 [.lst ((cells f).map .int), .int (m + 1)] h = .ok (sD (siz f m)) h := by
  have e : m + 1 = ((m + 1).toNat : Int) := by have := v.m0.1; omega
  rw [e, c_floor_counts (k + 1) (cells f) (m + 1).toNat (by have := v.m0.2; omega) h]
  rfl
theorem t_sizes (k : Nat) {f : List (List Int)} {w : Nat} {m : Int} (v : Flo f w m) (h : Hq) : C (k + 1) 1003 [fD f] h = .ok (sD (siz f m)) h := by
  obtain ⟨s, e⟩ := t_sizes_loop k f (by have := v.few; omega) h (fD f)
  simp only [bodyAt, Ss.nth, S.sub, f_law_sizes] at e
  have b := bi_max v.max
  have em : m + 1 = ((m + 1).toNat : Int) := by have := v.m0.1; omega
  have m1 : (m + 1).toNat ≤ 1000 := by have := v.m0.2; omega
  have ok : okR ((m + 1).toNat : Int) = true := okR_nat (by omega)
  have n1 : (m + 1).toNat ≤ 16777216 := by omega
  rw [C, callF_eq (f := f_law_sizes) rfl rfl]
  simp only [fD] at e ⊢
  simp [f_law_sizes, e, b]
  rw [em]
  simp only [ok, if_true, range1_map, bind_ok, lift_some, List.length_map, List.length_range, n1, Tg.slots]
  rw [lc_nm (g := fun j : Nat => D.int ((cells f).count (j : Int) : Nat)) fun j _ => by
    have g := cnt_list (cells f) (j : Int)
    simp [wipeE, recv, g]]
  simp [sD, siz, n1]


/-! ### is it a floor? -/
def hdR (f : List (List Int)) : List Int := match f with
  | r :: _ => r
  | [] => []
def wd (f : List (List Int)) : Nat := (hdR f).length
def mxc (f : List (List Int)) : Int := ((cells f).max?).getD 0
def rowB (r : List Int) : Bool := decide (1 ≤ r.length ∧ r.length ≤ 6)
def rowD (f : List (List Int)) (r : List Int) : Bool := decide (r.length = wd f)
def celE (x : Int) : Bool := decide (0 ≤ x ∧ x ≤ 7)
def idxG (cs : List Int) (j : Nat) : Bool := decide (1 ≤ cs.count (j : Int) ∧ cs.count (j : Int) ≤ 8)
def cA (f : List (List Int)) : Bool := decide (1 ≤ f.length) && decide (f.length ≤ 6)
def cB (f : List (List Int)) : Bool := f.all rowB
def cC (f : List (List Int)) : Bool := decide ((cells f).length = f.length * wd f) && decide ((cells f).length ≤ 24)
def cD (f : List (List Int)) : Bool := f.all (rowD f)
def cE (f : List (List Int)) : Bool := (cells f).all celE
def cG (f : List (List Int)) : Bool := (List.range (mxc f + 1).toNat).all (idxG (cells f))
def okF (f : List (List Int)) : Bool := cA f && (cB f && (cC f && (cD f && (cE f && cG f))))
theorem c_is_num (k : Nat) (x lo hi : Int) (h : Hq) : C (k + 1) 243 [.int x, .int lo, .int hi] h = .ok (.bl (decide (lo ≤ x ∧ x ≤ hi))) h := by
  rw [C, callF_eq (f := f_is_number) rfl rfl]
  by_cases h1 : lo ≤ x <;> by_cases h2 : x ≤ hi <;> simp [f_is_number, isi, h1, h2]
theorem ix0 {f : List (List Int)} (h : 1 ≤ f.length) : ∀ hq : Hq, ixD (fD f) (.int 0) hq = some (sD (hdR f)) := by
  intro hq
  match f, h with
  | r :: f, _ => simp [ixD, fD, at_, ixN, hdR]
theorem len_s (r : List Int) : bi .len [sD r] = some (.int (r.length : Nat)) := by
  show some (D.int (((r.map D.int).length : Nat) : Int)) = _
  rw [List.length_map]
theorem len_f (f : List (List Int)) : bi .len [fD f] = some (.int (f.length : Nat)) := by
  show some (D.int (((f.map sD).length : Nat) : Int)) = _
  rw [List.length_map]
theorem all_map {α : Type} (l : List α) (p : α → Bool) : (l.map p).all id = l.all p := by
  induction l with
  | nil => rfl
  | cons x l ih => simp
section
variable {k : Nat} {f : List (List Int)} {h : Hq}
abbrev IB (i : Nat) : S := f_is_floor_form.body.nth i
theorem i_0 : exS (callF tab.G 100 (k + 1)) 100 (IB 0) [.fz (fD f), .no, .no, .no, .no] h = if cA f then .ok (.nx [.fz (fD f), .no, .no, .no, .no]) h else .ok (.rt (.bl false)) h := by
  have l := len_f f
  have t : isi "tuple" (fD f) = some true := rfl
  by_cases h1 : 1 ≤ f.length
  · by_cases h2 : f.length ≤ 6
    · have e1 : (1 : Int) ≤ (f.length : Nat) := by omega
      have e2 : ((f.length : Nat) : Int) ≤ 6 := by omega
      simp [IB, f_is_floor_form, Ss.nth, t, l, e1, e2, h1, h2, cA]
    · have e1 : (1 : Int) ≤ (f.length : Nat) := by omega
      have e2 : ¬ ((f.length : Nat) : Int) ≤ 6 := by omega
      simp [IB, f_is_floor_form, Ss.nth, t, l, e1, e2, h1, h2, cA]
  · have e1 : ¬ (1 : Int) ≤ (f.length : Nat) := by omega
    simp [IB, f_is_floor_form, Ss.nth, t, l, e1, h1, cA]
theorem all_fact {α : Type} (l : List α) (p : α → Bool) : bi .all [.lst (l.map fun x => .bl (p x))] = some (.bl (l.all p)) := by
  show (blsOf _).map (fun l => D.bl (l.all id)) = _
  rw [blsOf_map2]
  show some (D.bl ((l.map p).all id)) = _
  rw [all_map]
theorem i_1 (few : f.length ≤ 6) : exS (callF tab.G 100 (k + 1)) 100 (IB 1) [.fz (fD f), .no, .no, .no, .no] h = if cB f then .ok (.nx [.fz (fD f), .no, .no, .no, .no]) h else .ok (.rt (.bl false)) h := by
  have lc : lcF (evE (callF tab.G 100 (k + 1)) (.and (.isi "tuple" (.var 3)) (.chain .le .le (.int 1) (.bi .len (.cons (.var 3) .nil)) (.gint 6)))) (fun _ h => .ok (.bl true) h) (.nm 3) (wipeE [.fz (fD f), .no, .no, .no, .no] [3]) (f.map sD) h = .ok (f.map fun r => .bl (rowB r)) h := by
    refine lc_nm fun r _ => ?_
    have l := len_s r
    have t : isi "tuple" (sD r) = some true := rfl
    by_cases h1 : 1 ≤ r.length
    · by_cases h2 : r.length ≤ 6
      · have e1 : (1 : Int) ≤ (r.length : Nat) := by omega
        have e2 : ((r.length : Nat) : Int) ≤ 6 := by omega
        simp [wipeE, t, l, e1, e2, rowB, h1, h2]
      · have e1 : (1 : Int) ≤ (r.length : Nat) := by omega
        have e2 : ¬ ((r.length : Nat) : Int) ≤ 6 := by omega
        simp [wipeE, t, l, e1, e2, rowB, h1, h2]
    · have e1 : ¬ (1 : Int) ≤ (r.length : Nat) := by omega
      simp [wipeE, t, l, e1, rowB, h1]
  have al := all_fact f rowB
  have it : itOf (fD f) = some (f.map sD) := rfl
  have fl : f.length ≤ 16777216 := by omega
  simp only [wipeE, List.set_cons_succ, List.set_cons_zero] at lc
  cases hB : cB f <;> (unfold cB at hB; simp [IB, f_is_floor_form, Ss.nth, Tg.slots, wipeE, it, fl, lc, al, hB])
theorem i_2 (few : (cells f).length ≤ 1000) : exS (callF tab.G 100 (k + 1)) 100 (IB 2) [.fz (fD f), .no, .no, .no, .no] h = .ok (.nx [.fz (fD f), .fz (.lst ((cells f).map .int)), .no, .no, .no]) h := by
  have c := c_floor_cells k f few h
  rw [C] at c
  simp [IB, f_is_floor_form, Ss.nth, c]
end


theorem small_k {x : Int} (h0 : 0 ≤ x) (h1 : x ≤ 1000) : small x = true := by simp [small]; omega
section
variable {k : Nat} {f : List (List Int)} {h : Hq}
abbrev EI (f : List (List Int)) : Env := [.fz (fD f), .fz (.lst ((cells f).map .int)), .no, .no, .no]
theorem e_len0 : evE (callF tab.G 100 (k + 1)) (.bi .len (.cons (.var 0) .nil)) (EI f) h = .ok (.int (f.length : Nat)) h := by
  have l := len_f f
  simp [l]
theorem e_len00 (h1 : 1 ≤ f.length) : evE (callF tab.G 100 (k + 1)) (.bi .len (.cons (.ix (.var 0) (.int 0)) .nil)) (EI f) h = .ok (.int (wd f : Nat)) h := by
  have z := ix0 h1
  have l2 := len_s (hdR f)
  simp [z, l2, wd]
theorem e_len1 : evE (callF tab.G 100 (k + 1)) (.bi .len (.cons (.var 1) .nil)) (EI f) h = .ok (.int ((cells f).length : Nat)) h := by
  have l3 : bi .len [.lst ((cells f).map .int)] = some (.int ((cells f).length : Nat)) := by
    show some (D.int ((((cells f).map D.int).length : Nat) : Int)) = _
    rw [List.length_map]
  simp [l3]
theorem e_prod (h1 : 1 ≤ f.length) (h6 : f.length ≤ 6) : evE (callF tab.G 100 (k + 1)) (.bin .mul (.bi .len (.cons (.var 0) .nil)) (.bi .len (.cons (.ix (.var 0) (.int 0)) .nil))) (EI f) h = .ok (.int ((f.length : Int) * (wd f : Int))) h := by
  show ((evE (callF tab.G 100 (k + 1)) (.bi .len (.cons (.var 0) .nil)) (EI f) h).bind fun x h => (evE (callF tab.G 100 (k + 1)) (.bi .len (.cons (.ix (.var 0) (.int 0)) .nil)) (EI f) h).bind fun y h => liftO (bin .mul x y) h) = _
  rw [e_len0, bind_ok, e_len00 h1, bind_ok, b_mul (small_k (by omega) (by omega)), lift_some]
theorem e_cond (h1 : 1 ≤ f.length) (h6 : f.length ≤ 6) : evE (callF tab.G 100 (k + 1)) (.or (.cmp .ne (.bi .len (.cons (.var 1) .nil)) (.bin .mul (.bi .len (.cons (.var 0) .nil)) (.bi .len (.cons (.ix (.var 0) (.int 0)) .nil)))) (.cmp .gt (.bi .len (.cons (.var 1) .nil)) (.gint 24))) (EI f) h = .ok (.bl (!cC f)) h := by
  have a : evE (callF tab.G 100 (k + 1)) (.cmp .ne (.bi .len (.cons (.var 1) .nil)) (.bin .mul (.bi .len (.cons (.var 0) .nil)) (.bi .len (.cons (.ix (.var 0) (.int 0)) .nil)))) (EI f) h = .ok (.bl (!decide ((cells f).length = f.length * wd f))) h := by
    show ((evE (callF tab.G 100 (k + 1)) (.bi .len (.cons (.var 1) .nil)) (EI f) h).bind fun x h => (evE (callF tab.G 100 (k + 1)) (.bin .mul (.bi .len (.cons (.var 0) .nil)) (.bi .len (.cons (.ix (.var 0) (.int 0)) .nil))) (EI f) h).bind fun y h => liftO (cmp .ne x y) h) = _
    rw [e_len1, bind_ok, e_prod h1 h6, bind_ok]
    have c : cmp .ne (.int ((cells f).length : Nat)) (.int ((f.length : Int) * (wd f : Int))) = some (.bl (!decide ((cells f).length = f.length * wd f))) := by
      rw [← Int.natCast_mul]
      generalize f.length * wd f = p
      by_cases e : (cells f).length = p
      · subst e; simp
      · have e' : ¬ ((cells f).length : Int) = (p : Int) := by omega
        simp [e, e']
    rw [c, lift_some]
  have b : evE (callF tab.G 100 (k + 1)) (.cmp .gt (.bi .len (.cons (.var 1) .nil)) (.gint 24)) (EI f) h = .ok (.bl (!decide ((cells f).length ≤ 24))) h := by
    show ((evE (callF tab.G 100 (k + 1)) (.bi .len (.cons (.var 1) .nil)) (EI f) h).bind fun x h => liftO (cmp .gt x (.int 24)) h) = _
    rw [e_len1, bind_ok]
    by_cases e : (cells f).length ≤ 24
    · have e' : ¬ (24 : Int) < ((cells f).length : Nat) := by omega
      simp [e, e']
    · have e' : (24 : Int) < ((cells f).length : Nat) := by omega
      simp [e, e']
  show ((evE (callF tab.G 100 (k + 1)) (.cmp .ne (.bi .len (.cons (.var 1) .nil)) (.bin .mul (.bi .len (.cons (.var 0) .nil)) (.bi .len (.cons (.ix (.var 0) (.int 0)) .nil)))) (EI f) h).bind fun x h => (liftO (truthy x) h).bind fun q h => if q = true then .ok x h else evE (callF tab.G 100 (k + 1)) (.cmp .gt (.bi .len (.cons (.var 1) .nil)) (.gint 24)) (EI f) h) = _
  rw [a, bind_ok]
  by_cases e : (cells f).length = f.length * wd f
  · rw [show decide ((cells f).length = f.length * wd f) = true from decide_eq_true e]
    show evE _ _ _ h = _
    rw [b]
    unfold cC
    rw [show decide ((cells f).length = f.length * wd f) = true from decide_eq_true e]
    rfl
  · unfold cC
    rw [show decide ((cells f).length = f.length * wd f) = false from decide_eq_false e]
    rfl
theorem i_3 (h1 : 1 ≤ f.length) (h6 : f.length ≤ 6) : exS (callF tab.G 100 (k + 1)) 100 (IB 3) (EI f) h = if cC f then .ok (.nx (EI f)) h else .ok (.rt (.bl false)) h := by
  have e := e_cond (k := k) (h := h) h1 h6
  show ((evE (callF tab.G 100 (k + 1)) (.or (.cmp .ne (.bi .len (.cons (.var 1) .nil)) (.bin .mul (.bi .len (.cons (.var 0) .nil)) (.bi .len (.cons (.ix (.var 0) (.int 0)) .nil)))) (.cmp .gt (.bi .len (.cons (.var 1) .nil)) (.gint 24))) (EI f) h).bind fun x h => (liftO (truthy x) h).bind fun q h => if q = true then exSs (callF tab.G 100 (k + 1)) 100 (.cons (.ret (.bl false)) .nil) (EI f) h else exSs (callF tab.G 100 (k + 1)) 100 .nil (EI f) h) = _
  rw [e, bind_ok]
  cases cC f <;> rfl
end


section
variable {k : Nat} {f : List (List Int)} {h : Hq}
theorem i_4 (h1 : 1 ≤ f.length) (h6 : f.length ≤ 6) : exS (callF tab.G 100 (k + 1)) 100 (IB 4) (EI f) h = if cD f then .ok (.nx (EI f)) h else .ok (.rt (.bl false)) h := by
  have z := ix0 h1
  have lc : lcF (evE (callF tab.G 100 (k + 1)) (.cmp .eq (.bi .len (.cons (.var 3) .nil)) (.bi .len (.cons (.ix (.var 0) (.int 0)) .nil)))) (fun _ h => .ok (.bl true) h) (.nm 3) (wipeE (EI f) [3]) (f.map sD) h = .ok (f.map fun r => .bl (rowD f r)) h := by
    refine lc_nm fun r _ => ?_
    have l := len_s r
    have l2 := len_s (hdR f)
    unfold rowD wd
    by_cases e : r.length = (hdR f).length
    · simp [wipeE, z, l, l2, e]
    · have e' : ¬ ((r.length : Nat) : Int) = ((hdR f).length : Nat) := by omega
      simp [wipeE, z, l, l2, e, e']
  have al := all_fact f (rowD f)
  have it : itOf (fD f) = some (f.map sD) := rfl
  have fl : f.length ≤ 16777216 := by omega
  simp only [EI, wipeE, List.set_cons_succ, List.set_cons_zero] at lc
  cases hB : cD f <;> (unfold cD at hB; simp [IB, EI, f_is_floor_form, Ss.nth, Tg.slots, wipeE, it, fl, lc, al, hB])
theorem i_5 (few : (cells f).length ≤ 1000) : exS (callF tab.G 100 (k + 1)) 100 (IB 5) (EI f) h = if cE f then .ok (.nx (EI f)) h else .ok (.rt (.bl false)) h := by
  have lc : lcF (evE (callF tab.G 100 (k + 1)) (.call 243 (.cons (.var 4) (.cons (.int 0) (.cons (.bin .sub (.gint 8) (.int 1)) .nil))))) (fun _ h => .ok (.bl true) h) (.nm 4) (wipeE (EI f) [4]) ((cells f).map D.int) h = .ok ((cells f).map fun x => .bl (celE x)) h := by
    refine lc_nm fun x _ => ?_
    have c := c_is_num k x 0 7 h
    rw [C] at c
    unfold celE
    simp [wipeE, c]
  have al := all_fact (cells f) celE
  have it : itOf (.lst ((cells f).map D.int)) = some ((cells f).map D.int) := rfl
  have fl : (cells f).length ≤ 16777216 := by omega
  simp only [EI, wipeE, List.set_cons_succ, List.set_cons_zero] at lc
  cases hB : cE f <;> (unfold cE at hB; simp [IB, EI, f_is_floor_form, Ss.nth, Tg.slots, wipeE, it, fl, lc, al, hB])
theorem i_6 {m : Int} (hm : (cells f).max? = some m) (m0 : 0 ≤ m) (m7 : m ≤ 1000) : exS (callF tab.G 100 (k + 1)) 100 (IB 6) (EI f) h = .ok (.rt (.bl (cG f))) h := by
  have b := bi_max hm
  obtain ⟨n, hn⟩ : ∃ n : Nat, (n : Int) = m + 1 := ⟨(m + 1).toNat, by omega⟩
  have lc : lcF (evE (callF tab.G 100 (k + 1)) (.chain .le .le (.int 1) (.mt .count (.var 1) (.cons (.var 2) .nil)) (.gint 8))) (fun _ h => .ok (.bl true) h) (.nm 2) (wipeE (EI f) [2]) ((List.range n).map fun j : Nat => D.int (j : Nat)) h = .ok ((List.range n).map fun j => .bl (idxG (cells f) j)) h := by
    refine lc_nm fun j _ => ?_
    have g := cnt_list (cells f) (j : Int)
    unfold idxG
    by_cases e1 : 1 ≤ (cells f).count (j : Int)
    · have q1 : (1 : Int) ≤ ((cells f).count (j : Int) : Nat) := by omega
      by_cases e2 : (cells f).count (j : Int) ≤ 8
      · have q2 : (((cells f).count (j : Int) : Nat) : Int) ≤ 8 := by omega
        simp [wipeE, recv, g, q1, q2, e1, e2]
      · have q2 : ¬ (((cells f).count (j : Int) : Nat) : Int) ≤ 8 := by omega
        simp [wipeE, recv, g, q1, q2, e1, e2]
    · have q1 : ¬ (1 : Int) ≤ ((cells f).count (j : Int) : Nat) := by omega
      simp [wipeE, recv, g, q1, e1]
  have al := all_fact (List.range n) (idxG (cells f))
  have ok : okR (n : Int) = true := okR_nat (by omega)
  have fl : n ≤ 16777216 := by omega
  have e : cG f = (List.range n).all (idxG (cells f)) := by
    unfold cG mxc
    rw [hm]
    show (List.range (m + 1).toNat).all _ = _
    rw [← hn, Int.toNat_natCast]
  simp only [EI, wipeE, List.set_cons_succ, List.set_cons_zero] at lc
  rw [e]
  simp [IB, EI, f_is_floor_form, Ss.nth, Tg.slots, wipeE, b, ← hn, ok, range1_map, fl, lc, al]
end
theorem cells_head {f : List (List Int)} (hA : cA f = true) (hB : cB f = true) : ∃ x, x ∈ cells f := by
  unfold cA at hA
  rw [Bool.and_eq_true, decide_eq_true_eq] at hA
  match f, hA, hB with
  | r :: f, _, hB =>
    have z := List.all_eq_true.mp hB r List.mem_cons_self
    unfold rowB at z
    have z := of_decide_eq_true z
    obtain ⟨x, hx⟩ := List.exists_mem_of_length_pos z.1
    exact ⟨x, List.mem_flatten.mpr ⟨r, List.mem_cons_self, hx⟩⟩
theorem c_is_floor_form (k : Nat) (f : List (List Int)) (few : (cells f).length ≤ 1000) (h : Hq) : C (k + 2) 222 [fD f] h = .ok (.bl (okF f)) h := by
  have x0 := i_0 (k := k) (f := f) (h := h)
  cases hA : cA f with
  | false =>
    rw [hA] at x0
    refine fn_run (f := f_is_floor_form) rfl rfl (go0 (goR x0 (by decide))) |>.trans ?_
    unfold okF; rw [hA]; rfl
  | true =>
    rw [hA, if_pos rfl] at x0
    have hA' := hA
    unfold cA at hA'
    rw [Bool.and_eq_true, decide_eq_true_eq, decide_eq_true_eq] at hA'
    have x1 := i_1 (k := k) (h := h) hA'.2
    cases hB : cB f with
    | false =>
      rw [hB] at x1
      refine fn_run (f := f_is_floor_form) rfl rfl (go0 (go x0 (by decide) (goR x1 (by decide)))) |>.trans ?_
      unfold okF; rw [hA, hB]; rfl
    | true =>
      rw [hB, if_pos rfl] at x1
      have x2 := i_2 (k := k) (h := h) few
      have x3 := i_3 (k := k) (h := h) hA'.1 hA'.2
      cases hC : cC f with
      | false =>
        rw [hC] at x3
        refine fn_run (f := f_is_floor_form) rfl rfl (go0 (go x0 (by decide) (go x1 (by decide) (go x2 (by decide) (goR x3 (by decide)))))) |>.trans ?_
        unfold okF; rw [hA, hB, hC]; rfl
      | true =>
        rw [hC, if_pos rfl] at x3
        have x4 := i_4 (k := k) (h := h) hA'.1 hA'.2
        cases hD : cD f with
        | false =>
          rw [hD] at x4
          refine fn_run (f := f_is_floor_form) rfl rfl (go0 (go x0 (by decide) (go x1 (by decide) (go x2 (by decide) (go x3 (by decide) (goR x4 (by decide))))))) |>.trans ?_
          unfold okF; rw [hA, hB, hC, hD]; rfl
        | true =>
          rw [hD, if_pos rfl] at x4
          have x5 := i_5 (k := k) (h := h) few
          cases hE : cE f with
          | false =>
            rw [hE] at x5
            refine fn_run (f := f_is_floor_form) rfl rfl (go0 (go x0 (by decide) (go x1 (by decide) (go x2 (by decide) (go x3 (by decide) (go x4 (by decide) (goR x5 (by decide)))))))) |>.trans ?_
            unfold okF; rw [hA, hB, hC, hD, hE]; rfl
          | true =>
            rw [hE, if_pos rfl] at x5
            obtain ⟨x, hx⟩ := cells_head hA hB
            obtain ⟨m, hm⟩ := max_some (List.ne_nil_of_mem hx)
            have mm := of_decide_eq_true (List.all_eq_true.mp hE m (List.max?_mem hm))
            have x6 := i_6 (k := k) (h := h) hm mm.1 (by omega)
            refine fn_run (f := f_is_floor_form) rfl rfl (go0 (go x0 (by decide) (go x1 (by decide) (go x2 (by decide) (go x3 (by decide) (go x4 (by decide) (go x5 (by decide) (goR x6 (by decide))))))))) |>.trans ?_
            unfold okF; rw [hA, hB, hC, hD, hE]; rfl


/-! ### the law's own look at a floor -/
def neg0 (x : Int) : Bool := decide (x < 0)
def nonn (r : List Int) : Bool := decide ((r.filter neg0) = [])
def good (f : List (List Int)) (r : List Int) : Bool := rowB r && (rowD f r && nonn r)
section
variable {k : Nat} {f : List (List Int)} {h : Hq}
abbrev LB : Ss := bodyAt f_law_is_floor.body [2]
abbrev LI (i : Nat) : S := f_law_is_floor.body.nth i
theorem l_0 : exS (callF tab.G 100 k) 100 (LI 0) [.fz (fD f), .no, .no, .no] h = if cA f then .ok (.nx [.fz (fD f), .no, .no, .no]) h else .ok (.rt (.bl false)) h := by
  have l := len_f f
  have t : isi "tuple" (fD f) = some true := rfl
  by_cases h1 : 1 ≤ f.length
  · by_cases h2 : f.length ≤ 6
    · have e1 : (1 : Int) ≤ (f.length : Nat) := by omega
      have e2 : ((f.length : Nat) : Int) ≤ 6 := by omega
      simp [LI, f_law_is_floor, Ss.nth, t, l, e1, e2, h1, h2, cA]
    · have e1 : (1 : Int) ≤ (f.length : Nat) := by omega
      have e2 : ¬ ((f.length : Nat) : Int) ≤ 6 := by omega
      simp [LI, f_law_is_floor, Ss.nth, t, l, e1, e2, h1, h2, cA]
  · have e1 : ¬ (1 : Int) ≤ (f.length : Nat) := by omega
    simp [LI, f_law_is_floor, Ss.nth, t, l, e1, h1, cA]
theorem lb_0 (h1 : 1 ≤ f.length) (r : List Int) (e : D) : exS (callF tab.G 100 k) 100 (LB.nth 0) [.fz (fD f), .fz e, .fz (sD r), .no] h = if rowB r && rowD f r then .ok (.nx [.fz (fD f), .fz e, .fz (sD r), .no]) h else .ok (.rt (.bl false)) h := by
  have z := ix0 h1
  have l := len_s r
  have l2 := len_s (hdR f)
  have t : isi "tuple" (sD r) = some true := rfl
  unfold rowB rowD wd
  by_cases a1 : 1 ≤ r.length
  · have e1 : (1 : Int) ≤ (r.length : Nat) := by omega
    by_cases a2 : r.length ≤ 6
    · have e2 : ((r.length : Nat) : Int) ≤ 6 := by omega
      by_cases a3 : r.length = (hdR f).length
      · simp [f_law_is_floor, bodyAt, Ss.nth, S.sub, t, l, z, l2, e1, e2, a1, a2, a3]
        rw [← a3]
        simp [a1, a2, e1, e2]
      · have e3 : ¬ ((r.length : Nat) : Int) = ((hdR f).length : Nat) := by omega
        simp [f_law_is_floor, bodyAt, Ss.nth, S.sub, t, l, z, l2, e1, e2, e3, a1, a2, a3]
    · have e2 : ¬ ((r.length : Nat) : Int) ≤ 6 := by omega
      simp [f_law_is_floor, bodyAt, Ss.nth, S.sub, t, l, e1, e2, a1, a2]
  · have e1 : ¬ (1 : Int) ≤ (r.length : Nat) := by omega
    simp [f_law_is_floor, bodyAt, Ss.nth, S.sub, t, l, e1, a1]
theorem lb_1 (few : r.length ≤ 1000) (e : D) : exS (callF tab.G 100 k) 100 (LB.nth 1) [.fz (fD f), .fz e, .fz (sD r), .no] h = if nonn r then .ok (.nx [.fz (fD f), .fz e, .fz (sD r), .no]) h else .ok (.rt (.bl false)) h := by
  have lc : lcF (evE (callF tab.G 100 k) (.var 3)) (evE (callF tab.G 100 k) (.or (.not (.isi "int" (.var 3))) (.or (.isi "bool" (.var 3)) (.cmp .lt (.var 3) (.int 0))))) (.nm 3) (wipeE [.fz (fD f), .fz e, .fz (sD r), .no] [3]) (r.map D.int) h = .ok ((r.filter neg0).map D.int) h := by
    refine lcif_nm (fun x _ => ?_) fun x _ _ => ?_
    · unfold neg0
      simp [wipeE, isi]
    · simp [wipeE]
  have it : itOf (sD r) = some (r.map D.int) := rfl
  have fl : r.length ≤ 16777216 := by omega
  have hN : nonn r = decide (r.filter neg0 = []) := rfl
  obtain ⟨q, hq⟩ : ∃ q, r.filter neg0 = q := ⟨_, rfl⟩
  rw [hq] at lc hN
  have ne := ne_lnil q
  simp only [wipeE, List.set_cons_succ, List.set_cons_zero] at lc
  cases hB : nonn r <;> (rw [hN] at hB; simp [f_law_is_floor, bodyAt, Ss.nth, S.sub, Tg.slots, wipeE, it, fl, lc, ne, hB])
theorem lb_2 (r cs : List Int) (few : cs.length + r.length ≤ 1000) : exS (callF tab.G 100 k) 100 (LB.nth 2) [.fz (fD f), .fz (.lst (cs.map .int)), .fz (sD r), .no] h = .ok (.nx [.fz (fD f), .fz (.lst ((cs ++ r).map .int)), .fz (sD r), .no]) h := by
  have bl : bi .list [sD r] = some (.lst (r.map .int)) := rfl
  have ad := b_addl (cs.map D.int) (r.map .int) (by simp; omega)
  simp [f_law_is_floor, bodyAt, Ss.nth, S.sub, bl, ad]
theorem l_loop (h1 : 1 ≤ f.length) (few : (cells f).length ≤ 1000) : ∀ (g p : List (List Int)) (s : Sl), f = p ++ g → ∃ s', forF (exSs (callF tab.G 100 k) 100 LB) (.nm 2) (g.map sD) [.fz (fD f), .fz (.lst ((cells p).map .int)), s, .no] h = if g.all (good f) then .ok (.nx [.fz (fD f), .fz (.lst ((cells f).map .int)), s', .no]) h else .ok (.rt (.bl false)) h
  | [], p, s, e => by
    rw [List.append_nil] at e
    subst e
    exact ⟨s, rfl⟩
  | r :: g, p, s, e => by
    have le : (cells (p ++ [r])).length ≤ (cells f).length := by
      have q : cells f = cells (p ++ [r]) ++ cells g := by
        rw [e]; simp [cells]
      rw [q, List.length_append]; omega
    rw [cells_snoc, List.length_append] at le
    have b0 := lb_0 (k := k) (h := h) h1 r (.lst ((cells p).map .int))
    have b1 := lb_1 (k := k) (f := f) (r := r) (h := h) (by omega) (.lst ((cells p).map .int))
    have b2 := lb_2 (k := k) (f := f) (h := h) r (cells p) (by omega)
    have bt : bindTg (.nm 2) (sD r) [.fz (fD f), .fz (.lst ((cells p).map .int)), s, .no] = some [.fz (fD f), .fz (.lst ((cells p).map .int)), .fz (sD r), .no] := rfl
    cases hA : rowB r && rowD f r with
    | false =>
      rw [hA] at b0
      refine ⟨s, ?_⟩
      have hg : good f r = false := by unfold good; rw [← Bool.and_assoc, hA]; rfl
      rw [List.all_cons, hg, List.map_cons, forF, bt, lift_some, bind_ok, go0 (b := LB) (goR b0 (by decide))]
      rfl
    | true =>
      rw [hA, if_pos rfl] at b0
      cases hN : nonn r with
      | false =>
        rw [hN] at b1
        refine ⟨s, ?_⟩
        have hg : good f r = false := by unfold good; rw [← Bool.and_assoc, hA, hN]; rfl
        rw [List.all_cons, hg, List.map_cons, forF, bt, lift_some, bind_ok, go0 (b := LB) (go b0 (by decide) (goR b1 (by decide)))]
        rfl
      | true =>
        rw [hN, if_pos rfl] at b1
        have hg : good f r = true := by unfold good; rw [← Bool.and_assoc, hA, hN]; rfl
        obtain ⟨s', e'⟩ := l_loop h1 few g (p ++ [r]) (.fz (sD r)) (by rw [e]; simp)
        refine ⟨s', ?_⟩
        rw [List.all_cons, hg, Bool.true_and, ← e', cells_snoc, List.map_cons, forF, bt, lift_some, bind_ok, go0 (b := LB) (go b0 (by decide) (go b1 (by decide) (go b2 (by decide) (go_nil rfl))))]
        rfl
end


theorem dd_mem : ∀ {l : List Int} {k : Int}, k ∈ dedupI l ↔ k ∈ l
  | [], k => Iff.rfl
  | x :: l, k => by
    unfold dedupI
    split
    · rename_i hx
      rw [dd_mem, List.mem_cons]
      exact ⟨.inr, fun z => z.elim (fun e => by rw [e]; exact hx) id⟩
    · rw [List.mem_cons, List.mem_cons, dd_mem]
theorem dd_nodup : ∀ l : List Int, (dedupI l).Nodup
  | [] => .nil
  | x :: l => by
    unfold dedupI
    split
    · exact dd_nodup l
    · rename_i hx
      exact List.nodup_cons.mpr ⟨fun z => hx (dd_mem.mp z), dd_nodup l⟩
def upto (n : Nat) : List Int := (List.range n).map fun j : Nat => (0 : Int) + (j : Int)
theorem upto_mem {n : Nat} {x : Int} : x ∈ upto n ↔ 0 ≤ x ∧ x < n := by
  unfold upto
  rw [List.mem_map]
  constructor
  · rintro ⟨j, hj, rfl⟩
    have := List.mem_range.mp hj
    omega
  · intro h
    exact ⟨x.toNat, List.mem_range.mpr (by omega), by omega⟩
theorem upto_sorted (n : Nat) : (upto n).Pairwise (· < ·) := by
  unfold upto
  rw [List.pairwise_map]
  exact List.pairwise_lt_range.imp fun h => by omega
theorem set_upto (l : List Int) (n : Nat) : sortI (dedupI l) = upto n ↔ ∀ x, x ∈ l ↔ 0 ≤ x ∧ x < n := by
  constructor
  · intro e x
    rw [← upto_mem, ← e, (sortI_perm _).mem_iff, dd_mem]
  · intro h
    have p : (dedupI l).Perm (upto n) := (List.perm_ext_iff_of_nodup (dd_nodup l) ((upto_sorted n).imp fun h => by omega)).mpr fun x => by rw [dd_mem, h, upto_mem]
    exact sorted_uniq ((sortI_perm _).trans p) (sortI_sorted _) ((upto_sorted n).imp fun h => by omega)
section
variable {k : Nat} {f : List (List Int)} {h : Hq}
abbrev EL (f : List (List Int)) (s : Sl) : Env := [.fz (fD f), .fz (.lst ((cells f).map .int)), s, .no]
def lim3 (f : List (List Int)) (m c : Int) : Bool := decide ((cells f).length ≤ 24) && (decide (m ≤ 7) && decide (c ≤ 8))
theorem l_3 {s : Sl} {m c : Int} (few : (cells f).length ≤ 1000) (hm : (cells f).max? = some m) (hc : ((cells f).map fun x => ((cells f).count x : Int)).max? = some c) : exS (callF tab.G 100 k) 100 (LI 3) (EL f s) h = if lim3 f m c then .ok (.nx (EL f s)) h else .ok (.rt (.bl false)) h := by
  have b := bi_max hm
  have b2 := bi_max hc
  rw [List.map_map] at b2
  have l3 : bi .len [.lst ((cells f).map .int)] = some (.int ((cells f).length : Nat)) := by
    show some (D.int ((((cells f).map D.int).length : Nat) : Int)) = _
    rw [List.length_map]
  have lc : lcF (evE (callF tab.G 100 k) (.mt .count (.var 1) (.cons (.var 3) .nil))) (fun _ h => .ok (.bl true) h) (.nm 3) (wipeE (EL f s) [3]) ((cells f).map D.int) h = .ok ((cells f).map (D.int ∘ fun x => ((cells f).count x : Int))) h := by
    refine lc_nm fun x _ => ?_
    have g := cnt_list (cells f) x
    simp [wipeE, recv, g]
  have it : itOf (.lst ((cells f).map D.int)) = some ((cells f).map D.int) := rfl
  have fl : (cells f).length ≤ 16777216 := by omega
  simp only [EL, wipeE, List.set_cons_succ, List.set_cons_zero] at lc
  generalize hL : (cells f).map (D.int ∘ fun x => ((cells f).count x : Int)) = L at lc b2
  unfold lim3
  by_cases e1 : (cells f).length ≤ 24
  · have q1 : ¬ (24 : Int) < ((cells f).length : Nat) := by omega
    by_cases e2 : m ≤ 7
    · have q2 : ¬ (7 : Int) < m := by omega
      by_cases e3 : c ≤ 8
      · have q3 : ¬ (8 : Int) < c := by omega
        simp [LI, EL, f_law_is_floor, Ss.nth, Tg.slots, wipeE, it, fl, lc, l3, b, b2, e1, e2, e3, q1, q2, q3]
      · have q3 : (8 : Int) < c := by omega
        simp [LI, EL, f_law_is_floor, Ss.nth, Tg.slots, wipeE, it, fl, lc, l3, b, b2, e1, e2, e3, q1, q2, q3]
    · have q2 : (7 : Int) < m := by omega
      simp [LI, EL, f_law_is_floor, Ss.nth, l3, b, e1, e2, q1, q2]
  · have q1 : (24 : Int) < ((cells f).length : Nat) := by omega
    simp [LI, EL, f_law_is_floor, Ss.nth, l3, e1, q1]
theorem l_4 {s : Sl} {m : Int} {n : Nat} (few : (cells f).length ≤ 24) (hm : (cells f).max? = some m) (hn : (n : Int) = m + 1) (n8 : n ≤ 1000) : exS (callF tab.G 100 k) 100 (LI 4) (EL f s) h = .ok (.rt (.bl (decide (sortI (dedupI (cells f)) = upto n)))) h := by
  have b := bi_max hm
  have ok : okR (n : Int) = true := okR_nat (by omega)
  have l6 : (cells f).length < 60 := by omega
  have r : range2 0 (n : Int) = (upto n).map D.int := by
    unfold range2 upto
    rw [List.map_map, Int.sub_zero, Int.toNat_natCast]
    rfl
  have e := eq_lints (sortI (dedupI (cells f))) (upto n)
  generalize upto n = B at e r ⊢
  simp [LI, EL, f_law_is_floor, Ss.nth, lstOf, l6, b, ← hn, ok, seqD, r]
end


/-! ### both look alike -/
theorem wd_len {f : List (List Int)} (h : cD f = true) : ∀ r ∈ f, r.length = wd f := fun r hr => by
  have z := List.all_eq_true.mp h r hr
  unfold rowD at z
  exact of_decide_eq_true z
theorem nonn_iff {r : List Int} : nonn r = true ↔ ∀ x ∈ r, 0 ≤ x := by
  unfold nonn
  rw [decide_eq_true_eq, List.filter_eq_nil_iff]
  constructor
  · intro h x hx
    have z := h x hx
    unfold neg0 at z
    rw [decide_eq_true_eq] at z
    omega
  · intro h x hx z
    unfold neg0 at z
    rw [decide_eq_true_eq] at z
    have := h x hx
    omega
theorem mem_cells {f : List (List Int)} {x : Int} : x ∈ cells f ↔ ∃ r ∈ f, x ∈ r := List.mem_flatten
theorem okF_parts {f : List (List Int)} : okF f = true ↔ cA f = true ∧ cB f = true ∧ cC f = true ∧ cD f = true ∧ cE f = true ∧ cG f = true := by
  unfold okF
  simp only [Bool.and_eq_true]
theorem okF_good {f : List (List Int)} (h : okF f = true) : f.all (good f) = true := by
  obtain ⟨_, b, _, d, e, _⟩ := okF_parts.mp h
  refine List.all_eq_true.mpr fun r hr => ?_
  unfold good
  rw [List.all_eq_true.mp b r hr, List.all_eq_true.mp d r hr]
  show nonn r = true
  rw [nonn_iff]
  intro x hx
  exact (of_decide_eq_true (List.all_eq_true.mp e x (mem_cells.mpr ⟨r, hr, hx⟩))).1
theorem good_parts {f : List (List Int)} (h : f.all (good f) = true) : cB f = true ∧ cD f = true ∧ ∀ x ∈ cells f, 0 ≤ x := by
  have g : ∀ r ∈ f, rowB r = true ∧ rowD f r = true ∧ nonn r = true := fun r hr => by
    have z := List.all_eq_true.mp h r hr
    unfold good at z
    rw [Bool.and_eq_true, Bool.and_eq_true] at z
    exact z
  refine ⟨List.all_eq_true.mpr fun r hr => (g r hr).1, List.all_eq_true.mpr fun r hr => (g r hr).2.1, fun x hx => ?_⟩
  obtain ⟨r, hr, hx⟩ := mem_cells.mp hx
  exact nonn_iff.mp (g r hr).2.2 x hx
theorem idx_iff {cs : List Int} {j : Nat} : idxG cs j = true ↔ 1 ≤ cs.count (j : Int) ∧ cs.count (j : Int) ≤ 8 := by
  unfold idxG
  rw [decide_eq_true_eq]
theorem okF_last {f : List (List Int)} {m c : Int} {n : Nat} (hA : cA f = true) (hg : f.all (good f) = true) (hm : (cells f).max? = some m) (hc : ((cells f).map fun x => ((cells f).count x : Int)).max? = some c) (hn : (n : Int) = m + 1) :
    okF f = if lim3 f m c then decide (sortI (dedupI (cells f)) = upto n) else false := by
  obtain ⟨hB, hD, h0⟩ := good_parts hg
  obtain ⟨mm, mx⟩ := List.max?_eq_some_iff.mp hm
  obtain ⟨cm, cx⟩ := List.max?_eq_some_iff.mp hc
  have cnt : ∀ x ∈ cells f, ((cells f).count x : Int) ≤ c := fun x hx => cx _ (List.mem_map.mpr ⟨x, hx, rfl⟩)
  have eG : cG f = (List.range n).all (idxG (cells f)) := by
    unfold cG mxc
    rw [hm]
    show (List.range (m + 1).toNat).all _ = _
    rw [← hn, Int.toNat_natCast]
  by_cases hl : lim3 f m c = true
  · rw [if_pos hl]
    unfold lim3 at hl
    rw [Bool.and_eq_true, Bool.and_eq_true, decide_eq_true_eq, decide_eq_true_eq, decide_eq_true_eq] at hl
    obtain ⟨l1, l2, l3⟩ := hl
    have hC : cC f = true := by
      unfold cC
      rw [Bool.and_eq_true, decide_eq_true_eq, decide_eq_true_eq]
      exact ⟨cells_len (wd_len hD), l1⟩
    have hE : cE f = true := List.all_eq_true.mpr fun x hx => by
      unfold celE
      have := h0 x hx
      have := mx x hx
      exact decide_eq_true ⟨by omega, by omega⟩
    unfold okF
    rw [hA, hB, hC, hD, hE, eG]
    show (List.range n).all (idxG (cells f)) = _
    rw [Bool.eq_iff_iff, decide_eq_true_eq, set_upto, List.all_eq_true]
    constructor
    · intro h x
      constructor
      · intro hx
        have := h0 x hx
        have := mx x hx
        omega
      · intro hx
        have z := idx_iff.mp (h x.toNat (List.mem_range.mpr (by omega)))
        have e : ((x.toNat : Nat) : Int) = x := by omega
        rw [e] at z
        exact List.count_pos_iff.mp (by omega)
    · intro h j hj
      have hj := List.mem_range.mp hj
      have hx : (j : Int) ∈ cells f := (h j).mpr (by omega)
      have := cnt _ hx
      exact idx_iff.mpr ⟨List.count_pos_iff.mpr hx, by omega⟩
  · rw [if_neg hl, ← Bool.not_eq_true]
    intro ok
    apply hl
    obtain ⟨_, _, hC, _, hE, hG⟩ := okF_parts.mp ok
    unfold cC at hC
    rw [Bool.and_eq_true, decide_eq_true_eq, decide_eq_true_eq] at hC
    have e7 := of_decide_eq_true (List.all_eq_true.mp hE m mm)
    obtain ⟨x, hx, rfl⟩ := List.mem_map.mp cm
    rw [eG] at hG
    have x0 := h0 x hx
    have xm := mx x hx
    have z := idx_iff.mp (List.all_eq_true.mp hG x.toNat (List.mem_range.mpr (by omega)))
    have e : ((x.toNat : Nat) : Int) = x := by omega
    rw [e] at z
    unfold lim3
    rw [Bool.and_eq_true, Bool.and_eq_true, decide_eq_true_eq, decide_eq_true_eq, decide_eq_true_eq]
    exact ⟨hC.2, e7.2, by omega⟩
theorem t_is_floor (k : Nat) (f : List (List Int)) (few : (cells f).length ≤ 1000) (h : Hq) : C (k + 1) 1004 [fD f] h = .ok (.bl (okF f)) h := by
  have x0 := l_0 (k := k) (f := f) (h := h)
  cases hA : cA f with
  | false =>
    rw [hA] at x0
    refine fn_run (f := f_law_is_floor) rfl rfl (go0 (goR x0 (by decide))) |>.trans ?_
    unfold okF; rw [hA]; rfl
  | true =>
    rw [hA, if_pos rfl] at x0
    have hA' := hA
    unfold cA at hA'
    rw [Bool.and_eq_true, decide_eq_true_eq, decide_eq_true_eq] at hA'
    have x1 : exS (callF tab.G 100 k) 100 (LI 1) [.fz (fD f), .no, .no, .no] h = .ok (.nx [.fz (fD f), .fz (.lst []), .no, .no]) h := rfl
    obtain ⟨s, e⟩ := l_loop (k := k) (h := h) hA'.1 few f [] .no rfl
    have x2 : exS (callF tab.G 100 k) 100 (LI 2) [.fz (fD f), .fz (.lst []), .no, .no] h = if f.all (good f) then .ok (.nx (EL f s)) h else .ok (.rt (.bl false)) h := by
      rw [← e]
      rfl
    cases hg : f.all (good f) with
    | false =>
      rw [hg] at x2
      refine fn_run (f := f_law_is_floor) rfl rfl (go0 (go x0 (by decide) (go x1 (by decide) (goR x2 (by decide))))) |>.trans ?_
      have z : okF f = false := by
        rw [← Bool.not_eq_true]
        intro ok
        rw [okF_good ok] at hg
        cases hg
      rw [z]
    | true =>
      rw [hg, if_pos rfl] at x2
      obtain ⟨hB, hD, h0⟩ := good_parts hg
      obtain ⟨y, hy⟩ := cells_head hA hB
      obtain ⟨m, hm⟩ := max_some (List.ne_nil_of_mem hy)
      obtain ⟨c, hc⟩ := max_some (l := (cells f).map fun x => ((cells f).count x : Int)) (List.ne_nil_of_mem (List.mem_map.mpr ⟨y, hy, rfl⟩))
      have m0 := h0 m (List.max?_mem hm)
      obtain ⟨n, hn⟩ : ∃ n : Nat, (n : Int) = m + 1 := ⟨(m + 1).toNat, by omega⟩
      have last := okF_last hA hg hm hc hn
      have x3 := l_3 (k := k) (s := s) (h := h) few hm hc
      cases hl : lim3 f m c with
      | false =>
        rw [hl] at x3 last
        refine fn_run (f := f_law_is_floor) rfl rfl (go0 (go x0 (by decide) (go x1 (by decide) (go x2 (by decide) (goR x3 (by decide)))))) |>.trans ?_
        rw [last]; rfl
      | true =>
        rw [hl] at x3 last
        rw [if_pos rfl] at x3 last
        unfold lim3 at hl
        rw [Bool.and_eq_true, Bool.and_eq_true, decide_eq_true_eq, decide_eq_true_eq, decide_eq_true_eq] at hl
        have x4 := l_4 (k := k) (s := s) (h := h) hl.1 hm hn (by omega)
        refine fn_run (f := f_law_is_floor) rfl rfl (go0 (go x0 (by decide) (go x1 (by decide) (go x2 (by decide) (go x3 (by decide) (goR x4 (by decide))))))) |>.trans ?_
        rw [last]
theorem Flo.ok {f : List (List Int)} {w : Nat} {m : Int} (v : Flo f w m) : okF f = true := by
  obtain ⟨r, g, e⟩ : ∃ r g, f = r :: g := by
    match f, v.rows with
    | r :: g, _ => exact ⟨r, g, rfl⟩
  have hw : wd f = w := by
    rw [e]
    exact v.len r (by rw [e]; exact List.mem_cons_self)
  refine okF_parts.mpr ⟨?_, List.all_eq_true.mpr fun q hq => ?_, ?_, List.all_eq_true.mpr fun q hq => ?_, List.all_eq_true.mpr fun x hx => ?_, ?_⟩
  · unfold cA; rw [Bool.and_eq_true]; exact ⟨decide_eq_true v.rows.1, decide_eq_true v.rows.2⟩
  · unfold rowB; rw [v.len q hq]; exact decide_eq_true v.cols
  · unfold cC; rw [Bool.and_eq_true, hw]; exact ⟨decide_eq_true v.len', decide_eq_true v.few⟩
  · unfold rowD; rw [hw]; exact decide_eq_true (v.len q hq)
  · unfold celE
    have := v.rng x hx
    have := v.m0
    exact decide_eq_true ⟨by omega, by omega⟩
  · unfold cG mxc
    rw [v.max]
    refine List.all_eq_true.mpr fun j hj => idx_iff.mpr ⟨List.count_pos_iff.mpr (v.has _ (by omega) ?_), v.cnt _⟩
    have := List.mem_range.mp hj
    have e : (some m).getD 0 = m := rfl
    rw [e] at this
    omega

/-! ### what the turn needs -/
theorem c_check_floor (k : Nat) {f : List (List Int)} (few : (cells f).length ≤ 1000) (ok : okF f = true) (h : Hq) : C (k + 3) 104 [fD f] h = .ok .non h := by
  have c := c_is_floor_form k f few h
  rw [C, ok] at c
  rw [C, callF_eq (f := f_check_floor) rfl rfl]
  simp [f_check_floor, c]
theorem c_floor_lengths (k : Nat) {f : List (List Int)} {w : Nat} {m : Int} (v : Flo f w m) (h : Hq) : C (k + 4) 184 [fD f] h = .ok (sD (siz f m)) h := by
  have few : (cells f).length ≤ 1000 := by have := v.few; omega
  have c1 := c_check_floor k few v.ok h
  have c2 := c_floor_cells (k + 2) f few h
  have c3 := c_strings_on (k + 1) v h
  have c4 := c_sizes (k + 1) v h
  rw [C] at c1 c2 c3 c4
  rw [C, callF_eq (f := f_floor_lengths) rfl rfl]
  simp [f_floor_lengths, c1, c2, c3, c4]
/-- both looks tell the same of v -/
def Alike (v : D) : Prop := ∃ b, (∀ h, C 18 1004 [v] h = .ok (.bl b) h) ∧ ∀ h, C 18 221 [v] h = .ok (.bl b) h
theorem alike_f (f : List (List Int)) (few : (cells f).length ≤ 1000) : Alike (fD f) := by
  refine ⟨okF f, fun h => t_is_floor 17 f few h, fun h => ?_⟩
  have c := c_is_floor_form 15 f few h
  rw [C] at c
  rw [C, callF_eq (f := f_is_floor) rfl rfl]
  simp [f_is_floor, c]
def vD : R D → D
  | .ok d _ => d
  | _ => .non
def rkB (d : D) : Bool := D.plain 59 d && (D.shows d && decide (D.wt d ≤ 1000))
theorem rk_of {d : D} (h : rkB d = true) : Rk 59 1000 d := by
  simp only [rkB, Bool.and_eq_true, decide_eq_true_eq] at h
  exact h
abbrev B82 : Ss := bodyAt f_law_right.body [0]
theorem f_rc (r c : Int) (hr : 0 ≤ r ∧ r < 6) (hc : 0 ≤ c ∧ c < 4) : ∃ o t, rkB o = true ∧ rkB t = true ∧ (∀ h, C 18 359 [.int (1 + r), .int (1 + c)] h = .ok o h) ∧ (∀ h, C 18 140 [.int (1 + r), .int (1 + c)] h = .ok t h) ∧
    ∀ (n : Nat) (d : D) (s2 s3 s6 s7 s8 s9 s10 s11 : Sl) h, exS (callF tab.G 100 18) 100 (B82.nth 4) [.fz (.cell n), .fz d, s2, s3, .fz (.int (1 + r)), .fz (.int (1 + c)), s6, s7, s8, s9, s10, s11, .no, .no] h = .ok (.nx [.fz (.cell n), .fz d, s2, s3, .fz (.int (1 + r)), .fz (.int (1 + c)), .fz o, .fz t, s8, s9, s10, s11, .no, .no]) h := by
  refine ⟨vD (C 18 359 [.int (1 + r), .int (1 + c)] []), vD (C 18 140 [.int (1 + r), .int (1 + c)] []), ?_⟩
  have h1 : r = 0 ∨ r = 1 ∨ r = 2 ∨ r = 3 ∨ r = 4 ∨ r = 5 := by omega
  have h2 : c = 0 ∨ c = 1 ∨ c = 2 ∨ c = 3 := by omega
  rcases h1 with rfl | rfl | rfl | rfl | rfl | rfl <;> rcases h2 with rfl | rfl | rfl | rfl <;> exact ⟨by decide +kernel, by decide +kernel, fun h => by kernel_rfl, fun h => by kernel_rfl, fun n d s2 s3 s6 s7 s8 s9 s10 s11 h => by kernel_rfl⟩
theorem add_f (f g : List (List Int)) (h : f.length + g.length ≤ 1000) : bin .add (fD f) (fD g) = some (fD (f ++ g)) := by
  show (if (f.map sD).length + (g.map sD).length ≤ 16777216 then some (D.tup (f.map sD ++ g.map sD)) else none) = _
  rw [if_pos (by rw [List.length_map, List.length_map]; omega), ← List.map_append]
  rfl
theorem add_s (a b : List Int) (h : a.length + b.length ≤ 1000) : bin .add (sD a) (sD b) = some (sD (a ++ b)) := by
  show (if (a.map D.int).length + (b.map D.int).length ≤ 16777216 then some (D.tup (a.map D.int ++ b.map D.int)) else none) = _
  rw [if_pos (by rw [List.length_map, List.length_map]; omega), ← List.map_append]
  rfl
theorem cut_1 (f : List (List Int)) : cutD none (some 1) (fD f) = some (fD (f.take 1)) := by
  have z := cut_take (f.map sD) 0
  rw [← List.map_take] at z
  exact z
theorem cut_last (r : List Int) : cutD none (some (-1)) (sD r) = some (sD r.dropLast) := by
  have e : (-1 + (r.length : Int)).toNat = r.length - 1 := by omega
  have z : cut (r.map D.int) none (some (-1)) = (r.map D.int).take (-1 + ((r.map D.int).length : Int)).toNat := by
    unfold cut lim
    simp
  show some (D.tup (cut (r.map D.int) none (some (-1)))) = _
  rw [z, List.length_map, e, List.dropLast_eq_take, ← List.map_take]
  rfl
theorem cells_app (f g : List (List Int)) : cells (f ++ g) = cells f ++ cells g := by simp [cells]
theorem cells_rows {f : List (List Int)} {b : Nat} (h : ∀ r ∈ f, r.length ≤ b) : (cells f).length ≤ f.length * b := by
  unfold cells
  induction f with
  | nil => simp
  | cons r f ih =>
    have a := ih fun q hq => h q (List.mem_cons_of_mem _ hq)
    have c := h r List.mem_cons_self
    rw [List.flatten_cons, List.length_append, List.length_cons, Nat.add_mul, Nat.one_mul]
    omega
def odd1 (f : List (List Int)) : List D := [.non, .tup [], fD f, .lst (f.map sD), fD (f ++ [[]]), fD (f ++ [hdR f])]
def odd2 (f : List (List Int)) : List D := odd1 f ++ [fD (f.map fun r => r ++ [0]), .tup [.int 0, .int 1]]
def odd3 (f : List (List Int)) : List D := odd2 f ++ [fD (f.take 1 ++ [hdR f ++ [0]]), fD (f.map fun r => r.dropLast ++ [9]), .tup [.tup [.int 0], .tup [.int 1, .int 1]]]
def odd4 (f : List (List Int)) : List D := odd3 f ++ [.tup [.tup [.bl true]], .tup [.tup [.int 1]]]
def z5 : D := .tup [.int 0, .int 0, .int 0, .int 0, .int 0]
def z4 : D := .tup [.int 0, .int 0, .int 0, .int 0]
def z7 : D := .tup [.int 0, .int 0, .int 0, .int 0, .int 0, .int 0, .int 0]
def odd5 (f : List (List Int)) : List D := odd4 f ++ [.tup [.tup [.int 0, .non]], .tup [.lst [.int 0, .int 1]], .tup [z5, z5, z5, z5, z5], .tup [z4, z4, z4, z4, z4, z4], .tup [z7], .tup [.tup [.int (-1), .int 0]], .str "floor"]
def odd6 (f : List (List Int)) : List D := odd5 f ++ [.tup [.tup [.int 0, .int 2]]]
theorem alike_no {v : D} (h : (∀ h, C 18 1004 [v] h = .ok (.bl false) h) ∧ ∀ h, C 18 221 [v] h = .ok (.bl false) h) : Alike v := ⟨false, h.1, h.2⟩
theorem alike_all {f : List (List Int)} {w : Nat} {m : Int} (v : Flo f w m) : ∀ d ∈ odd6 f, Alike d := by
  have l6 : ∀ r ∈ f, r.length ≤ 6 := fun r hr => by rw [v.len r hr]; exact v.cols.2
  have h6 : (hdR f).length ≤ 6 := by
    match f, l6 with
    | [], _ => show 0 ≤ 6; omega
    | r :: f, l6 => exact l6 r List.mem_cons_self
  have fr := v.rows.2
  have few := v.few
  intro d hd
  simp only [odd6, odd5, odd4, odd3, odd2, odd1, List.mem_append, List.mem_cons, List.not_mem_nil, or_false, or_assoc] at hd
  rcases hd with rfl | rfl | rfl | rfl | rfl | rfl | rfl | rfl | rfl | rfl | rfl | rfl | rfl | rfl | rfl | rfl | rfl | rfl | rfl | rfl | rfl
  · exact alike_no ⟨fun h => by kernel_rfl, fun h => by kernel_rfl⟩
  · exact alike_no ⟨fun h => by kernel_rfl, fun h => by kernel_rfl⟩
  · exact alike_f f (by omega)
  · exact alike_no ⟨fun h => by kernel_rfl, fun h => by kernel_rfl⟩
  · exact alike_f _ (by rw [cells_app, List.length_append]; simp [cells] at few ⊢; omega)
  · exact alike_f _ (by rw [cells_app, List.length_append]; simp [cells] at few ⊢; omega)
  · refine alike_f _ (Nat.le_trans (cells_rows (b := 7) fun r hr => ?_) (by rw [List.length_map]; omega))
    obtain ⟨q, hq, rfl⟩ := List.mem_map.mp hr
    have := l6 q hq
    simp; omega
  · exact alike_no ⟨fun h => by kernel_rfl, fun h => by kernel_rfl⟩
  · refine alike_f _ (Nat.le_trans (cells_rows (b := 7) fun r hr => ?_) (by simp; omega))
    rcases List.mem_append.mp hr with hr | hr
    · have := l6 r (List.mem_of_mem_take hr); omega
    · rw [List.mem_singleton.mp hr]; simp; omega
  · refine alike_f _ (Nat.le_trans (cells_rows (b := 7) fun r hr => ?_) (by rw [List.length_map]; omega))
    obtain ⟨q, hq, rfl⟩ := List.mem_map.mp hr
    have := l6 q hq
    simp; omega
  all_goals exact alike_no ⟨fun h => by kernel_rfl, fun h => by kernel_rfl⟩
theorem rp_h {X : List D} (h : ∀ d ∈ X, Rk 59 1000 d) (hl : X.length ≤ 100) : bi .repr [.lst X] = some (.rep (.lst X)) ∧ cmp .ne (.rep (.lst X)) (.rep (.lst X)) = some (.bl false) := by
  have r : Rk 60 300000 (.lst X) := rk_lst h (by omega)
  exact ⟨rp_lst r (by omega), ne_rr r⟩

/-! ### the turn -/
abbrev BV : Ss := bodyAt f_law_right.body [0, 14]
theorem odd_loop (n : Nat) (h : Hq) {f : List (List Int)} {w : Nat} {m : Int} (v : Flo f w m) (d : D) (s2 s3 s4 s5 s6 s7 s8 s10 s11 : Sl) :
    ∃ t10 t11, forF (exSs (callF tab.G 100 18) 100 BV) (.nm 10) (odd6 f) [.fz (.cell n), .fz d, s2, s3, s4, s5, s6, s7, s8, .fz (.lst (odd6 f)), s10, s11, .no, .no] h = .ok (.nx [.fz (.cell n), .fz d, s2, s3, s4, s5, s6, s7, s8, .fz (.lst (odd6 f)), t10, t11, .no, .no]) h := by
  have al := alike_all v
  generalize odd6 f = L at al ⊢
  obtain ⟨t, h', e, rfl⟩ := forF_all (f := exSs (callF tab.G 100 18) 100 BV) (tg := .nm 10) (inj := id) (fun hh => hh = h) (fun s : Sl × Sl => [.fz (.cell n), .fz d, s2, s3, s4, s5, s6, s7, s8, .fz (.lst L), s.1, s.2, .no, .no]) L (s10, s11) h rfl fun x hx s hh e => by
    subst e
    obtain ⟨b, b1, b2⟩ := al x hx
    have c1 := b1 hh
    have c2 := b2 hh
    rw [C] at c1 c2
    have r1 : bi .repr [.lst [.bl b, .bl b]] = some (.rep (.lst [.bl b, .bl b])) := by cases b <;> kernel_rfl
    have r2 : cmp .ne (.rep (.lst [.bl b, .bl b])) (.rep (.lst [.bl b, .bl b])) = some (.bl false) := by cases b <;> kernel_rfl
    have x0 : exS (callF tab.G 100 18) 100 (BV.nth 0) [.fz (.cell n), .fz d, s2, s3, s4, s5, s6, s7, s8, .fz (.lst L), .fz x, s.2, .no, .no] hh = .ok (.nx [.fz (.cell n), .fz d, s2, s3, s4, s5, s6, s7, s8, .fz (.lst L), .fz x, .fz (.bl b), .no, .no]) hh := by
      simp [f_law_right, bodyAt, Ss.nth, S.sub, c1]
    have p1 : ([0] : List Nat).mapM (fun j => ([x] : List D)[j]?) = some [x] := rfl
    have x1 : exS (callF tab.G 100 18) 100 (BV.nth 1) [.fz (.cell n), .fz d, s2, s3, s4, s5, s6, s7, s8, .fz (.lst L), .fz x, .fz (.bl b), .no, .no] hh = .ok (.nx [.fz (.cell n), .fz d, s2, s3, s4, s5, s6, s7, s8, .fz (.lst L), .fz x, .fz (.bl b), .no, .no]) hh := by
      simp [f_law_right, bodyAt, Ss.nth, S.sub, c2, p1, r1, r2]
    exact ⟨_, (.fz x, .fz (.bl b)), hh, rfl, go0 (go x0 (by decide) (go x1 (by decide) (go_nil rfl))), rfl⟩
  rw [List.map_id] at e
  exact ⟨_, _, e⟩
theorem turn (n : Nat) (h : Hq) (u : UO h n) (d : D) (s2 s3 s4 s5 s6 s7 s8 s9 s10 s11 : Sl) : ∃ t2 t3 t4 t5 t6 t7 t8 t9 t10 t11 h', exSs (callF tab.G 100 18) 100 B82 [.fz (.cell n), .fz d, s2, s3, s4, s5, s6, s7, s8, s9, s10, s11, .no, .no] h = .ok (.nx [.fz (.cell n), .fz d, t2, t3, t4, t5, t6, t7, t8, t9, t10, t11, .no, .no]) h' ∧ UO h' n := by
  obtain ⟨f, w, m, h1, e1, v, u1⟩ := t_floor 16 n h u
  have e2 := t_sizes 17 v h1
  have e3 := c_floor_lengths 14 v h1
  obtain ⟨r, h2, e4, r0, r6, u2, _⟩ := t_take 17 n 6 h1 u1 (by omega) (by omega)
  obtain ⟨c, h3, e5, c0, c4, u3, _⟩ := t_take 17 n 4 h2 u2 (by omega) (by omega)
  obtain ⟨o, t, ko, kt, f1, f2, x4'⟩ := f_rc r c ⟨r0, r6⟩ ⟨c0, c4⟩
  have a1 := f1 h3
  have a2 := f2 h3
  rw [C] at e1 e2 e3 e4 e5 a1 a2
  have kz : Rk 59 1000 (sD (siz f m)) := rk_tup (w := 30) (rk_ints fun x hx => by
    obtain ⟨j, _, rfl⟩ := List.mem_map.mp hx
    have := v.cnt (j : Int)
    omega) (by
    unfold siz
    rw [List.length_map, List.length_map, List.length_range]
    have := v.m0
    omega)
  obtain ⟨p1, q1⟩ := rp_h (X := [sD (siz f m), sD (siz f m)]) (rks_cons kz (rks_cons kz rks_nil)) (by simp)
  obtain ⟨p2, q2⟩ := rp_h (X := [o, o, t, t]) (rks_cons (rk_of ko) (rks_cons (rk_of ko) (rks_cons (rk_of kt) (rks_cons (rk_of kt) rks_nil)))) (by simp)
  have fr := v.rows
  have z := ix0 fr.1
  have cw := v.cols
  have hl : (hdR f).length ≤ 6 := by
    match f, v with
    | [], _ => show 0 ≤ 6; omega
    | r :: g, v => rw [show hdR (r :: g) = r from rfl, v.len r List.mem_cons_self]; exact v.cols.2
  have b1 : bi .list [fD f] = some (.lst (f.map sD)) := rfl
  have b2 : bin .add (fD f) (.tup [.tup []]) = some (fD (f ++ [[]])) := add_f f [[]] (by simp; omega)
  have b3 : bin .add (fD f) (.tup [sD (hdR f)]) = some (fD (f ++ [hdR f])) := add_f f [hdR f] (by simp; omega)
  have b4 : bin .add (sD (hdR f)) (.tup [.int 0]) = some (sD (hdR f ++ [0])) := add_s (hdR f) [0] (by simp; omega)
  have b5 : bin .add (fD (f.take 1)) (.tup [sD (hdR f ++ [0])]) = some (fD (f.take 1 ++ [hdR f ++ [0]])) := add_f (f.take 1) [hdR f ++ [0]] (by simp; omega)
  have ct := cut_1 f
  have it : itOf (fD f) = some (f.map sD) := rfl
  have fl : f.length ≤ 16777216 := by omega
  have lc1 : ∀ ρ : Env, ρ.length = 14 → lcF (evE (callF tab.G 100 18) (.bin .add (.var 13) (.tup (.cons (.int 0) .nil)))) (fun _ h => .ok (.bl true) h) (.nm 13) ρ (f.map sD) h3 = .ok (f.map fun r => sD (r ++ [0])) h3 := by
    intro ρ hρ
    refine lc_nm fun r hr => ?_
    have a : bin .add (sD r) (.tup [.int 0]) = some (sD (r ++ [0])) := add_s r [0] (by rw [v.len r hr]; simp; omega)
    have g : (ρ.set 13 (.fz (sD r)))[13]? = some (.fz (sD r)) := List.getElem?_set_self (by omega)
    simp [g, a]
  have lc2 : ∀ ρ : Env, ρ.length = 14 → lcF (evE (callF tab.G 100 18) (.bin .add (.slb (.var 13) (.neg (.int 1))) (.tup (.cons (.int 9) .nil)))) (fun _ h => .ok (.bl true) h) (.nm 13) ρ (f.map sD) h3 = .ok (f.map fun r => sD (r.dropLast ++ [9])) h3 := by
    intro ρ hρ
    refine lc_nm fun r hr => ?_
    have a : bin .add (sD r.dropLast) (.tup [.int 9]) = some (sD (r.dropLast ++ [9])) := add_s r.dropLast [9] (by have := v.len r hr; simp; omega)
    have g : (ρ.set 13 (.fz (sD r)))[13]? = some (.fz (sD r)) := List.getElem?_set_self (by omega)
    have cl := cut_last r
    simp [g, a, cl]
  have fm1 : D.tup (f.map fun r => sD (r ++ [0])) = fD (f.map fun r => r ++ [0]) := by unfold fD; rw [List.map_map]; rfl
  have fm2 : D.tup (f.map fun r => sD (r.dropLast ++ [9])) = fD (f.map fun r => r.dropLast ++ [9]) := by unfold fD; rw [List.map_map]; rfl
  have m5 : bin .mul (.tup [.int 0]) (.int 5) = some z5 := rfl
  have m55 : bin .mul (.tup [z5]) (.int 5) = some (.tup [z5, z5, z5, z5, z5]) := rfl
  have m4 : bin .mul (.tup [.int 0]) (.int 4) = some z4 := rfl
  have m46 : bin .mul (.tup [z4]) (.int 6) = some (.tup [z4, z4, z4, z4, z4, z4]) := rfl
  have m7 : bin .mul (.tup [.int 0]) (.int 7) = some z7 := rfl
  obtain ⟨t10, t11, lo⟩ := odd_loop n h3 v d (.fz (fD f)) (.fz (sD (siz f m))) (.fz (.int (1 + r))) (.fz (.int (1 + c))) (.fz o) (.fz t) (.fz (.lst [o, o, t, t])) s10 s11
  let cf := callF tab.G 100 18
  have x0 : exS cf 100 (B82.nth 0) [.fz (.cell n), .fz d, s2, s3, s4, s5, s6, s7, s8, s9, s10, s11, .no, .no] h = .ok (.nx [.fz (.cell n), .fz d, .fz (fD f), s3, s4, s5, s6, s7, s8, s9, s10, s11, .no, .no]) h1 := by
    simp [cf, f_law_right, bodyAt, Ss.nth, S.sub, e1]
  have x1 : exS cf 100 (B82.nth 1) [.fz (.cell n), .fz d, .fz (fD f), s3, s4, s5, s6, s7, s8, s9, s10, s11, .no, .no] h1 = .ok (.nx [.fz (.cell n), .fz d, .fz (fD f), .fz (sD (siz f m)), s4, s5, s6, s7, s8, s9, s10, s11, .no, .no]) h1 := by
    simp [cf, f_law_right, bodyAt, Ss.nth, S.sub, e2]
  have x2 : exS cf 100 (B82.nth 2) [.fz (.cell n), .fz d, .fz (fD f), .fz (sD (siz f m)), s4, s5, s6, s7, s8, s9, s10, s11, .no, .no] h1 = .ok (.nx [.fz (.cell n), .fz d, .fz (fD f), .fz (sD (siz f m)), s4, s5, s6, s7, s8, s9, s10, s11, .no, .no]) h1 := by
    simp [cf, f_law_right, bodyAt, Ss.nth, S.sub, e3, p1, q1]
  have x3 : exS cf 100 (B82.nth 3) [.fz (.cell n), .fz d, .fz (fD f), .fz (sD (siz f m)), s4, s5, s6, s7, s8, s9, s10, s11, .no, .no] h1 = .ok (.nx [.fz (.cell n), .fz d, .fz (fD f), .fz (sD (siz f m)), .fz (.int (1 + r)), .fz (.int (1 + c)), s6, s7, s8, s9, s10, s11, .no, .no]) h3 := by
    simp [cf, f_law_right, bodyAt, Ss.nth, S.sub, e4, e5, bindTg]
  have x4 := x4' n d (.fz (fD f)) (.fz (sD (siz f m))) s6 s7 s8 s9 s10 s11 h3
  have x5 : exS cf 100 (B82.nth 5) [.fz (.cell n), .fz d, .fz (fD f), .fz (sD (siz f m)), .fz (.int (1 + r)), .fz (.int (1 + c)), .fz o, .fz t, s8, s9, s10, s11, .no, .no] h3 = .ok (.nx [.fz (.cell n), .fz d, .fz (fD f), .fz (sD (siz f m)), .fz (.int (1 + r)), .fz (.int (1 + c)), .fz o, .fz t, .fz (.lst [o, o]), s9, s10, s11, .no, .no]) h3 := by
    simp [cf, f_law_right, bodyAt, Ss.nth, S.sub, a1]
  have x6 : exS cf 100 (B82.nth 6) [.fz (.cell n), .fz d, .fz (fD f), .fz (sD (siz f m)), .fz (.int (1 + r)), .fz (.int (1 + c)), .fz o, .fz t, .fz (.lst [o, o]), s9, s10, s11, .no, .no] h3 = .ok (.nx [.fz (.cell n), .fz d, .fz (fD f), .fz (sD (siz f m)), .fz (.int (1 + r)), .fz (.int (1 + c)), .fz o, .fz t, .fz (.lst [o, o, t, t]), s9, s10, s11, .no, .no]) h3 := by
    simp [cf, f_law_right, bodyAt, Ss.nth, S.sub, a2]
  have x7 : exS cf 100 (B82.nth 7) [.fz (.cell n), .fz d, .fz (fD f), .fz (sD (siz f m)), .fz (.int (1 + r)), .fz (.int (1 + c)), .fz o, .fz t, .fz (.lst [o, o, t, t]), s9, s10, s11, .no, .no] h3 = .ok (.nx [.fz (.cell n), .fz d, .fz (fD f), .fz (sD (siz f m)), .fz (.int (1 + r)), .fz (.int (1 + c)), .fz o, .fz t, .fz (.lst [o, o, t, t]), s9, s10, s11, .no, .no]) h3 := by
    simp [cf, f_law_right, bodyAt, Ss.nth, S.sub, p2, q2]
  let E9 : Sl → Env := fun s => [.fz (.cell n), .fz d, .fz (fD f), .fz (sD (siz f m)), .fz (.int (1 + r)), .fz (.int (1 + c)), .fz o, .fz t, .fz (.lst [o, o, t, t]), s, s10, s11, .no, .no]
  have y1 : exS cf 100 (B82.nth 8) (E9 s9) h3 = .ok (.nx (E9 (.fz (.lst (odd1 f))))) h3 := by
    simp [E9, cf, f_law_right, bodyAt, Ss.nth, S.sub, b1, b2, b3, z, odd1]
  have y2 : exS cf 100 (B82.nth 9) (E9 (.fz (.lst (odd1 f)))) h3 = .ok (.nx (E9 (.fz (.lst (odd2 f))))) h3 := by
    have l := lc1 [.fz (.cell n), .fz d, .fz (fD f), .fz (sD (siz f m)), .fz (.int (1 + r)), .fz (.int (1 + c)), .fz o, .fz t, .fz (.lst [o, o, t, t]), .fz (.lst (odd1 f)), s10, s11, .no, .no] rfl
    simp only [odd1] at l
    simp [E9, cf, f_law_right, bodyAt, Ss.nth, S.sub, Tg.slots, wipeE, it, fl, l, fm1, odd2, odd1]
  have y3 : exS cf 100 (B82.nth 10) (E9 (.fz (.lst (odd2 f)))) h3 = .ok (.nx (E9 (.fz (.lst (odd3 f))))) h3 := by
    have l := lc2 [.fz (.cell n), .fz d, .fz (fD f), .fz (sD (siz f m)), .fz (.int (1 + r)), .fz (.int (1 + c)), .fz o, .fz t, .fz (.lst [o, o, t, t]), .fz (.lst (odd2 f)), s10, s11, .no, .no] rfl
    simp only [odd2, odd1, List.cons_append, List.nil_append] at l
    simp [E9, cf, f_law_right, bodyAt, Ss.nth, S.sub, Tg.slots, wipeE, it, fl, l, fm2, z, ct, b4, b5, odd3, odd2, odd1]
  have y4 : exS cf 100 (B82.nth 11) (E9 (.fz (.lst (odd3 f)))) h3 = .ok (.nx (E9 (.fz (.lst (odd4 f))))) h3 := by
    simp [E9, cf, f_law_right, bodyAt, Ss.nth, S.sub, odd4, odd3, odd2, odd1]
  have y5 : exS cf 100 (B82.nth 12) (E9 (.fz (.lst (odd4 f)))) h3 = .ok (.nx (E9 (.fz (.lst (odd5 f))))) h3 := by
    simp [E9, cf, f_law_right, bodyAt, Ss.nth, S.sub, m5, m55, m4, m46, m7, odd5, odd4, odd3, odd2, odd1]
  have y6 : exS cf 100 (B82.nth 13) (E9 (.fz (.lst (odd5 f)))) h3 = .ok (.nx (E9 (.fz (.lst (odd6 f))))) h3 := by
    simp [E9, cf, f_law_right, bodyAt, Ss.nth, S.sub, odd6, odd5, odd4, odd3, odd2, odd1]
  have y7 : exS cf 100 (B82.nth 14) (E9 (.fz (.lst (odd6 f)))) h3 = .ok (.nx [.fz (.cell n), .fz d, .fz (fD f), .fz (sD (siz f m)), .fz (.int (1 + r)), .fz (.int (1 + c)), .fz o, .fz t, .fz (.lst [o, o, t, t]), .fz (.lst (odd6 f)), t10, t11, .no, .no]) h3 := by
    have iv : itOf (.lst (odd6 f)) = some (odd6 f) := rfl
    simp only [BV, bodyAt, Ss.nth, S.sub, f_law_right] at lo
    simp [E9, cf, f_law_right, bodyAt, Ss.nth, S.sub, iv, lo]
  exact ⟨_, _, _, _, _, _, _, _, _, _, h3, go0 (go x0 (by decide) (go x1 (by decide) (go x2 (by decide) (go x3 (by decide) (go x4 (by decide) (go x5 (by decide) (go x6 (by decide) (go x7 (by decide) (go y1 (by decide) (go y2 (by decide) (go y3 (by decide) (go y4 (by decide) (go y5 (by decide) (go y6 (by decide) (go y7 (by decide) (go_nil rfl)))))))))))))))), u3⟩
theorem right_ok (h : Hq) (n : Nat) (u : UO h n) : ∃ h', C 19 1005 [.cell n] h = .ok (.bl true) h' := by
  have loop := forF_inv (f := exSs (callF tab.G 100 18) 100 B82) (tg := .nm 1) (fun _ ρ h => UO h n ∧ ∃ s1 s2 s3 s4 s5 s6 s7 s8 s9 s10 s11 : Sl, ρ = [.fz (.cell n), s1, s2, s3, s4, s5, s6, s7, s8, s9, s10, s11, .no, .no]) (range1 4) 0 [.fz (.cell n), .no, .no, .no, .no, .no, .no, .no, .no, .no, .no, .no, .no, .no] h
    ⟨u, _, _, _, _, _, _, _, _, _, _, _, rfl⟩ fun i d ρ h _ ⟨u, s1, s2, s3, s4, s5, s6, s7, s8, s9, s10, s11, hρ⟩ => by
      subst hρ
      obtain ⟨t2, t3, t4, t5, t6, t7, t8, t9, t10, t11, h', e, u'⟩ := turn n h u d s2 s3 s4 s5 s6 s7 s8 s9 s10 s11
      exact ⟨_, _, h', rfl, e, u', _, _, _, _, _, _, _, _, _, _, _, rfl⟩
  obtain ⟨ρ, hh, e, u', s1, s2, s3, s4, s5, s6, s7, s8, s9, s10, s11, rfl⟩ := loop
  refine ⟨hh, ?_⟩
  simp only [B82, bodyAt, Ss.nth, S.sub, f_law_right] at e
  rw [C, callF_eq (f := f_law_right) rfl rfl]
  simp [f_law_right, okR, e]
theorem law82 (ns : List Int) : ∃ h, callF tab.G 100 20 1006 [.frl (ns.map .int)] [] = .ok (.bl true) h := law_of 18 right_ok ns

end Mn
/-! ### the law -/
open PySem PySem.W PySem.Calls PyProof.Rows
theorem PySem.Challenge.cw_shadestrings_k82_whole_floors_holds : PySem.Challenge.rw_shadestrings_k82_whole_floors.Holds := by
  w_on; o_law
  refine HandSHeadRun.head_any (r := Hd.R) (q := view Hd.R.prog [32]) (H := Hd.hook) (ob := Hd.seen) (M := 4000) (loose := Hd.loose) (d := HandSHeadRun.topDef Hd.R.prog 32) (kwd := []) Hd.seen_eq
    (by kernel_rfl) (fun s => by kernel_rfl) Hd.runs (by kernel_rfl) (by kernel_rfl) (by kernel_rfl) (by rfl) (by first | assumption | decide +kernel) (by decide +kernel) ⟨rfl, rfl, rfl, rfl, rfl, by decide +kernel⟩ ?hw ?hc
  case hw => w_witness2
  case hc =>
    exact Mn.walk_tab (l := PySem.Challenge.rw_shadestrings_k82_whole_floors) (n := 63) (k := 20) (wf := 100) (nl := 1006) (x := "script") (t := Mn.tab) (gi := Mn.gil) (fr := Hd.frl) (cls := Hd.cls) (hr := Hd.hrd) (tf := Hd.tfl) (facts := Hd.fal) (fns := Hd.fnl) (el := ⟨Hd.df 32 "law", Mn.f_law, ["script", "lap"]⟩)
      rfl (by decide) (by kernel_rfl) ⟨rfl, by decide, by decide⟩ (by rfl) (by kernel_rfl) (by kernel_rfl) (by decide +kernel) (by rfl) (by rfl) (fun p hp => List.all_eq_true.mp Mn.tab_ok p hp) (by decide +kernel) (fun ns _ _ => Mn.law82 ns)
