import PyProof.Rows.All
import HandS.ForMost
import HandS.TupMul
import HandS.Style
import HandS.TupAny
import HandS.IsInst
import KE.DataMinMax
import KE.SortData
import KE.DatumOrd
import HandS.Deep
import HandS.SortInts
import HandS.More
import HandS.Conv
import HandS.TupLen
import KE.KTupSum
import HandS.Words
import HandS.Defaults
import HandS.Comp
import HandS.Text
import HandS.Iter
import HandS.Zip
import KE.GoesEnum
import HandS.SetFor
import HandS.Small
import HandS.Set
import HandS.TupSets
import HandS.Base
import HandS.Sort
import KE.KIndexOf
import HandS.Head0
import HandS.Head1
import HandS.Head2
import HandS.HeadEnd
import HandS.HeadHook1
import HandS.HeadHook2
import KE.KStateDown
import KE.KItemsList
import HandS.MapObj
import HandS.IterVal
import PySem.Challenge.RW_toolslent_k04_dealings_that_none_blocks
set_option Elab.async false
set_option linter.all false
set_option maxRecDepth 100000
set_option maxHeartbeats 4000000
/-! MP core: a small pure language (values as trees, mutable locals by ownership, shared dicts by a store) and its evaluator. -/
namespace MP
open PySem

inductive PV where
  | non | bl (b : Bool) | int (i : Int) | str (s : Str)
  | tup (xs : List PV) | lst (xs : List PV) | dct (t : Nat) (kvs : List (PV × PV)) | shr (i : Nat)
  | scr (ns : List Int)   -- the law's script
  | lck (x : PV)          -- a shared dict while it is walked
  deriving Inhabited

abbrev LIM : Nat := 1000000

/-! ### equality, order -/
mutual
def peq : PV → PV → Bool
  | .non, .non => true
  | .bl a, .bl b => a == b
  | .bl a, .int j => (if a then 1 else 0) == j
  | .int i, .bl b => i == (if b then 1 else 0)
  | .int i, .int j => i == j
  | .str x, .str y => x == y
  | .lst xs, .lst ys => peqs xs ys
  | .tup xs, .tup ys => peqs xs ys
  | _, _ => false
def peqs : List PV → List PV → Bool
  | [], [] => true
  | x :: xs, y :: ys => peq x y && peqs xs ys
  | _, _ => false
end
/-- data of depth at most n, no dicts -/
def shp : Nat → PV → Bool
  | _, .non | _, .bl _ | _, .int _ => true
  | _, .str s => PySem.PyData.strOk s
  | n + 1, .tup xs => xs.all (shp n)
  | n + 1, .lst xs => xs.all (shp n)
  | _, _ => false
abbrev DEP : Nat := 20
def pEq (x y : PV) : Option Bool := if shp DEP x && shp DEP y then some (peq x y) else none

mutual
def plt : PV → PV → Bool
  | .int a, .int b => decide (a < b)
  | .str a, .str b => decide (a.cps.toList < b.cps.toList)
  | .tup xs, .tup ys => pltL xs ys
  | .lst xs, .lst ys => pltL xs ys
  | _, _ => false
def pltL : List PV → List PV → Bool
  | [], [] => false
  | [], _ :: _ => true
  | _ :: _, [] => false
  | x :: xs, y :: ys => if peq x y then pltL xs ys else plt x y
end
mutual
/-- the order between them is served -/
def cmpOk : PV → PV → Bool
  | .int _, .int _ => true
  | .str _, .str _ => true
  | .tup xs, .tup ys => cmpOkL xs ys
  | .lst xs, .lst ys => cmpOkL xs ys
  | _, _ => false
def cmpOkL : List PV → List PV → Bool
  | x :: xs, y :: ys => cmpOk x y && cmpOkL xs ys
  | _, _ => true
end
def pLt (x y : PV) : Option Bool := if shp DEP x && shp DEP y && cmpOk x y then some (plt x y) else none

def ordOk (xs : List PV) : Bool := xs.all fun x => shp DEP x && xs.all fun y => cmpOk x y
def minL (x : PV) (xs : List PV) : PV := xs.foldl (fun a y => if plt y a then y else a) x
def maxL (x : PV) (xs : List PV) : PV := xs.foldl (fun a y => if plt a y then y else a) x
def pMin : List PV → Option PV
  | [] => none
  | x :: xs => if ordOk (x :: xs) then some (minL x xs) else none
def pMax : List PV → Option PV
  | [] => none
  | x :: xs => if ordOk (x :: xs) then some (maxL x xs) else none
def neTup : PV → Bool
  | .tup (_ :: _) => true
  | _ => false
def isTup : PV → Bool
  | .tup _ => true
  | _ => false
def srtOk (xs : List PV) : Bool := xs.all neTup || xs.all fun x => !isTup x
def pSort (xs : List PV) : Option (List PV) := if ordOk xs && srtOk xs then some (xs.mergeSort fun a b => !plt b a) else none

/-! ### dicts -/
def dGet (k : PV) : List (PV × PV) → Option PV
  | [] => none
  | p :: r => if peq p.1 k then some p.2 else dGet k r
def dPut (k v : PV) (kvs : List (PV × PV)) : List (PV × PV) :=
  if (kvs.any fun p => peq p.1 k) = true then kvs.map (fun p => if peq p.1 k = true then (p.1, v) else p) else kvs ++ [(k, v)]
def dMerge : List (PV × PV) → List (PV × PV) → List (PV × PV)
  | acc, [] => acc
  | acc, p :: r => dMerge (dPut p.1 p.2 acc) r
def isKey1 : PV → Bool
  | .int _ => true
  | .str _ => true
  | _ => false
/-- keys of a dict of kind 0: ints, texts; of kind 1: tuples of these -/
def isKey (t : Nat) : PV → Bool
  | .int _ => t == 0
  | .str _ => t == 0
  | .tup _ => false
  | _ => false
def pairOf : PV → Option (PV × PV)
  | .tup [k, v] => some (k, v)
  | _ => none

/-! ### operations -/
inductive Bo where
  | add | sub | mul | div | mod | pow | shr | shl | band
  | cat | rep   -- of lists alone: a new list
inductive Co where
  | eq | ne | lt | le | gt | ge | is_ | isn | in_ | nin
inductive Bi where
  | len | abs | min | max | sum | sorted | tuple | list | dict | dictT | int | all | any | setLen | sortedSet | tupRange | listRange | tupX
inductive Ty where
  | tint | tbool | ttup | tstr | tlst | tdct

def two64 : Int := 18446744073709551616
def pBin : Bo → PV → PV → Option PV
  | .add, .int a, .int b => some (.int (a + b))
  | .add, .str a, .str b => if a.length + b.length ≤ LIM then some (.str (a ++ b)) else none
  | .add, .lst a, .lst b => if a.length + b.length ≤ LIM then some (.lst (a ++ b)) else none
  | .add, .tup a, .tup b => if a.length + b.length ≤ LIM then some (.tup (a ++ b)) else none
  | .sub, .int a, .int b => some (.int (a - b))
  | .mul, .int a, .int b => if (-two64 < a ∧ a < two64) ∨ (-two64 < b ∧ b < two64) then some (.int (a * b)) else none
  | .mul, .lst a, .int k => if a.length * k.toNat ≤ LIM ∧ k ≤ LIM ∧ -LIM ≤ k then some (.lst (List.replicate k.toNat a).flatten) else none
  | .mul, .tup a, .int k => if a.length ≠ 0 ∧ 1 ≤ k ∧ k ≤ 1000 ∧ a.length ≤ 1000 then some (.tup (List.replicate k.toNat a).flatten) else none
  | .div, .int a, .int b => if b ≠ 0 ∧ b.natAbs < 1073741824 then some (.int (a.fdiv b)) else none
  | .mod, .int a, .int b => if b ≠ 0 then some (.int (a.fmod b)) else none
  | .pow, .int a, .int b => if 0 ≤ b ∧ b ≤ 1000 ∧ a.natAbs < 1000000 then some (.int (a ^ b.toNat)) else none
  | .shl, .int a, .int b => if 0 ≤ b ∧ b ≤ 1000 ∧ a.natAbs < 1000000 then some (.int (a * 2 ^ b.toNat)) else none
  | .shr, .int a, .int b => if 0 ≤ b then some (.int (a / 2 ^ b.toNat)) else none
  | .band, .int a, .int b => some (.int (Builtin.bitAnd a b))
  | .cat, .lst a, .lst b => if a.length + b.length ≤ LIM then some (.lst (a ++ b)) else none
  | .rep, .lst a, .int k => if a.length * k.toNat ≤ LIM ∧ k ≤ LIM ∧ -LIM ≤ k then some (.lst (List.replicate k.toNat a).flatten) else none
  | _, _, _ => none
/-- x op= y -/
def pIp : Bo → PV → PV → Option PV
  | .add, .int a, .int b => some (.int (a + b))
  | .sub, .int a, .int b => some (.int (a - b))
  | _, _, _ => none
/-- in a list, a tuple, a dict, a text -/
def pIn : PV → PV → Option Bool
  | x, .lst ys => if shp DEP x && ys.all (shp DEP) then some (ys.any fun y => peq y x) else none
  | x, .tup ys => if shp DEP x && ys.all (shp DEP) then some (ys.any fun y => peq y x) else none
  | x, .dct t kvs => if isKey t x then some (dGet x kvs).isSome else none
  | .str a, .str b => if a.length = 1 then some (decide (a.cps.toList.headD 0 ∈ b.cps.toList)) else none
  | _, _ => none
def isNon : PV → Bool
  | .non => true
  | _ => false
def pCmp : Co → PV → PV → Option Bool
  | .eq, x, y => pEq x y
  | .ne, x, y => (pEq x y).map (!·)
  | .lt, x, y => pLt x y
  | .gt, x, y => pLt y x
  | .le, .int a, .int b => some (decide (a ≤ b))
  | .ge, .int a, .int b => some (decide (b ≤ a))
  | .le, .str a, .str b => some (!decide (b.cps.toList < a.cps.toList))
  | .ge, .str a, .str b => some (!decide (a.cps.toList < b.cps.toList))
  | .is_, x, .non => some (isNon x)
  | .isn, x, .non => some (!isNon x)
  | .in_, x, y => pIn x y
  | .nin, x, y => (pIn x y).map (!·)
  | _, _, _ => none
def pNeg : PV → Option PV
  | .int a => some (.int (-a))
  | _ => none
def ixN (n : Nat) (i : Int) : Option Nat := if 0 ≤ i then (if i < n then some i.toNat else none) else if -(n : Int) ≤ i then some (i + n).toNat else none
def pIdx : PV → PV → Option PV
  | .lst xs, .int i => (ixN xs.length i).bind fun j => xs[j]?
  | .scr ns, .int i => (ixN ns.length i).bind fun j => (ns[j]?).map .int
  | .tup xs, .int i => (ixN xs.length i).bind fun j => xs[j]?
  | .str s, .int i => if s.length ≤ LIM then (ixN s.length i).bind fun j => (s.cps.toList[j]?).map fun c => .str ⟨#[c]⟩ else none
  | .dct t kvs, k => if isKey t k then dGet k kvs else none
  | _, _ => none
/-- slice bounds -/
def cutN (n d : Nat) : Option Int → Nat
  | none => d
  | some i => if i < 0 then (i + n).toNat else min i.toNat n
def cutL {α : Type} (xs : List α) (lo hi : Option Int) : List α := (xs.drop (cutN xs.length 0 lo)).take (cutN xs.length xs.length hi - cutN xs.length 0 lo)
def pCut : PV → Option Int → Option Int → Option PV
  | .lst xs, lo, hi => some (.lst (cutL xs lo hi))
  | .tup xs, lo, hi => some (.tup (cutL xs lo hi))
  | .str s, lo, hi => if s.length ≤ LIM then some (.str ⟨(cutL s.cps.toList lo hi).toArray⟩) else none
  | _, _, _ => none
def pRev : PV → Option PV
  | .lst xs => some (.lst xs.reverse)
  | .tup xs => some (.tup xs.reverse)
  | _ => none
def seqOf : PV → Option (List PV)
  | .lst xs => some xs
  | .tup xs => some xs
  | _ => none
def intOf : PV → Option Int
  | .int i => some i
  | _ => none
def blOf : PV → Option Bool
  | .bl b => some b
  | _ => none
def mapO {α β : Type} (f : α → Option β) : List α → Option (List β)
  | [] => some []
  | x :: xs => (f x).bind fun y => (mapO f xs).bind fun ys => some (y :: ys)
/-- the ints without doubles, in order -/
def insU (x : Int) : List Int → List Int
  | [] => [x]
  | y :: r => if x < y then x :: y :: r else if x = y then y :: r else y :: insU x r
def sset (ns : List Int) : List Int := ns.foldr insU []
/-- without doubles, the first of each -/
def dedup : List PV → List PV → List PV
  | acc, [] => acc
  | acc, x :: xs => if acc.any (fun y => peq y x) then dedup acc xs else dedup (acc ++ [x]) xs
def pBi : Bi → List PV → Option PV
  | .len, [.lst xs] => some (.int xs.length)
  | .len, [.tup xs] => some (.int xs.length)
  | .len, [.scr ns] => some (.int ns.length)
  | .len, [.str s] => if s.length ≤ LIM then some (.int s.length) else none
  | .len, [.dct _ kvs] => some (.int kvs.length)
  | .abs, [.int i] => some (.int (if i < 0 then -i else i))
  | .min, [.lst xs] => pMin xs
  | .min, [.tup xs] => pMin xs
  | .min, [.int i, .int j] => some (.int (if j < i then j else i))
  | .max, [.lst xs] => pMax xs
  | .max, [.tup xs] => pMax xs
  | .max, [.int i, .int j] => some (.int (if j > i then j else i))
  | .sum, [x] => (seqOf x).bind fun xs => (mapO intOf xs).map fun ns => .int ns.sum
  | .sorted, [.lst xs] => (pSort xs).map .lst
  | .sorted, [.tup xs] => (pSort xs).map .lst
  | .sorted, [.dct 0 kvs] => (pSort (kvs.map (·.1))).map .lst
  | .sortedSet, [x] => (seqOf x).bind fun xs => (mapO intOf xs).bind fun ns => if ns.length ≤ 4000 ∧ (sset ns).length < 64 then some (.lst ((sset ns).map .int)) else none
  | .setLen, [x] => (seqOf x).bind fun xs => (mapO intOf xs).bind fun ns => if ns.length ≤ 4000 ∧ (sset ns).length < 64 then some (.int (sset ns).length) else none
  | .tuple, [x] => (seqOf x).map .tup
  | .tupX, [.lst xs] => some (.lck (.tup xs))
  | .list, [.dct 0 kvs] => some (.lst (kvs.map (·.1)))
  | .list, [.lst xs] => some (.lst xs)
  | .list, [.tup xs] => some (.lst xs)
  | .dict, [.dct 0 kvs] => some (.dct 0 kvs)
  | .dict, [.lst xs] => (mapO pairOf xs).bind fun ps => if ps.all fun p => isKey 0 p.1 then some (.dct 0 (dMerge [] ps)) else none
  | .dictT, [.lst xs] => (mapO pairOf xs).bind fun ps => if ps.all fun p => isKey 1 p.1 then some (.dct 1 (dMerge [] ps)) else none
  | .int, [.int i] => some (.int i)
  | .int, [.bl b] => some (.int (if b then 1 else 0))
  | .all, [.lst xs] => (mapO blOf xs).map fun bs => .bl (bs.all id)
  | .any, [.lst xs] => (mapO blOf xs).map fun bs => .bl (bs.any id)
  | .tupRange, [.int n] => if n ≤ LIM ∧ -LIM ≤ n then some (.tup ((List.range n.toNat).map fun (k : Nat) => .int k)) else none
  | .listRange, [.int n] => if n ≤ LIM ∧ -LIM ≤ n then some (.lst ((List.range n.toNat).map fun (k : Nat) => .int k)) else none
  | _, _ => none
def pIs : Ty → PV → Option Bool
  | _, .shr _ => none
  | _, .scr _ => none
  | _, .lck _ => none
  | .tint, .int _ => some true
  | .tint, .bl _ => some true
  | .tbool, .bl _ => some true
  | .ttup, .tup _ => some true
  | .tstr, .str _ => some true
  | .tlst, .lst _ => some true
  | .tdct, .dct _ _ => some true
  | _, _ => some false
def zipL (xs ys : List PV) : List PV := xs.zipWith (fun x y => .tup [x, y]) ys
inductive Me where
  | get1 | get2 | count | index | indexT | items | join | split | replace | tzip
def pMe : Me → PV → List PV → Option PV
  | .get1, .dct t kvs, [k] => if isKey t k then some ((dGet k kvs).getD .non) else none
  | .get2, .dct t kvs, [k, d] => if isKey t k then some ((dGet k kvs).getD d) else none
  | .count, .lst xs, [y] => if shp DEP y && xs.all (shp DEP) then some (.int (xs.filter fun x => peq x y).length) else none
  | .index, .lst xs, [.int y] => (mapO intOf xs).bind fun ns => if y ∈ ns then some (.int (ns.idxOf y)) else none
  | .indexT, .lck (.tup xs), [.int y] => (mapO intOf xs).bind fun ns => if y ∈ ns then some (.int (ns.idxOf y)) else none
  | .tzip, .lst xs, [.lst ys] => some (.tup (zipL xs ys))
  | .items, .dct _ kvs, [] => some (.lst (kvs.map fun p => .tup [p.1, p.2]))
  | _, _, _ => none

/-! ### the language -/
inductive Pat where
  | nm (i : Nat) | tp (ps : List Pat)
mutual
inductive CE where
  | var (i : Nat) | bor (i : Nat) | int (n : Int) | bl (b : Bool) | non | str (s : Str) | cst (x : Str) (s : Str)
  | tup (es : CEs) | lst (es : CEs) | dsp (t : Nat) (ps : CPs)
  | bin (op : Bo) (a b : CE) | neg (a : CE)
  | cmp (op : Co) (a b : CE) | chn (op op2 : Co) (a b c : CE)
  | and_ (es : CEs) | or_ (es : CEs) | not_ (a : CE) | ite (c a b : CE)
  | idx (a i : CE) | cut (a : CE) (lo hi : CEs) | rev (a : CE) | unx (a : CE)
  | call (g : Nat) (es : CEs) | bi (b : Bi) (es : CEs) | isi (t : Ty) (a : CE) | met (m : Me) (a : CE) (es : CEs) | inr (x a b : CE)
  | lc1 (own : List Nat) (elt : CE) (t : Pat) (it : CI) (cs : CEs)
  | lc2 (own : List Nat) (elt : CE) (t1 : Pat) (it1 : CI) (cs1 : CEs) (own2 : List Nat) (t2 : Pat) (it2 : CI) (cs2 : CEs)
inductive CEs where
  | nil | cons (e : CE) (es : CEs)
inductive CPs where
  | nil | cons (k v : CE) (r : CPs)
inductive CI where
  | over (e : CE) | rng1 (a : CE) | rng2 (a b : CE) | rng3 (a b c : CE) | enum (e : CE) | zip (a b : CE) | keys (i : Nat)
end

abbrev Envi := List (Option (Bool × PV))
abbrev DS := List PV
abbrev Fns := Nat → List PV → DS → Option (PV × DS)

def isLD : PV → Bool
  | .lst _ => true
  | .dct _ _ => true
  | _ => false
/-- a tuple whose object is known, as any tuple -/
def unx : PV → PV
  | .lck y => y
  | y => y
/-- an operand: a shared object is read -/
def opd (D : DS) : PV → Option PV
  | .shr j => (D[j]?).map fun x => match x with
    | .lck y => y
    | y => y
  | x => some x
def getS (ρ : Envi) (i : Nat) : Option PV := match ρ[i]? with
  | some (some (false, x)) => some x
  | _ => none
def borS (ρ : Envi) (i : Nat) : Option PV := match ρ[i]? with
  | some (some (_, x)) => some x
  | _ => none
def wipE (ρ : Envi) : List Nat → Envi
  | [] => ρ
  | v :: vs => (wipE ρ vs).set v none
mutual
def bindP : Pat → PV → Envi → Option Envi
  | .nm i, x, ρ => some (ρ.set i (some (false, x)))
  | .tp ps, .tup xs, ρ => bindPs ps xs ρ
  | .tp _, _, _ => none
def bindPs : List Pat → List PV → Envi → Option Envi
  | [], [], ρ => some ρ
  | p :: ps, x :: xs, ρ => (bindP p x ρ).bind fun ρ1 => bindPs ps xs ρ1
  | _, _, _ => none
end
/-- a comprehension's loop: each item gives a list -/
def lcF (f : PV → DS → Option (List PV × DS)) : List PV → DS → Option (List PV × DS)
  | [], D => some ([], D)
  | x :: xs, D => (f x D).bind fun r => (lcF f xs r.2).bind fun q => some (r.1 ++ q.1, q.2)
def chars (s : Str) : List PV := s.cps.toList.map fun c => .str ⟨#[c]⟩
def itOf : PV → Option (List PV)
  | .lst xs => some xs
  | .tup xs => some xs
  | .str s => if s.length ≤ LIM then some (chars s) else none
  | _ => none
/-- a dict's keys -/
def keysOf : PV → Option (List PV)
  | .dct 0 kvs => if kvs.length ≤ LIM then some (kvs.map (·.1)) else none
  | _ => none
def rngL (a b : Int) : List PV := (List.range (b - a).toNat).map fun (k : Nat) => .int (a + k)
def rngOk (a b : Int) : Bool := decide (-LIM ≤ a ∧ a ≤ LIM ∧ -LIM ≤ b ∧ b ≤ LIM)
/-- range(a, b, c), c not 0 -/
def rngN (a b c : Int) : Nat := if 0 < c then ((b - a + c - 1) / c).toNat else if c < 0 then ((a - b + (-c) - 1) / (-c)).toNat else 0
def rngC (a b c : Int) : List PV := (List.range (rngN a b c)).map fun (k : Nat) => .int (a + k * c)
def enumL (xs : List PV) : List PV := (List.range xs.length).zipWith (fun (k : Nat) x => .tup [.int k, x]) xs
def zipOf : PV → PV → Option (List PV)
  | .lst xs, .lst ys => some (zipL xs ys)
  | .tup xs, .tup ys => some (zipL xs ys)
  | .tup xs, .lst ys => some (zipL xs ys)
  | _, _ => none
mutual
def ev (Φ : Fns) : CE → Envi → DS → Option (PV × DS)
  | .var i, ρ, D => (getS ρ i).map fun x => (x, D)
  | .bor i, ρ, D => (borS ρ i).map fun x => (x, D)
  | .int n, _, D => some (.int n, D)
  | .bl b, _, D => some (.bl b, D)
  | .non, _, D => some (.non, D)
  | .str s, _, D => some (.str s, D)
  | .cst _ s, _, D => some (.str s, D)
  | .tup es, ρ, D => (evs Φ es ρ D).map fun r => (.tup r.1, r.2)
  | .lst es, ρ, D => (evs Φ es ρ D).map fun r => (.lst r.1, r.2)
  | .dsp t ps, ρ, D => (evd Φ ps ρ D).bind fun r => if (r.1.all fun p => isKey t p.1) then some (.dct t (dMerge [] r.1), r.2) else none
  | .bin op a b, ρ, D => (ev Φ a ρ D).bind fun r => (ev Φ b ρ r.2).bind fun q => (pBin op r.1 q.1).map fun z => (z, q.2)
  | .neg a, ρ, D => (ev Φ a ρ D).bind fun r => (pNeg r.1).map fun z => (z, r.2)
  | .cmp op a b, ρ, D => (ev Φ a ρ D).bind fun r => (ev Φ b ρ r.2).bind fun q => (opd q.2 q.1).bind fun o => (pCmp op r.1 o).map fun z => (.bl z, q.2)
  | .chn op op2 a b c, ρ, D => (ev Φ a ρ D).bind fun r => (ev Φ b ρ r.2).bind fun q => (pCmp op r.1 q.1).bind fun z => if z then (ev Φ c ρ q.2).bind fun t => (pCmp op2 q.1 t.1).map fun y => (.bl y, t.2) else some (.bl false, q.2)
  | .and_ es, ρ, D => evand Φ es ρ D
  | .or_ es, ρ, D => evor Φ es ρ D
  | .not_ a, ρ, D => (ev Φ a ρ D).bind fun r => (blOf r.1).map fun z => (.bl (!z), r.2)
  | .ite c a b, ρ, D => (ev Φ c ρ D).bind fun r => (blOf r.1).bind fun z => if z then ev Φ a ρ r.2 else ev Φ b ρ r.2
  | .idx a i, ρ, D => (ev Φ a ρ D).bind fun r => (ev Φ i ρ r.2).bind fun q => (opd q.2 r.1).bind fun o => (pIdx o q.1).map fun z => (z, q.2)
  | .cut a lo hi, ρ, D => (ev Φ a ρ D).bind fun r => (evo Φ lo ρ r.2).bind fun l => (evo Φ hi ρ l.2).bind fun h => (pCut r.1 l.1 h.1).map fun z => (z, h.2)
  | .unx a, ρ, D => (ev Φ a ρ D).map fun r => (unx r.1, r.2)
  | .rev a, ρ, D => (ev Φ a ρ D).bind fun r => (pRev r.1).map fun z => (z, r.2)
  | .call g es, ρ, D => (evs Φ es ρ D).bind fun r => Φ g r.1 r.2
  | .bi b es, ρ, D => (evs Φ es ρ D).bind fun r => (mapO (opd r.2) r.1).bind fun xs => (pBi b xs).map fun z => (z, r.2)
  | .isi t a, ρ, D => (ev Φ a ρ D).bind fun r => (pIs t r.1).map fun z => (.bl z, r.2)
  | .met m a es, ρ, D => (ev Φ a ρ D).bind fun r => (evs Φ es ρ r.2).bind fun q => (pMe m r.1 q.1).map fun z => (z, q.2)
  | .inr x a b, ρ, D => (ev Φ x ρ D).bind fun r => (ev Φ a ρ r.2).bind fun q => (ev Φ b ρ q.2).bind fun t => (intOf r.1).bind fun i => (intOf q.1).bind fun m => (intOf t.1).map fun n => (.bl (decide (m ≤ i ∧ i < n)), t.2)
  | .lc1 own elt t it cs, ρ, D => (evi Φ it ρ D).bind fun r =>
      (lcF (fun x D1 => (bindP t x (wipE ρ own)).bind fun ρ1 => (evt Φ cs ρ1 D1).bind fun c => if c.1 then (ev Φ elt ρ1 c.2).map fun y => ([y.1], y.2) else some ([], c.2)) r.1 r.2).map fun q => (.lst q.1, q.2)
  | .lc2 own elt t1 it1 cs1 own2 t2 it2 cs2, ρ, D => (evi Φ it1 ρ D).bind fun r =>
      (lcF (fun x D1 => (bindP t1 x (wipE ρ own)).bind fun ρ1 => (evt Φ cs1 ρ1 D1).bind fun c => if c.1 then (evi Φ it2 ρ1 c.2).bind fun r2 =>
        lcF (fun y D2 => (bindP t2 y (wipE ρ1 own2)).bind fun ρ2 => (evt Φ cs2 ρ2 D2).bind fun c2 => if c2.1 then (ev Φ elt ρ2 c2.2).map fun y => ([y.1], y.2) else some ([], c2.2)) r2.1 r2.2
        else some ([], c.2)) r.1 r.2).bind fun q => if q.1.length ≤ LIM then some (.lst q.1, q.2) else none
def evs (Φ : Fns) : CEs → Envi → DS → Option (List PV × DS)
  | .nil, _, D => some ([], D)
  | .cons e es, ρ, D => (ev Φ e ρ D).bind fun r => (evs Φ es ρ r.2).map fun q => (r.1 :: q.1, q.2)
def evd (Φ : Fns) : CPs → Envi → DS → Option (List (PV × PV) × DS)
  | .nil, _, D => some ([], D)
  | .cons k v r, ρ, D => (ev Φ k ρ D).bind fun x => (ev Φ v ρ x.2).bind fun q => (evd Φ r ρ q.2).map fun z => ((x.1, q.1) :: z.1, z.2)
def evand (Φ : Fns) : CEs → Envi → DS → Option (PV × DS)
  | .nil, _, _ => none
  | .cons e .nil, ρ, D => ev Φ e ρ D
  | .cons e es, ρ, D => (ev Φ e ρ D).bind fun r => (blOf r.1).bind fun z => if z then evand Φ es ρ r.2 else some (.bl false, r.2)
def evor (Φ : Fns) : CEs → Envi → DS → Option (PV × DS)
  | .nil, _, _ => none
  | .cons e .nil, ρ, D => ev Φ e ρ D
  | .cons e es, ρ, D => (ev Φ e ρ D).bind fun r => (blOf r.1).bind fun z => if z then some (.bl true, r.2) else evor Φ es ρ r.2
/-- a slice's part -/
def evo (Φ : Fns) : CEs → Envi → DS → Option (Option Int × DS)
  | .nil, _, D => some (none, D)
  | .cons e .nil, ρ, D => (ev Φ e ρ D).bind fun r => (intOf r.1).map fun i => (some i, r.2)
  | _, _, _ => none
/-- a clause's tests: none or one -/
def evt (Φ : Fns) : CEs → Envi → DS → Option (Bool × DS)
  | .nil, _, D => some (true, D)
  | .cons e .nil, ρ, D => (ev Φ e ρ D).bind fun r => (blOf r.1).map fun z => (z, r.2)
  | _, _, _ => none
def evi (Φ : Fns) : CI → Envi → DS → Option (List PV × DS)
  | .over e, ρ, D => (ev Φ e ρ D).bind fun r => (itOf r.1).map fun xs => (xs, r.2)
  | .rng1 a, ρ, D => (ev Φ a ρ D).bind fun r => (intOf r.1).bind fun n => if rngOk 0 n then some (rngL 0 n, r.2) else none
  | .rng2 a b, ρ, D => (ev Φ a ρ D).bind fun r => (ev Φ b ρ r.2).bind fun q => (intOf r.1).bind fun m => (intOf q.1).bind fun n => if rngOk m n then some (rngL m n, q.2) else none
  | .rng3 a b c, ρ, D => (ev Φ a ρ D).bind fun r => (ev Φ b ρ r.2).bind fun q => (ev Φ c ρ q.2).bind fun t => (intOf r.1).bind fun m => (intOf q.1).bind fun n => (intOf t.1).bind fun k =>
      if rngOk m n && decide (k ≠ 0 ∧ k.natAbs ≤ LIM) then some (rngC m n k, t.2) else none
  | .enum e, ρ, D => (ev Φ e ρ D).bind fun r => (seqOf r.1).map fun xs => (enumL xs, r.2)
  | .zip a b, ρ, D => (ev Φ a ρ D).bind fun r => (ev Φ b ρ r.2).bind fun q => (zipOf r.1 q.1).map fun xs => (xs, q.2)
  | .keys i, ρ, D => ((borS ρ i).bind keysOf).map fun xs => (xs, D)
end

/-- two tuples side by side -/
def zipT : PV → PV → Option (List PV)
  | .tup xs, .tup ys => if xs.length ≤ LIM then some (zipL xs ys) else none
  | _, _ => none
/-! ### statements -/
inductive Tg where
  | nm (i : Nat) | sub (i : Nat) (k : CE)
mutual
inductive CS where
  | asg (o : Bool) (i : Nat) (e : CE) | asgP (p : Pat) (e : CE) | asgS (i : Nat) (e : CE) | asg2 (i j : Nat) (e : CE)
  | par (ts : List Tg) (os : List Bool) (es : CEs)
  | zret (k : Nat) (own : List Nat) (ce : CE) (pt : Pat) (a b : CE) (ct : CEs)
  | aug (i : Nat) (op : Bo) (e : CE) | setI (i : Nat) (k e : CE) | augI (i : Nat) (k : CE) (op : Bo) (e : CE)
  | app (i : Nat) (e : CE) | ext (i : Nat) (e : CE) | ins (i : Nat) (k e : CE) | rem (i : Nat) (e : CE) | upd (i : Nat) (e : CE)
  | pop (p : Pat) (i : Nat) | pop0 (p : Pat) (i : Nat)
  | expr (e : CE) | ret (e : CE) | retN | ife (c : CE) (a b : CSs) | whl (c : CE) (b : CSs) | for_ (t : Pat) (it : CI) (b : CSs)
  | brk | cnt | pass
inductive CSs where
  | nil | cons (s : CS) (r : CSs) | frz (is : List Nat) (r : CSs)
end
inductive Out where
  | nx | rt (x : PV) | bk | ct
abbrev XR := Option (Out × Envi × DS)
def frz1 (ρ : Envi) (i : Nat) : Envi := match ρ[i]? with
  | some (some (true, x)) => ρ.set i (some (false, x))
  | _ => ρ
def frzL (ρ : Envi) : List Nat → Envi
  | [] => ρ
  | i :: r => frzL (frz1 ρ i) r
/-- an item stored, in a list or a dict -/
def pSet : PV → PV → PV → Option PV
  | .lst xs, .int i, v => (ixN xs.length i).map fun j => .lst (xs.set j v)
  | .dct t kvs, k, v => if isKey t k && decide (kvs.length < LIM) then some (.dct t (dPut k v kvs)) else none
  | _, _, _ => none
/-- the object at slot i changed by f -/
def chg (f : PV → Option PV) (i : Nat) (ρ : Envi) (D : DS) : Option (Envi × DS) := match ρ[i]? with
  | some (some (true, x)) => (f x).map fun y => (ρ.set i (some (true, y)), D)
  | some (some (false, .shr j)) => (D[j]?).bind fun x => (f x).map fun y => (ρ, D.set j y)
  | _ => none
/-- .. only what the slot holds by itself -/
def chgO (f : PV → Option PV) (i : Nat) (ρ : Envi) (D : DS) : Option (Envi × DS) := match ρ[i]? with
  | some (some (true, x)) => (f x).map fun y => (ρ.set i (some (true, y)), D)
  | _ => none
def pApp (v : PV) : PV → Option PV
  | .lst xs => if xs.length < LIM then some (.lst (xs ++ [v])) else none
  | _ => none
def pExt (v : PV) : PV → Option PV
  | .lst xs => match v with
    | .lst ys => if xs.length + ys.length ≤ LIM then some (.lst (xs ++ ys)) else none
    | _ => none
  | _ => none
def pInsAt (k v : PV) : PV → Option PV
  | .lst xs => match k with
    | .int i => if 0 ≤ i ∧ i ≤ xs.length ∧ xs.length < LIM then some (.lst (xs.take i.toNat ++ v :: xs.drop i.toNat)) else none
    | _ => none
  | _ => none
def pRem (v : PV) : PV → Option PV
  | .lst xs => match v with
    | .int n => (mapO intOf xs).bind fun ns => if n ∈ ns then some (.lst ((ns.erase n).map .int)) else none
    | _ => none
  | _ => none
def pUpd (v : PV) : PV → Option PV
  | .dct t kvs => match v with
    | .dct u more => if t == u && decide (kvs.length + more.length ≤ LIM) then some (.dct t (dMerge kvs more)) else none
    | _ => none
  | _ => none
def forL (f : PV → Envi → DS → XR) : List PV → Envi → DS → XR
  | [], ρ, D => some (.nx, ρ, D)
  | x :: xs, ρ, D => (f x ρ D).bind fun r => match r.1 with
    | .nx => forL f xs r.2.1 r.2.2
    | .ct => forL f xs r.2.1 r.2.2
    | .bk => some (.nx, r.2)
    | .rt v => some (.rt v, r.2)
def whlL (c : Envi → DS → Option (Bool × DS)) (f : Envi → DS → XR) : Nat → Envi → DS → XR
  | 0, _, _ => none
  | n + 1, ρ, D => (c ρ D).bind fun b => if b.1 then (f ρ b.2).bind fun r => match r.1 with
    | .nx => whlL c f n r.2.1 r.2.2
    | .ct => whlL c f n r.2.1 r.2.2
    | .bk => some (.nx, r.2)
    | .rt v => some (.rt v, r.2)
    else some (.nx, ρ, b.2)
abbrev WH : Nat := 100000
/-- targets of a parallel assignment, from the left -/
def storeT (Φ : Fns) : List Tg → List Bool → List PV → Envi → DS → Option (Envi × DS)
  | [], [], [], ρ, D => some (ρ, D)
  | .nm i :: ts, o :: os, x :: xs, ρ, D => storeT Φ ts os xs (ρ.set i (some (o, x))) D
  | .sub i k :: ts, false :: os, x :: xs, ρ, D => (ev Φ k ρ D).bind fun q => (chg (fun y => pSet y q.1 x) i ρ q.2).bind fun r => storeT Φ ts os xs r.1 r.2
  | _, _, _, _, _ => none
mutual
def ex (Φ : Fns) : CS → Envi → DS → XR
  | .asg o i e, ρ, D => (ev Φ e ρ D).map fun r => (.nx, ρ.set i (some (o, r.1)), r.2)
  | .asgP p e, ρ, D => (ev Φ e ρ D).bind fun r => (bindP p r.1 ρ).map fun ρ1 => (.nx, ρ1, r.2)
  | .asgS i e, ρ, D => (ev Φ e ρ D).map fun r => (.nx, ρ.set i (some (false, .shr r.2.length)), r.2 ++ [r.1])
  | .zret k own ce pt a b ct, ρ, D => if k < ρ.length then (ev Φ a ρ D).bind fun r => (ev Φ b ρ r.2).bind fun t => (zipT r.1 t.1).bind fun xs => (lcF (fun x D1 => (bindP pt x (wipE (ρ.set k none) own)).bind fun ρ1 => (evt Φ ct ρ1 D1).bind fun c => if c.1 then (ev Φ ce ρ1 c.2).map fun y => ([y.1], y.2) else some ([], c.2)) xs t.2).map fun q => (.rt (.tup q.1), ρ, q.2) else none
  | .asg2 i j e, ρ, D => (ev Φ e ρ D).map fun r => (.nx, (ρ.set i (some (false, r.1))).set j (some (false, r.1)), r.2)
  | .par ts os es, ρ, D => (evs Φ es ρ D).bind fun r => (storeT Φ ts os r.1 ρ r.2).map fun q => (.nx, q.1, q.2)
  | .aug i op e, ρ, D => (getS ρ i).bind fun x => (ev Φ e ρ D).bind fun r => (pIp op x r.1).map fun z => (.nx, ρ.set i (some (false, z)), r.2)
  | .setI i k e, ρ, D => (ev Φ e ρ D).bind fun r => (ev Φ k ρ r.2).bind fun q => (chg (fun y => pSet y q.1 r.1) i ρ q.2).map fun z => (.nx, z.1, z.2)
  | .augI i k op e, ρ, D => (ev Φ k ρ D).bind fun q => (borS ρ i).bind fun c => (opd q.2 c).bind fun o => (if isLD o then pIdx o q.1 else none).bind fun old => (ev Φ e ρ q.2).bind fun r => (pIp op old r.1).bind fun z =>
      (chg (fun y => pSet y q.1 z) i ρ r.2).map fun t => (.nx, t.1, t.2)
  | .app i e, ρ, D => (ev Φ e ρ D).bind fun r => (chgO (pApp r.1) i ρ r.2).map fun z => (.nx, z.1, z.2)
  | .ext i e, ρ, D => (ev Φ e ρ D).bind fun r => (chgO (pExt r.1) i ρ r.2).map fun z => (.nx, z.1, z.2)
  | .ins i k e, ρ, D => (ev Φ k ρ D).bind fun q => (ev Φ e ρ q.2).bind fun r => (chgO (pInsAt q.1 r.1) i ρ r.2).map fun z => (.nx, z.1, z.2)
  | .rem i e, ρ, D => (ev Φ e ρ D).bind fun r => (chgO (pRem r.1) i ρ r.2).map fun z => (.nx, z.1, z.2)
  | .upd i e, ρ, D => (ev Φ e ρ D).bind fun r => (chg (pUpd r.1) i ρ r.2).map fun z => (.nx, z.1, z.2)
  | .pop p i, ρ, D => match ρ[i]? with
    | some (some (true, .lst xs)) => (xs.getLast?).bind fun y => (bindP p y (ρ.set i (some (true, .lst xs.dropLast)))).map fun ρ1 => (.nx, ρ1, D)
    | _ => none
  | .pop0 p i, ρ, D => match ρ[i]? with
    | some (some (true, .lst (y :: xs))) => (bindP p y (ρ.set i (some (true, .lst xs)))).map fun ρ1 => (.nx, ρ1, D)
    | _ => none
  | .expr e, ρ, D => (ev Φ e ρ D).map fun r => (.nx, ρ, r.2)
  | .ret e, ρ, D => (ev Φ e ρ D).map fun r => (.rt r.1, ρ, r.2)
  | .retN, ρ, D => some (.rt .non, ρ, D)
  | .ife c a b, ρ, D => (ev Φ c ρ D).bind fun r => (blOf r.1).bind fun z => if z then exs Φ a ρ r.2 else exs Φ b ρ r.2
  | .whl c b, ρ, D => whlL (fun ρ D => (ev Φ c ρ D).bind fun r => (blOf r.1).map fun z => (z, r.2)) (fun ρ D => exs Φ b ρ D) WH ρ D
  | .for_ t it b, ρ, D => (evi Φ it ρ D).bind fun r => forL (fun x ρ D => (bindP t x ρ).bind fun ρ1 => exs Φ b ρ1 D) r.1 ρ r.2
  | .brk, ρ, D => some (.bk, ρ, D)
  | .cnt, ρ, D => some (.ct, ρ, D)
  | .pass, ρ, D => some (.nx, ρ, D)
def exs (Φ : Fns) : CSs → Envi → DS → XR
  | .nil, ρ, D => some (.nx, ρ, D)
  | .frz is r, ρ, D => exs Φ r (frzL ρ is) D
  | .cons s r, ρ, D => (ex Φ s ρ D).bind fun q => match q.1 with
    | .nx => exs Φ r q.2.1 q.2.2
    | _ => some q
end
/-- no shared object in it -/
def noShr : Nat → PV → Bool
  | _, .shr _ => false
  | _, .lck _ => false
  | n + 1, .tup xs => xs.all (noShr n)
  | n + 1, .lst xs => xs.all (noShr n)
  | n + 1, .dct _ kvs => kvs.all fun p => noShr n p.1 && noShr n p.2
  | 0, .tup _ => false
  | 0, .lst _ => false
  | 0, .dct _ _ => false
  | _, _ => true
/-- a def: n names in all, the first are the parameters -/
structure Def where
  nn : Nat
  np : Nat
  body : CSs
def Def.run (Φ : Fns) (d : Def) (args : List PV) (D : DS) : Option (PV × DS) :=
  if args.length = d.np then
    (exs Φ d.body (args.map (fun x => some (false, x)) ++ List.replicate (d.nn - d.np) none) D).bind fun q =>
      (match q.1 with
        | .rt x => some x
        | .nx => some .non
        | _ => none).bind fun x => if q.2.2.length = D.length then some (x, q.2.2) else if noShr DEP x && (q.2.2.take D.length).all (noShr DEP) then some (x, q.2.2.take D.length) else none
  else none
/-- all defs of a program, by the depth of their calls -/
def sem (defs : List Def) : Nat → Fns
  | 0, _, _, _ => none
  | n + 1, g, args, D => (defs[g]?).bind fun d => d.run (sem defs n) args D
end MP

/-! MP rv: t[::-1] of a tuple, t * n. -/
namespace PySem
open PySem.Spec PyProof.Rows L2
section
variable {prog : Program} {w : World} {A : Around} {E : Value → Shared → Prop} {s : Shared}
theorem mp_applied_rev {sl : Addr} {n : Nat} {u : Tok} {Q : Int × Int × Nat → Shared → Prop} (hs : s.heap.IsSliceOf sl .none .none (.int (-1) u)) (h : Q ((n : Int) - 1, -1, n) s) :
    wpAny (model prog w) A (Builtin.Slice.sliceApplied (.ref sl) (pure (n : Int))) Q E s := by
  obtain ⟨os, hos, hcs, hds⟩ := id hs
  unfold Builtin.Slice.sliceApplied Builtin.Slice.sliceFields
  refine wpAny_bind (wpAny_bind (wpAny_field hos hds (x := .none) rfl (wpAny_bind (wpAny_field hos hds (x := .none) rfl (wpAny_bind (wpAny_field hos hds (x := .int (-1) u) rfl (wpAny_pure ?_)))))))
  refine wpAny_bind (slicePart_int ?_)
  show wpAny _ _ (if ((-1 : Int) == 0) = true then _ else _) _ _ s
  rw [if_neg (by decide)]
  refine wpAny_bind (slicePart_none (wpAny_bind (slicePart_none (wpAny_bind (wpAny_pure ?_)))))
  show wpAny _ _ (match Builtin.Slice.sliceAdjust none none (-1) (n : Int) with | (lo, hi) => pure (lo, (-1 : Int), Builtin.Slice.slicePlaces lo hi (-1))) _ _ s
  have e : Builtin.Slice.sliceAdjust none none (-1) (n : Int) = ((n : Int) - 1, -1) := by
    unfold Builtin.Slice.sliceAdjust; rfl
  rw [e]
  show wpAny _ _ (pure ((n : Int) - 1, (-1 : Int), Builtin.Slice.slicePlaces ((n : Int) - 1) (-1) (-1))) _ _ s
  have e2 : Builtin.Slice.slicePlaces ((n : Int) - 1) (-1) (-1) = n := by
    unfold Builtin.Slice.slicePlaces
    rw [if_neg (by decide)]
    split
    · simp
    · simp; omega
  rw [e2]
  exact wpAny_pure h
theorem mp_fm_some {f : Nat → Option Value} {g : Nat → Value} : ∀ l : List Nat, (∀ k ∈ l, f k = some (g k)) → l.filterMap f = l.map g
  | [], _ => rfl
  | x :: l, h => by
    rw [List.filterMap_cons, h x List.mem_cons_self, mp_fm_some l fun k hk => h k (List.mem_cons_of_mem _ hk)]; rfl
theorem mp_pick_rev (xs : Array Value) : ((List.range xs.size).filterMap fun (k : Nat) => xs[(((xs.size : Int) - 1) + (k : Int) * (-1)).toNat]?).toArray = xs.toList.reverse.toArray := by
  congr 1
  apply List.ext_getElem?
  intro i
  have key : (List.range xs.size).filterMap (fun (k : Nat) => xs[(((xs.size : Int) - 1) + (k : Int) * (-1)).toNat]?) = (List.range xs.size).map fun k => xs[xs.size - 1 - k]! := by
    refine mp_fm_some _ fun k hk => ?_
    have hk := List.mem_range.mp hk
    have e : (((xs.size : Int) - 1) + (k : Int) * (-1)).toNat = xs.size - 1 - k := by omega
    have : xs.size - 1 - k < xs.size := by omega
    rw [e]
    simp [this]
  rw [key]
  by_cases hi : i < xs.size
  · have : xs.size - 1 - i < xs.size := by omega
    rw [List.getElem?_reverse (by simpa using hi)]
    simp [hi, this]
  · rw [List.getElem?_eq_none (by simpa using hi), List.getElem?_eq_none (by simpa using hi)]
theorem mp_getItem_rev {t sl : Addr} {items : Array Value} {u : Tok} {Q : Value → Shared → Prop} (ht : IsTup s.heap t items) (hs : s.heap.IsSliceOf sl .none .none (.int (-1) u))
    (h : Q (.ref s.heap.objs.size) { s with heap := s.heap.push { cls := .type "tuple", data := .seq items.toList.reverse.toArray } })
    (hsz : items.size ≤ sizeLine) : wpAny (model prog w) A (getItem (.ref t) (.ref sl)) Q E s := by
  have hdrop : sizeOk (.seq items.toList.reverse.toArray) := by
    show items.toList.reverse.toArray.size ≤ sizeLine
    rw [List.size_toArray, List.length_reverse, Array.length_toList]
    exact hsz
  obtain ⟨os, hos, hcs, hds⟩ := id hs
  have hTs : s.TypeIs (.ref sl) "slice" := ⟨os, hos, hcs⟩
  unfold getItem
  try with_reducible refine wpAny_holding ?_
  first | refine wpAny_bind (wpAny_pure ?_) | skip
  refine wpAny_bind (wpAny_sequenceKey ht.typeIs (by decide) ?_)
  refine wpAny_bind (wpAny_callSpecial?_slot (name := Str.ofString "__getitem__") ht.typeIs PyProof.Rows.slot_tuple_getitem
    (wpAny_call_entry PyProof.Rows.slot_tuple_getitem ht.typeIs entry_tuple_getitem ?_ (args_tuple_getitem _ _)))
  show wpAny _ _ (Builtin.Tuple.tupleItemsOf (.ref t) >>= _) _ _ s
  refine wpAny_bind (tupleItemsOf_ ht ?_)
  refine wpAny_bind (wpAny_typeOf hTs ?_)
  rw [if_pos (by decide)]
  refine wpAny_bind (mp_applied_rev (n := items.size) hs ?_)
  have hno : ¬ ((((items.size : Int) - 1) == 0 && (-1 : Int) == 1 && items.size == items.size) = true) := by
    have : ((-1 : Int) == 1) = false := by decide
    rw [this]; simp
  show wpAny _ _ (if (((items.size : Int) - 1) == 0 && (-1 : Int) == 1 && items.size == items.size) = true then _ else _) _ _ s
  rw [if_neg hno, mp_pick_rev items]
  first
    | exact wpAny_bind (m := Builtin.Tuple.tupleExact _) (wpAny_newObj_type (wpAny_pure ⟨_, rfl, wpAny_pure h⟩) hdrop)
    | exact wpAny_bind (m := Builtin.Tuple.tupleExact _) (wpAny_newObj_type (wpAny_bind (wpAny_pure (wpAny_pure ⟨_, rfl, wpAny_pure h⟩))) hdrop)
    | exact wpAny_bind (wpAny_bind (m := Builtin.Tuple.tupleExact _) (wpAny_newObj_type (wpAny_pure (wpAny_pure ⟨_, rfl, wpAny_pure h⟩)) hdrop))
    | exact wpAny_bind (wpAny_bind (m := Builtin.Tuple.tupleExact _) (wpAny_newObj_type (wpAny_pure ⟨_, rfl, wpAny_pure h⟩) hdrop))
theorem mp_tuple_mul1 (l : Addr) (items : Array Value) (n : Nat) (dd : Option Addr) (sl : Array (Option Value)) (u : Tok) :
    Meets (Builtin.«tuple.__mul__» ⟨[.ref l, .int 1 u], []⟩) (fun _ R s => s.heap.get? l = some { cls := .type "tuple", dict := dd, data := .seq items n, slots := sl } ∧ R (.ok (.ret (Value.ref l))) s) :=
  .of_wp fun prog w A R s h => by
    obtain ⟨hp, g, d, tk, os⟩ := s
    obtain ⟨hl, h⟩ := h
    have f1 := AutoSeq1.idx_int
    have c1 : (items.isEmpty || ((1 : Int) == 1)) = true := by simp
    wp_walk using wpAny_loadPart' hl
    repeat (first
      | (refine wpAny_ite_false (decide_eq_false (by decide)) ?_; wp_walk using wpAny_loadPart' hl)
      | (refine wpAny_ite_true (decide_eq_true (by rw [c1])) ?_; wp_walk using wpAny_loadPart' hl))
    exact ⟨_, rfl, h⟩
end
end PySem
namespace L2
open PySem PySem.Spec PyProof.Rows
/-- xs[::-1] of a list or a tuple -/
def tRevT (K : PySem.W.Frag) (te : TE) : TE := fun σ H Q => te σ H fun x H1 => ∃ a xs, x = .ref a ∧ SqT K H1 a xs ∧ ∀ p, H1 p = none → Q (.ref p) (upd H1 p (.tup xs.reverse))
theorem pe_revT {X : Cx} {e : Expr} {te : TE} {k : Nat} {p1 p2 p3 pos : Pos} (he : PE X e te) : PE X (.Subscript e (.Slice none none (some (.UnaryOp .USub (.Constant (.int 1) k p1) p2)) p3) pos) (tRevT X.K te) := by
  refine ⟨fun pins s σ H Q I h => ?_⟩
  refine Subscript_ (thn (he.run pins s σ H _ I h) fun v s1 ⟨x, H1, I1, r1, q1⟩ => ?_)
  obtain ⟨a, xs, ex, hx, q⟩ := q1
  subst ex
  cases r1
  have hst : PO X (some (.UnaryOp .USub (.Constant (.int 1) k p1) p2)) (tPart (tUn (rU fun i => .int (-i)) (tC (.int 1)))) := po_some (pe_un un_neg pe_int)
  refine wpAny_Slice (thn (po_none.run pins s1 σ H1 (fun o H2 => o = none ∧ H2 = H1) I1 ⟨rfl, rfl⟩) fun vl s2 ⟨l, H2, I2, pl, el, e2⟩ => ?_)
  subst el e2
  refine thn (po_none.run pins s2 σ H2 (fun o H3 => o = none ∧ H3 = H2) I2 ⟨rfl, rfl⟩) fun vu s3 ⟨u, H3, I3, pu, eu, e3⟩ => ?_
  subst eu e3
  refine thn (hst.run pins s3 σ H3 (fun o H4 => o = some (-1) ∧ H4 = H3) I3 ⟨1, rfl, -1, rfl, rfl, rfl⟩) fun vs s4 ⟨o, H4, I4, ps, eo, e4⟩ => ?_
  subst eo e4
  have I5 : Inv X pins σ H4 { s4 with heap := s4.heap.push { cls := .type "slice", data := .fields #[vl, vu, vs] } } := I4.kept (t' := s4.toks) fun b ob q => Heap.get?_push_of_some _ q
  obtain ⟨its, r, ht, hz⟩ := I5.tuple hx
  have hlen := r.length
  show wpAny (model X.prog X.w) X.A (subscriptTail e (.Slice none none (some (.UnaryOp .USub (.Constant (.int 1) k p1) p2)) p3) (.ref a) (.ref s4.heap.objs.size)) (EP X pins σ Q) X.xe { s4 with heap := s4.heap.push { cls := .type "slice", data := .fields #[vl, vu, vs] } }
  refine tail_any (ops := [.ref a, .ref s4.heap.objs.size]) ht.typeIs (PyProof.Rows.slot_tuple_getitem.lookup) ?_ (by with_unfolding_all rfl)
  cases pl
  cases pu
  cases ps
  refine mp_getItem_rev ht (Heap.IsSliceOf.new _ _ _ _) ?_ (by rw [List.size_toArray]; omega)
  refine ⟨.ref _, _, I5.laid (t' := s4.toks) (o := .tup xs.reverse) (fun b ob q => Heap.get?_push_of_some _ q) (Nat.le_refl _) ?_, rfl, q _ (I5.hok.fresh (Nat.le_refl _))⟩
  exact ⟨by rw [List.length_reverse]; exact hz, _, r.reverse, ⟨_, Heap.get?_push_size _ rfl, rfl, _, rfl⟩⟩
theorem pe_orT {X : Cx} {e : Expr} {t u : TE} (h : PE X e t) (h2 : PE X e u) : PE X e (fun σ H Q => t σ H Q ∨ u σ H Q) := ⟨fun pins s σ H Q I q => by
  rcases q with q | q
  · exact h.run pins s σ H Q I q
  · exact h2.run pins s σ H Q I q⟩
def rRep1 (K : PySem.W.Frag) : R2 := fun x y H Q => ∃ l xs, x = .ref l ∧ y = .int 1 ∧ SqT K H l xs ∧ Q (.ref l) H
theorem op_rep1 {X : Cx} : OpR X (binaryOp .Mult) (rRep1 X.K) := by
  intro pins s σ H x y v u Q I rx ry h
  obtain ⟨l, xs, rfl, rfl, hT, q⟩ := h
  cases rx
  obtain ⟨t, rfl⟩ := ry
  obtain ⟨its, r, ⟨⟨cls, dd, data, sl⟩, ho, hc, n, hd⟩, hs⟩ := I.tuple hT
  simp only at hc hd
  subst hc hd
  refine wpAny_binaryOp_repeat_ref (T := "tuple") (U := "int") (by decide) ⟨_, ho, rfl⟩ (fun s' => typeIs_int s' 1 t) noFill_tuple_mul F.fills_int_mul F.slot_int_rmul repeat_tuple F.slot_int_index.lookup
    (call_meets F.slot_int_rmul (typeIs_int s 1 t) F.entry_int_rmul (F.args_int_rmul_2 _ _) (int_rmul_tuple 1 t l its.toArray n dd sl)
      ⟨ho, rfl, ⟨_, ho, rfl⟩, call_meets F.slot_tuple_mul ⟨_, ho, rfl⟩ F.entry_tuple_mul (F.args_tuple_mul_2 _ _) (mp_tuple_mul1 l its.toArray n dd sl t) ⟨ho, ⟨.ref l, H, I, rfl, q⟩⟩⟩)
end L2

/-! MP rep: how values, slots and shared objects lie in the layer's abstract heap. -/
namespace MP
open PySem PySem.Spec PyProof.Rows L2

def kPV : Key → PV
  | .inl i => .int i
  | .inr s => .str s
mutual
/-- v is the tree x, its objects in G; the shared objects stand at as -/
inductive Tr (as : List Addr) (K : PySem.W.Frag) (G : Hp) : V → PV → Prop
  | non : Tr as K G .non .non
  | bl (b : Bool) : Tr as K G (.bl b) (.bl b)
  | int (i : Int) : Tr as K G (.int i) (.int i)
  | str (s : Str) : Tr as K G (.str s) (.str s)
  | tupR {a : Addr} {vs : List V} {xs : List PV} : Rd G a (.tup vs) → TrS as K G vs xs → Tr as K G (.ref a) (.tup xs)
  | tupX {a : Addr} {od : Obj} {vs : List V} {xs : List PV} : G a = some (.frz od (.tup vs)) → od.dict = none → TrS as K G vs xs → Tr as K G (.ref a) (.lck (.tup xs))
  | lst {a : Addr} {vs : List V} {xs : List PV} : G a = some (.lst vs) → TrS as K G vs xs → Tr as K G (.ref a) (.lst xs)
  | dK {a : Addr} {ks : List (Key × V)} {kvs : List (PV × PV)} : Rd G a (.dK ks) → TrK as K G ks kvs → Tr as K G (.ref a) (.dct 0 kvs)
  | dT {a : Addr} {ks : List (List Key × V)} {kvs : List (PV × PV)} : Rd G a (.dT ks) → TrT as K G ks kvs → Tr as K G (.ref a) (.dct 1 kvs)
  | shr {j : Nat} {a : Addr} : as[j]? = some a → Tr as K G (.ref a) (.shr j)
  | scr {a : Addr} {ns : List Int} : SqL K G a (ns.map V.int) → Tr as K G (.ref a) (.scr ns)
inductive TrS (as : List Addr) (K : PySem.W.Frag) (G : Hp) : List V → List PV → Prop
  | nil : TrS as K G [] []
  | cons {v : V} {x : PV} {vs : List V} {xs : List PV} : Tr as K G v x → TrS as K G vs xs → TrS as K G (v :: vs) (x :: xs)
inductive TrK (as : List Addr) (K : PySem.W.Frag) (G : Hp) : List (Key × V) → List (PV × PV) → Prop
  | nil : TrK as K G [] []
  | cons {k : Key} {v : V} {x : PV} {ks : List (Key × V)} {kvs : List (PV × PV)} : Tr as K G v x → TrK as K G ks kvs → TrK as K G ((k, v) :: ks) ((kPV k, x) :: kvs)
inductive TrT (as : List Addr) (K : PySem.W.Frag) (G : Hp) : List (List Key × V) → List (PV × PV) → Prop
  | nil : TrT as K G [] []
  | cons {k : List Key} {v : V} {x : PV} {ks : List (List Key × V)} {kvs : List (PV × PV)} : Tr as K G v x → TrT as K G ks kvs → TrT as K G ((k, v) :: ks) ((.tup (k.map kPV), x) :: kvs)
end

/-- what G tells, G' tells -/
structure Le (G G' : Hp) : Prop where
  pl : ∀ b o, (∀ c u, o ≠ .frz c u) → (∀ u, o ≠ .dK u) → (∀ u, o ≠ .dT u) → G b = some o → G' b = some o
  rd' : ∀ b u, (∀ c v, u ≠ HO.frz c v) → Rd G b u → Rd G' b u
  fz : ∀ b c vs, G b = some (.frz c (.tup vs)) → G' b = some (.frz c (.tup vs))
theorem Tr.tup {as : List Addr} {K : PySem.W.Frag} {G : Hp} {a : Addr} {vs : List V} {xs : List PV} (h : G a = some (.tup vs)) (t : TrS as K G vs xs) : Tr as K G (.ref a) (.tup xs) := .tupR (.inl h) t
theorem Le.rd {G G' : Hp} (l : Le G G') (b : Addr) (u : HO) (h : Rd G b u) (hn : ∀ c v, u ≠ HO.frz c v := by intro _ _ z; cases z) : Rd G' b u := l.rd' b u hn h
theorem Le.refl (G : Hp) : Le G G := ⟨fun _ _ _ _ _ h => h, fun _ _ _ h => h, fun _ _ _ h => h⟩
theorem Le.trans {G G1 G2 : Hp} (a : Le G G1) (b : Le G1 G2) : Le G G2 := ⟨fun c o h1 h2 h3 h => b.pl c o h1 h2 h3 (a.pl c o h1 h2 h3 h), fun c u hn h => b.rd' c u hn (a.rd' c u hn h), fun c o vs h => b.fz c o vs (a.fz c o vs h)⟩
theorem Le.of {G G' : Hp} (h : ∀ b o, G b = some o → G' b = some o) : Le G G' := ⟨fun b o _ _ _ => h b o, fun b u _ r => by
  rcases r with r | ⟨o, r⟩
  · exact .inl (h _ _ r)
  · exact .inr ⟨o, h _ _ r⟩, fun b c vs => h b _⟩
theorem Le.lst {G G' : Hp} (l : Le G G') {a : Addr} {vs : List V} (h : G a = some (.lst vs)) : G' a = some (.lst vs) := l.pl a _ (fun _ _ z => nomatch z) (fun _ z => nomatch z) (fun _ z => nomatch z) h
theorem Le.tup {G G' : Hp} (l : Le G G') {a : Addr} {vs : List V} (h : G a = some (.tup vs)) : G' a = some (.tup vs) := l.pl a _ (fun _ _ z => nomatch z) (fun _ z => nomatch z) (fun _ z => nomatch z) h
theorem Le.sq {G G' : Hp} (l : Le G G') {K : PySem.W.Frag} {a : Addr} {vs : List V} (h : SqL K G a vs) : SqL K G' a vs := by
  rcases h with h | h
  · exact .inl (l.rd _ _ h)
  · exact .inr h
theorem pre_get {as : List Addr} (more : List Addr) {j : Nat} {a : Addr} (h : as[j]? = some a) : (as ++ more)[j]? = some a := by
  rw [List.getElem?_append_left (List.getElem?_eq_some_iff.mp h).1]; exact h
section
variable {as : List Addr} {K : PySem.W.Frag} {G G' : Hp}
mutual
theorem Tr.mono (l : Le G G') (more : List Addr) : ∀ {v : V} {x : PV}, Tr as K G v x → Tr (as ++ more) K G' v x
  | _, _, .non => .non
  | _, _, .bl b => .bl b
  | _, _, .int i => .int i
  | _, _, .str s => .str s
  | _, _, .tupR h t => .tupR (l.rd _ _ h) (TrS.mono l more t)
  | _, _, .tupX h e t => .tupX (l.fz _ _ _ h) e (TrS.mono l more t)
  | _, _, .lst h t => .lst (l.lst h) (TrS.mono l more t)
  | _, _, .dK h t => .dK (l.rd _ _ h) (TrK.mono l more t)
  | _, _, .dT h t => .dT (l.rd _ _ h) (TrT.mono l more t)
  | _, _, .shr h => .shr (pre_get more h)
  | _, _, .scr h => .scr (l.sq h)
theorem TrS.mono (l : Le G G') (more : List Addr) : ∀ {vs : List V} {xs : List PV}, TrS as K G vs xs → TrS (as ++ more) K G' vs xs
  | _, _, .nil => .nil
  | _, _, .cons h t => .cons (Tr.mono l more h) (TrS.mono l more t)
theorem TrK.mono (l : Le G G') (more : List Addr) : ∀ {vs : List (Key × V)} {xs : List (PV × PV)}, TrK as K G vs xs → TrK (as ++ more) K G' vs xs
  | _, _, .nil => .nil
  | _, _, .cons h t => .cons (Tr.mono l more h) (TrK.mono l more t)
theorem TrT.mono (l : Le G G') (more : List Addr) : ∀ {vs : List (List Key × V)} {xs : List (PV × PV)}, TrT as K G vs xs → TrT (as ++ more) K G' vs xs
  | _, _, .nil => .nil
  | _, _, .cons h t => .cons (Tr.mono l more h) (TrT.mono l more t)
end
theorem Tr.up (l : Le G G') {v : V} {x : PV} (h : Tr as K G v x) : Tr as K G' v x := by simpa using h.mono l []
theorem TrS.up (l : Le G G') {v : List V} {x : List PV} (h : TrS as K G v x) : TrS as K G' v x := by simpa using h.mono l []
theorem TrK.up (l : Le G G') {v : List (Key × V)} {x : List (PV × PV)} (h : TrK as K G v x) : TrK as K G' v x := by simpa using h.mono l []
theorem TrT.up (l : Le G G') {v : List (List Key × V)} {x : List (PV × PV)} (h : TrT as K G v x) : TrT as K G' v x := by simpa using h.mono l []
theorem TrS.len : ∀ {vs : List V} {xs : List PV}, TrS as K G vs xs → vs.length = xs.length
  | _, _, .nil => rfl
  | _, _, .cons _ t => congrArg Nat.succ (TrS.len t)
theorem TrK.len : ∀ {vs : List (Key × V)} {xs : List (PV × PV)}, TrK as K G vs xs → vs.length = xs.length
  | _, _, .nil => rfl
  | _, _, .cons _ t => congrArg Nat.succ (TrK.len t)
theorem TrT.len : ∀ {vs : List (List Key × V)} {xs : List (PV × PV)}, TrT as K G vs xs → vs.length = xs.length
  | _, _, .nil => rfl
  | _, _, .cons _ t => congrArg Nat.succ (TrT.len t)
theorem TrS.get : ∀ {vs : List V} {xs : List PV} {j : Nat} {x : PV}, TrS as K G vs xs → xs[j]? = some x → ∃ v, vs[j]? = some v ∧ Tr as K G v x
  | _, _, _, _, .nil, h => by simp at h
  | _, _, 0, x, .cons h t, e => by
    simp at e; subst e; exact ⟨_, rfl, h⟩
  | _, _, j + 1, x, .cons h t, e => by
    obtain ⟨v, e1, e2⟩ := TrS.get t (j := j) (by simpa using e)
    exact ⟨v, by simpa using e1, e2⟩
theorem TrS.getV : ∀ {vs : List V} {xs : List PV} {j : Nat} {v : V}, TrS as K G vs xs → vs[j]? = some v → ∃ x, xs[j]? = some x ∧ Tr as K G v x
  | _, _, _, _, .nil, h => by simp at h
  | _, _, 0, v, .cons h t, e => by
    simp at e; subst e; exact ⟨_, rfl, h⟩
  | _, _, j + 1, v, .cons h t, e => by
    obtain ⟨x, e1, e2⟩ := TrS.getV t (j := j) (by simpa using e)
    exact ⟨x, by simpa using e1, e2⟩
theorem TrS.app : ∀ {vs ws : List V} {xs ys : List PV}, TrS as K G vs xs → TrS as K G ws ys → TrS as K G (vs ++ ws) (xs ++ ys)
  | _, _, _, _, .nil, t => t
  | _, _, _, _, .cons h r, t => .cons h (TrS.app r t)
theorem TrS.take (n : Nat) : ∀ {vs : List V} {xs : List PV}, TrS as K G vs xs → TrS as K G (vs.take n) (xs.take n) := by
  induction n with
  | zero => intro vs xs _; simp; exact .nil
  | succ n ih =>
    intro vs xs h
    cases h with
    | nil => exact .nil
    | cons h t => exact .cons h (ih t)
theorem TrS.drop (n : Nat) : ∀ {vs : List V} {xs : List PV}, TrS as K G vs xs → TrS as K G (vs.drop n) (xs.drop n) := by
  induction n with
  | zero => intro vs xs h; exact h
  | succ n ih =>
    intro vs xs h
    cases h with
    | nil => exact .nil
    | cons h t => exact ih t
theorem TrS.rev : ∀ {vs : List V} {xs : List PV}, TrS as K G vs xs → TrS as K G vs.reverse xs.reverse
  | _, _, .nil => .nil
  | _, _, .cons h t => by
    rw [List.reverse_cons, List.reverse_cons]
    exact (TrS.rev t).app (.cons h .nil)
theorem TrS.set (n : Nat) {v : V} {x : PV} (hv : Tr as K G v x) : ∀ {vs : List V} {xs : List PV}, TrS as K G vs xs → TrS as K G (vs.set n v) (xs.set n x) := by
  induction n with
  | zero =>
    intro vs xs h
    cases h with
    | nil => exact .nil
    | cons h t => exact .cons hv t
  | succ n ih =>
    intro vs xs h
    cases h with
    | nil => exact .nil
    | cons h t => exact .cons h (ih t)
theorem TrS.rep {vs : List V} {xs : List PV} (h : TrS as K G vs xs) : ∀ k : Nat, TrS as K G (List.replicate k vs).flatten (List.replicate k xs).flatten
  | 0 => by simp; exact .nil
  | k + 1 => by
    rw [List.replicate_succ, List.replicate_succ, List.flatten_cons, List.flatten_cons]
    exact h.app (TrS.rep h k)
theorem TrS.cut {vs : List V} {xs : List PV} (h : TrS as K G vs xs) (lo hi : Option Int) : TrS as K G (cutL vs lo hi) (cutL xs lo hi) := by
  unfold cutL
  rw [h.len]
  exact (h.drop _).take _
theorem TrS.ints {as : List Addr} : ∀ (ns : List Int), TrS as K G (ns.map V.int) (ns.map PV.int)
  | [] => .nil
  | _ :: r => .cons (.int _) (TrS.ints r)
end

/-! ### the world: what is shared -/
/-- the object at a holds x by itself -/
def OwnO (as : List Addr) (K : PySem.W.Frag) (G H : Hp) (a : Addr) : PV → Prop
  | .lst xs => ∃ vs, H a = some (.lst vs) ∧ TrS as K G vs xs
  | .dct t kvs => (t = 0 ∧ ∃ ks, H a = some (.dK ks) ∧ TrK as K G ks kvs) ∨ (t = 1 ∧ ∃ ks, H a = some (.dT ks) ∧ TrT as K G ks kvs)
  | _ => False
/-- .. or is locked meanwhile -/
def OwnR (as : List Addr) (K : PySem.W.Frag) (G H : Hp) (a : Addr) : PV → Prop
  | .lst xs => ∃ vs, H a = some (.lst vs) ∧ TrS as K G vs xs
  | .dct t kvs => (t = 0 ∧ ∃ ks, Rd H a (.dK ks) ∧ TrK as K G ks kvs) ∨ (t = 1 ∧ ∃ ks, Rd H a (.dT ks) ∧ TrT as K G ks kvs)
  | _ => False
def OwnS (as : List Addr) (K : PySem.W.Frag) (G H : Hp) (a : Addr) : PV → Prop
  | .lck x => OwnR as K G H a x
  | x => OwnO as K G H a x
theorem OwnO.r {as : List Addr} {K : PySem.W.Frag} {G H : Hp} {a : Addr} {x : PV} (h : OwnO as K G H a x) : OwnR as K G H a x := by
  cases x with
  | lst xs => exact h
  | dct t kvs =>
    rcases h with ⟨e, ks, h1, h2⟩ | ⟨e, ks, h1, h2⟩
    · exact .inl ⟨e, ks, .inl h1, h2⟩
    · exact .inr ⟨e, ks, .inl h1, h2⟩
  | _ => exact h
theorem OwnO.up {as : List Addr} {K : PySem.W.Frag} {G H G' H' : Hp} {a : Addr} {x : PV} (l : Le G G') (e : H' a = H a) (more : List Addr) (h : OwnO as K G H a x) : OwnO (as ++ more) K G' H' a x := by
  cases x with
  | lst xs =>
    obtain ⟨vs, h1, h2⟩ := h
    exact ⟨vs, e.trans h1, h2.mono l more⟩
  | dct t kvs =>
    rcases h with ⟨et, ks, h1, h2⟩ | ⟨et, ks, h1, h2⟩
    · exact .inl ⟨et, ks, e.trans h1, h2.mono l more⟩
    · exact .inr ⟨et, ks, e.trans h1, h2.mono l more⟩
  | _ => exact h
theorem rd_at {H H' : Hp} {a : Addr} {u : HO} (e : H' a = H a) (h : Rd H a u) : Rd H' a u := by
  rcases h with h | ⟨o, h⟩
  · exact .inl (e.trans h)
  · exact .inr ⟨o, e.trans h⟩
theorem OwnR.up {as : List Addr} {K : PySem.W.Frag} {G H G' H' : Hp} {a : Addr} {x : PV} (l : Le G G') (e : H' a = H a) (more : List Addr) (h : OwnR as K G H a x) : OwnR (as ++ more) K G' H' a x := by
  cases x with
  | lst xs =>
    obtain ⟨vs, h1, h2⟩ := h
    exact ⟨vs, e.trans h1, h2.mono l more⟩
  | dct t kvs =>
    rcases h with ⟨et, ks, h1, h2⟩ | ⟨et, ks, h1, h2⟩
    · exact .inl ⟨et, ks, rd_at e h1, h2.mono l more⟩
    · exact .inr ⟨et, ks, rd_at e h1, h2.mono l more⟩
  | _ => exact h
theorem OwnS.up {as : List Addr} {K : PySem.W.Frag} {G H G' H' : Hp} {a : Addr} {x : PV} (l : Le G G') (e : H' a = H a) (more : List Addr) (h : OwnS as K G H a x) : OwnS (as ++ more) K G' H' a x := by
  cases x with
  | lck y => exact OwnR.up (x := y) l e more h
  | lst xs => exact OwnO.up (x := .lst xs) l e more h
  | dct t kvs => exact OwnO.up (x := .dct t kvs) l e more h
  | _ => exact h
theorem OwnO.some {as : List Addr} {K : PySem.W.Frag} {G H : Hp} {a : Addr} {x : PV} (h : OwnO as K G H a x) : H a ≠ none := by
  cases x with
  | lst xs => obtain ⟨vs, h1, _⟩ := h; rw [h1]; exact fun z => nomatch z
  | dct t kvs =>
    rcases h with ⟨_, ks, h1, _⟩ | ⟨_, ks, h1, _⟩
    · rw [h1]; exact fun z => nomatch z
    · rw [h1]; exact fun z => nomatch z
  | _ => exact absurd h id
theorem rd_some {H : Hp} {a : Addr} {u : HO} (h : Rd H a u) : H a ≠ none := by
  rcases h with h | ⟨o, h⟩ <;> rw [h] <;> exact fun z => nomatch z
theorem OwnR.some {as : List Addr} {K : PySem.W.Frag} {G H : Hp} {a : Addr} {x : PV} (h : OwnR as K G H a x) : H a ≠ none := by
  cases x with
  | lst xs => obtain ⟨vs, h1, _⟩ := h; rw [h1]; exact fun z => nomatch z
  | dct t kvs =>
    rcases h with ⟨_, ks, h1, _⟩ | ⟨_, ks, h1, _⟩
    · exact rd_some h1
    · exact rd_some h1
  | _ => exact absurd h id
theorem OwnS.some {as : List Addr} {K : PySem.W.Frag} {G H : Hp} {a : Addr} {x : PV} (h : OwnS as K G H a x) : H a ≠ none := by
  cases x with
  | lck y => exact OwnR.some (x := y) h
  | lst xs => exact OwnO.some (x := .lst xs) h
  | dct t kvs => exact OwnO.some (x := .dct t kvs) h
  | _ => exact absurd h id

structure Wd (as : List Addr) (K : PySem.W.Frag) (G H : Hp) (D : DS) : Prop where
  sub : ∀ b o, G b = some o → H b = some o
  nd : as.Nodup
  len : as.length = D.length
  off : ∀ a ∈ as, G a = none
  sh : ∀ (j : Nat) (a : Addr) (x : PV), as[j]? = some a → D[j]? = some x → OwnS as K G H a x
theorem Wd.rd {as : List Addr} {K : PySem.W.Frag} {G H : Hp} {D : DS} (w : Wd as K G H D) {a : Addr} {u : HO} (h : Rd G a u) : Rd H a u := by
  rcases h with h | ⟨o, h⟩
  · exact .inl (w.sub _ _ h)
  · exact .inr ⟨o, w.sub _ _ h⟩
/-- a step: nothing but the shared objects has changed; what is new of G is new -/
structure Stp (as : List Addr) (G H G' H' : Hp) : Prop where
  le : Le G G'
  nw : ∀ b, G' b ≠ none → G b ≠ none ∨ H b = none
  kp : ∀ b o, b ∉ as → H b = some o → H' b = some o
  sm : ∀ b, H b ≠ none → H' b ≠ none
theorem Stp.refl (as : List Addr) (G H : Hp) : Stp as G H G H := ⟨Le.refl G, fun _ h => .inl h, fun _ _ _ h => h, fun _ h => h⟩
theorem Stp.trans {as : List Addr} {G H G1 H1 G2 H2 : Hp} (a : Stp as G H G1 H1) (b : Stp as G1 H1 G2 H2) : Stp as G H G2 H2 :=
  ⟨a.le.trans b.le, fun c h => by
    rcases b.nw c h with h | h
    · exact a.nw c h
    · right
      cases e : H c with
      | none => rfl
      | some o => exact absurd h (a.sm c (by rw [e]; exact fun z => nomatch z)),
   fun c o hc h => b.kp c o hc (a.kp c o hc h), fun c h => b.sm c (a.sm c h)⟩
/-- a new object, told by G too -/
theorem Stp.new {as : List Addr} {G H : Hp} {p : Addr} {o : HO} (hp : H p = none) (hG : G p = none) : Stp as G H (upd G p o) (upd H p o) :=
  ⟨Le.of fun b u h => by rw [upd_ne (ne_of_none h hG)]; exact h, fun b h => by
    by_cases e : b = p
    · right; rw [e]; exact hp
    · left; rwa [upd_ne e] at h, fun b u _ h => by rw [upd_ne (ne_of_none h hp)]; exact h, fun b h => by
    by_cases e : b = p
    · rw [e, upd_same]; exact fun z => nomatch z
    · rw [upd_ne e]; exact h⟩
/-- a new object that G does not tell -/
theorem Stp.own {as : List Addr} {G H : Hp} {p : Addr} {o : HO} (hp : H p = none) : Stp as G H G (upd H p o) :=
  ⟨Le.refl G, fun _ h => .inl h, fun b u _ h => by rw [upd_ne (ne_of_none h hp)]; exact h, fun b h => by
    by_cases e : b = p
    · rw [e, upd_same]; exact fun z => nomatch z
    · rw [upd_ne e]; exact h⟩
section
variable {as : List Addr} {K : PySem.W.Frag} {G H : Hp} {D : DS} {p : Addr} {o : HO}
theorem Wd.free (w : Wd as K G H D) (hp : H p = none) : G p = none := by
  cases e : G p with
  | none => rfl
  | some u => rw [w.sub p u e] at hp; cases hp
theorem Wd.offp (w : Wd as K G H D) (hp : H p = none) : p ∉ as := fun hm => by
  obtain ⟨j, hj⟩ := List.getElem?_of_mem hm
  have hl := (List.getElem?_eq_some_iff.mp hj).1
  have hl2 : j < D.length := by rw [← w.len]; exact hl
  exact (w.sh j p D[j] hj (List.getElem?_eq_getElem hl2)).some hp
theorem Wd.new (w : Wd as K G H D) (hp : H p = none) : Wd as K (upd G p o) (upd H p o) D where
  sub := fun b u h => by
    by_cases e : b = p
    · rw [e, upd_same] at h ⊢; exact h
    · rw [upd_ne e] at h ⊢; exact w.sub b u h
  nd := w.nd
  len := w.len
  off := fun a ha => by rw [upd_ne fun e => w.offp hp (by rw [← e]; exact ha)]; exact w.off a ha
  sh := fun j a x h1 h2 => by
    have ha : a ≠ p := fun e => w.offp hp (by rw [← e]; exact List.mem_of_getElem? h1)
    have := (w.sh j a x h1 h2).up (G' := upd G p o) (H' := upd H p o) (Le.of fun b u h => by rw [upd_ne (ne_of_none h (w.free hp))]; exact h) (upd_ne ha) []
    simpa using this
theorem Wd.ownp (w : Wd as K G H D) (hp : H p = none) : Wd as K G (upd H p o) D where
  sub := fun b u h => by rw [upd_ne (ne_of_none h (w.free hp))]; exact w.sub b u h
  nd := w.nd
  len := w.len
  off := w.off
  sh := fun j a x h1 h2 => by
    have ha : a ≠ p := fun e => w.offp hp (by rw [← e]; exact List.mem_of_getElem? h1)
    have := (w.sh j a x h1 h2).up (G' := G) (H' := upd H p o) (Le.refl G) (upd_ne ha) []
    simpa using this
end

/-! ### the slots -/
structure Rp (as : List Addr) (K : PySem.W.Frag) (G H : Hp) (σ : L2.St) (ρ : Envi) : Prop where
  len : σ.length = ρ.length
  frz : ∀ (i : Nat) (x : PV), ρ[i]? = some (some (false, x)) → ∃ v, σ[i]? = some (some v) ∧ Tr as K G v x
  own : ∀ (i : Nat) (x : PV), ρ[i]? = some (some (true, x)) → ∃ a, σ[i]? = some (some (.ref a)) ∧ G a = none ∧ a ∉ as ∧ OwnR as K G H a x
  dis : ∀ (i j : Nat) (x y : PV) (a : Addr), ρ[i]? = some (some (true, x)) → ρ[j]? = some (some (true, y)) → σ[i]? = some (some (.ref a)) → σ[j]? = some (some (.ref a)) → i = j
/-- none of the slots' own objects is locked -/
def Pln (as : List Addr) (K : PySem.W.Frag) (G H : Hp) (σ : L2.St) (ρ : Envi) : Prop :=
  ∀ (i : Nat) (x : PV) (a : Addr), ρ[i]? = some (some (true, x)) → σ[i]? = some (some (.ref a)) → OwnO as K G H a x
theorem Rp.up {as : List Addr} {K : PySem.W.Frag} {G H G' H' : Hp} {σ : L2.St} {ρ : Envi} (r : Rp as K G H σ ρ) (st : Stp as G H G' H') : Rp as K G' H' σ ρ where
  len := r.len
  frz := fun i x h => by
    obtain ⟨v, e, t⟩ := r.frz i x h
    exact ⟨v, e, t.up st.le⟩
  own := fun i x h => by
    obtain ⟨a, e, g, n, o⟩ := r.own i x h
    have hs := o.some
    refine ⟨a, e, ?_, n, ?_⟩
    · cases q : G' a with
      | none => rfl
      | some u =>
        rcases st.nw a (by rw [q]; exact fun z => nomatch z) with z | z
        · exact absurd g z
        · exact absurd z hs
    · cases q : H a with
      | none => exact absurd q hs
      | some u =>
        have := o.up (G' := G') (H' := H') st.le ((st.kp a u n q).trans q.symm) []
        simpa using this
  dis := r.dis
theorem Pln.up {as : List Addr} {K : PySem.W.Frag} {G H G' H' : Hp} {σ : L2.St} {ρ : Envi} (r : Rp as K G H σ ρ) (p : Pln as K G H σ ρ) (st : Stp as G H G' H') : Pln as K G' H' σ ρ := fun i x a h1 h2 => by
  obtain ⟨b, e, g, n, o⟩ := r.own i x h1
  have e2 : a = b := by
    rw [e] at h2
    cases h2; rfl
  subst e2
  have o2 := p i x a h1 h2
  cases q : H a with
  | none => exact absurd q o2.some
  | some u =>
    have := o2.up (G' := G') (H' := H') st.le ((st.kp a u n q).trans q.symm) []
    simpa using this

/-- an operand: a tree, or what a slot holds by itself -/
def TrO (as : List Addr) (K : PySem.W.Frag) (G H : Hp) (v : V) (x : PV) : Prop :=
  Tr as K G v x ∨ ∃ a, v = .ref a ∧ G a = none ∧ a ∉ as ∧ OwnR as K G H a x
theorem TrO.up {as : List Addr} {K : PySem.W.Frag} {G H G' H' : Hp} {v : V} {x : PV} (r : TrO as K G H v x) (st : Stp as G H G' H') : TrO as K G' H' v x := by
  rcases r with t | ⟨a, e, g, n, o⟩
  · exact .inl (t.up st.le)
  · have hs := o.some
    refine .inr ⟨a, e, ?_, n, ?_⟩
    · cases q : G' a with
      | none => rfl
      | some u =>
        rcases st.nw a (by rw [q]; exact fun z => nomatch z) with z | z
        · exact absurd g z
        · exact absurd z hs
    · cases q : H a with
      | none => exact absurd q hs
      | some u =>
        have := o.up (G' := G') (H' := H') st.le ((st.kp a u n q).trans q.symm) []
        simpa using this
/-- how an operand is read: shared objects by what they hold -/
def TrR (as : List Addr) (K : PySem.W.Frag) (G H : Hp) (v : V) (x : PV) : Prop :=
  Tr as K G v x ∨ ∃ a, v = .ref a ∧ OwnR as K G H a x
theorem TrO.r {as : List Addr} {K : PySem.W.Frag} {G H : Hp} {v : V} {x : PV} (r : TrO as K G H v x) : TrR as K G H v x := by
  rcases r with t | ⟨a, e, _, _, o⟩
  · exact .inl t
  · exact .inr ⟨a, e, o⟩
theorem TrO.opd {as : List Addr} {K : PySem.W.Frag} {G H : Hp} {D : DS} {v : V} {x y : PV} (w : Wd as K G H D) (r : TrO as K G H v x) (h : opd D x = some y) : TrR as K G H v y := by
  have other : ∀ z, MP.opd D x = some z → (∀ j, x ≠ .shr j) → z = x := fun z hz hn => by
    cases x <;> first | (exact absurd rfl (hn _)) | (unfold MP.opd at hz; cases hz; rfl)
  by_cases hx : ∃ j, x = .shr j
  · obtain ⟨j, rfl⟩ := hx
    have hD : ∃ z, D[j]? = some z ∧ y = (match z with | .lck t => t | t => t) := by
      have h' : (D[j]?).map (fun x => match x with | PV.lck y => y | y => y) = some y := h
      cases q : D[j]? with
      | none => rw [q] at h'; cases h'
      | some z => rw [q] at h'; cases h'; exact ⟨z, rfl, rfl⟩
    obtain ⟨z, hz, rfl⟩ := hD
    rcases r with t | ⟨a, e, _, _, o⟩
    · cases t with
      | shr ha =>
        have s := w.sh j _ z ha hz
        refine .inr ⟨_, rfl, ?_⟩
        cases z with
        | lck t => exact s
        | lst xs => exact OwnO.r (x := .lst xs) s
        | dct t kvs => exact OwnO.r (x := .dct t kvs) s
        | _ => exact absurd s id
    · exact absurd o id
  · have := other y h fun j e => hx ⟨j, e⟩
    subst this
    exact r.r
end MP

/-! MP ops: the operators by values. -/
namespace MP
open PySem PySem.Spec PyProof.Rows L2

theorem line_lim {n : Nat} (h : n ≤ LIM) : n ≤ sizeLine := by rw [sizeLine_eq]; have : LIM = 1000000 := rfl; omega
/-- what is wanted of a value that is z -/
def Fin_ (as : List Addr) (K : PySem.W.Frag) (G H : Hp) (D : DS) (z : PV) (Q : VK) : Prop := ∀ v G' H', Stp as G H G' H' → Wd as K G' H' D → Tr as K G' v z → Q v H'
section
variable {as : List Addr} {K : PySem.W.Frag} {G H : Hp} {D : DS} {x y : V} {z : PV} {Q : VK}
theorem Fin_.same (f : Fin_ as K G H D z Q) (w : Wd as K G H D) {v : V} (t : Tr as K G v z) : Q v H := f v G H (Stp.refl as G H) w t
theorem Fin_.new (f : Fin_ as K G H D z Q) (w : Wd as K G H D) {p : Addr} {o : HO} (hp : H p = none) (t : Tr as K (upd G p o) (.ref p) z) : Q (.ref p) (upd H p o) :=
  f _ _ _ (Stp.new hp (w.free hp)) (w.new hp) t
theorem le_new {p : Addr} {o : HO} (hG : G p = none) : Le G (upd G p o) := Le.of fun b u h => by rw [upd_ne (ne_of_none h hG)]; exact h
/-- what is wanted of a new object that is z: G does not tell it -/
def FinF (as : List Addr) (K : PySem.W.Frag) (G H : Hp) (D : DS) (z : PV) (Q : VK) : Prop := ∀ p o, H p = none → OwnO as K G (upd H p o) p z → Q (.ref p) (upd H p o)
theorem OwnO.tell {p : Addr} {o : HO} (hp : H p = none) (w : Wd as K G H D) (h : OwnO as K G (upd H p o) p z) : Tr as K (upd G p o) (.ref p) z := by
  have l : Le G (upd G p o) := le_new (w.free hp)
  cases z with
  | lst xs =>
    obtain ⟨vs, h1, h2⟩ := h
    rw [upd_same] at h1
    cases h1
    exact .lst upd_same (h2.up l)
  | dct t kvs =>
    rcases h with ⟨rfl, ks, h1, h2⟩ | ⟨rfl, ks, h1, h2⟩
    · rw [upd_same] at h1
      cases h1
      exact .dK (.of upd_same) (h2.up l)
    · rw [upd_same] at h1
      cases h1
      exact .dT (.of upd_same) (h2.up l)
  | _ => exact absurd h id
theorem Fin_.toF (w : Wd as K G H D) (f : Fin_ as K G H D z Q) : FinF as K G H D z Q := fun p o hp h => f _ _ _ (Stp.new hp (w.free hp)) (w.new hp) (h.tell hp w)
theorem TrR.int {i : Int} (r : TrR as K G H x (.int i)) : x = .int i := by
  rcases r with t | ⟨a, _, o⟩
  · cases t; rfl
  · exact absurd o id
theorem TrR.bl {i : Bool} (r : TrR as K G H x (.bl i)) : x = .bl i := by
  rcases r with t | ⟨a, _, o⟩
  · cases t; rfl
  · exact absurd o id
theorem TrR.non (r : TrR as K G H x .non) : x = .non := by
  rcases r with t | ⟨a, _, o⟩
  · cases t; rfl
  · exact absurd o id
theorem TrR.str {i : Str} (r : TrR as K G H x (.str i)) : x = .str i := by
  rcases r with t | ⟨a, _, o⟩
  · cases t; rfl
  · exact absurd o id
theorem TrR.lst {xs : List PV} (w : Wd as K G H D) (r : TrR as K G H x (.lst xs)) : ∃ a vs, x = .ref a ∧ H a = some (.lst vs) ∧ TrS as K G vs xs := by
  rcases r with t | ⟨a, e, vs, h, t⟩
  · cases t with
    | lst h t => exact ⟨_, _, rfl, w.sub _ _ h, t⟩
  · exact ⟨a, vs, e, h, t⟩
theorem TrR.tup {xs : List PV} (w : Wd as K G H D) (r : TrR as K G H x (.tup xs)) : ∃ a vs, x = .ref a ∧ Rd H a (.tup vs) ∧ Rd G a (.tup vs) ∧ TrS as K G vs xs := by
  rcases r with t | ⟨a, _, o⟩
  · cases t with
    | tupR h t => exact ⟨_, _, rfl, w.rd h, h, t⟩
  · exact absurd o id
theorem rd_sub (w : Wd as K G H D) {a : Addr} {u : HO} (h : Rd G a u) : Rd H a u := by
  rcases h with h | ⟨o, h⟩
  · exact .inl (w.sub _ _ h)
  · exact .inr ⟨o, w.sub _ _ h⟩
theorem TrR.dct {t : Nat} {xs : List (PV × PV)} (w : Wd as K G H D) (r : TrR as K G H x (.dct t xs)) :
    (t = 0 ∧ ∃ a ks, x = .ref a ∧ Rd H a (.dK ks) ∧ TrK as K G ks xs) ∨ (t = 1 ∧ ∃ a ks, x = .ref a ∧ Rd H a (.dT ks) ∧ TrT as K G ks xs) := by
  rcases r with t | ⟨a, e, o⟩
  · cases t with
    | dK h t => exact .inl ⟨rfl, _, _, rfl, rd_sub w h, t⟩
    | dT h t => exact .inr ⟨rfl, _, _, rfl, rd_sub w h, t⟩
  · rcases o with ⟨e1, ks, h, t⟩ | ⟨e1, ks, h, t⟩
    · exact .inl ⟨e1, a, ks, e, h, t⟩
    · exact .inr ⟨e1, a, ks, e, h, t⟩
theorem TrR.scr {ns : List Int} (w : Wd as K G H D) (r : TrR as K G H x (.scr ns)) : ∃ a, x = .ref a ∧ SqL K H a (ns.map V.int) := by
  rcases r with t | ⟨a, _, o⟩
  · cases t with
    | scr h =>
      refine ⟨_, rfl, ?_⟩
      rcases h with h | h
      · exact .inl (rd_sub w h)
      · exact .inr h
  · exact absurd o id
end

def boT : Bo → Operator
  | .add => .Add | .sub => .Sub | .mul => .Mult | .div => .FloorDiv | .mod => .Mod | .pow => .Pow | .shr => .RShift | .shl => .LShift | .band => .BitAnd | .cat => .Add | .rep => .Mult
def rBinM (K : PySem.W.Frag) (op : Bo) : R2 := fun x y H Q => ∃ as G D px py z, Wd as K G H D ∧ TrR as K G H x px ∧ TrR as K G H y py ∧ pBin op px py = some z ∧ Fin_ as K G H D z Q
section
variable {X : Cx}
/-- t * k of any size: as far as it is served -/
theorem rep_small {α : Type} (xs : List α) (k : Int) (h : k ≤ 1) : (List.replicate k.toNat xs).flatten = if k = 1 then xs else [] := by
  by_cases e : k = 1
  · subst e; simp
  · have : k.toNat = 0 := by omega
    rw [this]; simp [e]
theorem op_binM (op : Bo) : OpR X (binaryOp (boT op)) (rBinM X.K op) := by
  intro pins s σ H x y v u Q I rx ry h
  obtain ⟨as, G, D, px, py, z, w, hx, hy, e, f⟩ := h
  cases op with
  | add =>
    cases px <;> cases py <;> try (cases e; done)
    case int.int a b =>
      cases e
      obtain rfl := hx.int
      obtain rfl := hy.int
      exact op_add pins s σ H _ _ v u Q I rx ry ⟨_, _, rfl, rfl, f.same w (.int _)⟩
    case str.str a b =>
      obtain rfl := hx.str
      obtain rfl := hy.str
      have e' : (if a.length + b.length ≤ LIM then some (PV.str (a ++ b)) else none) = some z := e
      split at e'
      · rename_i hl
        cases e'
        exact op_add_str pins s σ H _ _ v u Q I rx ry ⟨_, _, rfl, rfl, line_lim hl, f.same w (.str _)⟩
      · cases e'
    case lst.lst a b =>
      obtain ⟨p, vs, rfl, h1, t1⟩ := hx.lst w
      obtain ⟨q, ws, rfl, h2, t2⟩ := hy.lst w
      have e' : (if a.length + b.length ≤ LIM then some (PV.lst (a ++ b)) else none) = some z := e
      split at e'
      · rename_i hl
        cases e'
        refine op_cat pins s σ H _ _ v u Q I rx ry ⟨_, _, _, _, rfl, rfl, h1, h2, by rw [t1.len, t2.len]; exact line_lim hl, fun r hr => ?_⟩
        exact f.new w hr (.lst upd_same ((t1.app t2).up (le_new (w.free hr))))
      · cases e'
    case tup.tup a b =>
      obtain ⟨p, vs, rfl, h1, g1, t1⟩ := hx.tup w
      obtain ⟨q, ws, rfl, h2, g2, t2⟩ := hy.tup w
      have e' : (if a.length + b.length ≤ LIM then some (PV.tup (a ++ b)) else none) = some z := e
      split at e'
      · rename_i hl
        cases e'
        refine op_catA pins s σ H _ _ v u Q I rx ry ⟨_, _, _, _, rfl, rfl, .inl h1, .inl h2, by rw [t1.len, t2.len]; exact line_lim hl, fun n1 => ?_, fun _ n2 => ?_, fun _ _ r hr => ?_⟩
        · subst n1
          cases t1
          exact f.same w (.tupR g2 t2)
        · subst n2
          cases t2
          rw [List.append_nil] at f
          exact f.same w (.tupR g1 t1)
        · exact f.new w hr (.tup upd_same ((t1.app t2).up (le_new (w.free hr))))
      · cases e'
  | sub =>
    cases px <;> cases py <;> try (cases e; done)
    case int.int a b =>
      cases e
      obtain rfl := hx.int
      obtain rfl := hy.int
      exact op_sub pins s σ H _ _ v u Q I rx ry ⟨_, _, rfl, rfl, f.same w (.int _)⟩
  | mul =>
    cases px <;> cases py <;> try (cases e; done)
    case int.int a b =>
      obtain rfl := hx.int
      obtain rfl := hy.int
      have e' : (if (-two64 < a ∧ a < two64) ∨ (-two64 < b ∧ b < two64) then some (PV.int (a * b)) else none) = some z := e
      split at e'
      · rename_i hl
        cases e'
        exact op_mul pins s σ H _ _ v u Q I rx ry ⟨_, _, rfl, rfl, hl, f.same w (.int _)⟩
      · cases e'
    case lst.int a k =>
      obtain ⟨p, vs, rfl, h1, t1⟩ := hx.lst w
      obtain rfl := hy.int
      have e' : (if a.length * k.toNat ≤ LIM ∧ k ≤ LIM ∧ -LIM ≤ k then some (PV.lst (List.replicate k.toNat a).flatten) else none) = some z := e
      split at e'
      · rename_i hl
        obtain ⟨l1, l2, l3⟩ := hl
        have : ((LIM : Nat) : Int) = 1000000 := rfl
        cases e'
        refine op_rep pins s σ H _ _ v u Q I rx ry ⟨_, _, _, rfl, rfl, h1, by omega, by omega, by rw [t1.len]; exact line_lim l1, fun r hr => ?_⟩
        exact f.new w hr (.lst upd_same ((t1.rep _).up (le_new (w.free hr))))
      · cases e'
    case tup.int a k =>
      obtain ⟨p, vs, rfl, h1, g1, t1⟩ := hx.tup w
      obtain rfl := hy.int
      have e' : (if a.length ≠ 0 ∧ 1 ≤ k ∧ k ≤ 1000 ∧ a.length ≤ 1000 then some (PV.tup (List.replicate k.toNat a).flatten) else none) = some z := e
      split at e'
      · rename_i hl
        obtain ⟨l1, l2, l3, l4⟩ := hl
        cases e'
        have hne : vs ≠ [] := fun z => by
          have := t1.len
          rw [z] at this
          exact l1 this.symm
        by_cases h2 : k = 1
        · subst h2
          refine op_rep1 pins s σ H _ _ v u Q I rx ry ⟨_, _, rfl, rfl, .inl h1, ?_⟩
          have e : (List.replicate (1 : Int).toNat a).flatten = a := by simp
          rw [e] at f
          exact f.same w (.tupR g1 t1)
        · refine op_repT pins s σ H _ _ v u Q I rx ry ⟨_, _, _, rfl, rfl, .inl h1, hne, by omega, l3, by rw [t1.len]; exact l4, fun r hr => ?_⟩
          exact f.new w hr (.tup upd_same ((t1.rep _).up (le_new (w.free hr))))
      · cases e'
  | div =>
    cases px <;> cases py <;> try (cases e; done)
    case int.int a b =>
      obtain rfl := hx.int
      obtain rfl := hy.int
      have e' : (if b ≠ 0 ∧ b.natAbs < 1073741824 then some (PV.int (a.fdiv b)) else none) = some z := e
      split at e'
      · rename_i hl
        cases e'
        exact op_fdivN pins s σ H _ _ v u Q I rx ry ⟨_, _, rfl, rfl, hl, f.same w (.int _)⟩
      · cases e'
  | mod =>
    cases px <;> cases py <;> try (cases e; done)
    case int.int a b =>
      obtain rfl := hx.int
      obtain rfl := hy.int
      have e' : (if b ≠ 0 then some (PV.int (a.fmod b)) else none) = some z := e
      split at e'
      · rename_i hl
        cases e'
        exact op_modN pins s σ H _ _ v u Q I rx ry ⟨_, _, rfl, rfl, hl, f.same w (.int _)⟩
      · cases e'
  | pow =>
    cases px <;> cases py <;> try (cases e; done)
    case int.int a b =>
      obtain rfl := hx.int
      obtain rfl := hy.int
      have e' : (if 0 ≤ b ∧ b ≤ 1000 ∧ a.natAbs < 1000000 then some (PV.int (a ^ b.toNat)) else none) = some z := e
      split at e'
      · rename_i hl
        cases e'
        exact op_pow pins s σ H _ _ v u Q I rx ry ⟨_, _, rfl, rfl, ⟨hl.1, by omega, by omega⟩, f.same w (.int _)⟩
      · cases e'
  | shl =>
    cases px <;> cases py <;> try (cases e; done)
    case int.int a b =>
      obtain rfl := hx.int
      obtain rfl := hy.int
      have e' : (if 0 ≤ b ∧ b ≤ 1000 ∧ a.natAbs < 1000000 then some (PV.int (a * 2 ^ b.toNat)) else none) = some z := e
      split at e'
      · rename_i hl
        cases e'
        exact op_shl pins s σ H _ _ v u Q I rx ry ⟨_, _, rfl, rfl, ⟨hl.1, by omega, by omega⟩, f.same w (.int _)⟩
      · cases e'
  | shr =>
    cases px <;> cases py <;> try (cases e; done)
    case int.int a b =>
      obtain rfl := hx.int
      obtain rfl := hy.int
      have e' : (if 0 ≤ b then some (PV.int (a / 2 ^ b.toNat)) else none) = some z := e
      split at e'
      · rename_i hl
        cases e'
        exact op_shr pins s σ H _ _ v u Q I rx ry ⟨_, _, rfl, rfl, hl, f.same w (.int _)⟩
      · cases e'
  | band =>
    cases px <;> cases py <;> try (cases e; done)
    case int.int a b =>
      cases e
      obtain rfl := hx.int
      obtain rfl := hy.int
      exact op_and pins s σ H _ _ v u Q I rx ry ⟨_, _, rfl, rfl, f.same w (.int _)⟩
  | cat =>
    cases px <;> cases py <;> try (cases e; done)
    case lst.lst a b =>
      obtain ⟨p, vs, rfl, h1, t1⟩ := hx.lst w
      obtain ⟨q, ws, rfl, h2, t2⟩ := hy.lst w
      have e' : (if a.length + b.length ≤ LIM then some (PV.lst (a ++ b)) else none) = some z := e
      split at e'
      · rename_i hl
        cases e'
        refine op_cat pins s σ H _ _ v u Q I rx ry ⟨_, _, _, _, rfl, rfl, h1, h2, by rw [t1.len, t2.len]; exact line_lim hl, fun r hr => ?_⟩
        exact f.new w hr (.lst upd_same ((t1.app t2).up (le_new (w.free hr))))
      · cases e'
  | rep =>
    cases px <;> cases py <;> try (cases e; done)
    case lst.int a k =>
      obtain ⟨p, vs, rfl, h1, t1⟩ := hx.lst w
      obtain rfl := hy.int
      have e' : (if a.length * k.toNat ≤ LIM ∧ k ≤ LIM ∧ -LIM ≤ k then some (PV.lst (List.replicate k.toNat a).flatten) else none) = some z := e
      split at e'
      · rename_i hl
        obtain ⟨l1, l2, l3⟩ := hl
        have : ((LIM : Nat) : Int) = 1000000 := rfl
        cases e'
        refine op_rep pins s σ H _ _ v u Q I rx ry ⟨_, _, _, rfl, rfl, h1, by omega, by omega, by rw [t1.len]; exact line_lim l1, fun r hr => ?_⟩
        exact f.new w hr (.lst upd_same ((t1.rep _).up (le_new (w.free hr))))
      · cases e'
end
end MP

/-! MP order: equality, order and membership of trees, over the library's data. -/
namespace MP
open PySem PySem.Spec PyProof.Rows L2

mutual
def toD : PV → PyData
  | .bl b => .bool b
  | .int i => .int i
  | .str s => .str s
  | .lst xs => .list (toDs xs)
  | .tup xs => .tuple (toDs xs)
  | _ => .none
def toDs : List PV → List PyData
  | [] => []
  | x :: xs => toD x :: toDs xs
end
theorem toDs_map : ∀ xs : List PV, toDs xs = xs.map toD
  | [] => by rw [toDs]; rfl
  | x :: xs => by rw [toDs, toDs_map xs]; rfl
theorem shp_all {n : Nat} {xs : List PV} (h : xs.all (shp n) = true) : ∀ x ∈ xs, shp n x = true := fun x hx => List.all_eq_true.mp h x hx
theorem shp_tup {n : Nat} {xs : List PV} : shp (n + 1) (.tup xs) = xs.all (shp n) := rfl
theorem shp_lst {n : Nat} {xs : List PV} : shp (n + 1) (.lst xs) = xs.all (shp n) := rfl
theorem shp_tup0 {xs : List PV} : shp 0 (.tup xs) = false := rfl
theorem shp_lst0 {xs : List PV} : shp 0 (.lst xs) = false := rfl
theorem shp_dct {n t : Nat} {xs} : shp n (.dct t xs) = false := by cases n <;> rfl
theorem shp_shr {n t : Nat} : shp n (.shr t) = false := by cases n <;> rfl
theorem shp_scr {n : Nat} {t} : shp n (.scr t) = false := by cases n <;> rfl
theorem shp_lck {n : Nat} {t} : shp n (.lck t) = false := by cases n <;> rfl
theorem shp_str {n : Nat} {s : Str} (h : shp n (.str s) = true) : PyData.strOk s = true := by cases n <;> exact h
mutual
theorem lay_shp : ∀ (n : Nat) (x : PV), shp n x = true → (toD x).canLay0 = true ∧ (toD x).depth ≤ n
  | n, .non, _ => by constructor <;> simp [toD, PyData.canLay0, PyData.depth]
  | n, .bl b, _ => by constructor <;> simp [toD, PyData.canLay0, PyData.depth]
  | n, .int i, _ => by constructor <;> simp [toD, PyData.canLay0, PyData.depth]
  | n, .str s, h => by
    constructor
    · simp [toD, PyData.canLay0]; exact shp_str h
    · simp [toD, PyData.depth]
  | 0, .tup xs, h => by rw [shp_tup0] at h; cases h
  | 0, .lst xs, h => by rw [shp_lst0] at h; cases h
  | n + 1, .tup xs, h => by
    rw [shp_tup] at h
    obtain ⟨h1, h2⟩ := lay_shps n xs h
    constructor
    · simp [toD, PyData.canLay0]; exact h1
    · simp [toD, PyData.depth]; exact h2
  | n + 1, .lst xs, h => by
    rw [shp_lst] at h
    obtain ⟨h1, h2⟩ := lay_shps n xs h
    constructor
    · simp [toD, PyData.canLay0]; exact h1
    · simp [toD, PyData.depth]; exact h2
  | n, .dct _ _, h => by rw [shp_dct] at h; cases h
  | n, .shr _, h => by rw [shp_shr] at h; cases h
  | n, .scr _, h => by rw [shp_scr] at h; cases h
  | n, .lck _, h => by rw [shp_lck] at h; cases h
theorem lay_shps : ∀ (n : Nat) (xs : List PV), xs.all (shp n) = true → PyData.canLayAll0 (toDs xs) = true ∧ PyData.depthAll (toDs xs) ≤ n
  | n, [], _ => by constructor <;> simp [toDs, PyData.canLayAll0, PyData.depthAll]
  | n, x :: xs, h => by
    rw [List.all_cons, Bool.and_eq_true] at h
    obtain ⟨h1, h2⟩ := lay_shp n x h.1
    obtain ⟨h3, h4⟩ := lay_shps n xs h.2
    constructor
    · simp only [toDs, PyData.canLayAll0, h1, h3, Bool.and_self]
    · simp only [toDs, PyData.depthAll]; omega
end
mutual
theorem peq_eqv : ∀ (n m : Nat) (x y : PV), shp n x = true → shp m y = true → peq x y = PyData.eqv (toD x) (toD y)
  | n, m, x, .dct _ _, _, h => by rw [shp_dct] at h; cases h
  | n, m, x, .shr _, _, h => by rw [shp_shr] at h; cases h
  | n, m, x, .scr _, _, h => by rw [shp_scr] at h; cases h
  | n, m, x, .lck _, _, h => by rw [shp_lck] at h; cases h
  | n, m, .dct _ _, y, h, _ => by rw [shp_dct] at h; cases h
  | n, m, .shr _, y, h, _ => by rw [shp_shr] at h; cases h
  | n, m, .scr _, y, h, _ => by rw [shp_scr] at h; cases h
  | n, m, .lck _, y, h, _ => by rw [shp_lck] at h; cases h
  | n, m, .tup xs, .tup ys, h1, h2 => by
    cases n with
    | zero => rw [shp_tup0] at h1; cases h1
    | succ n =>
      cases m with
      | zero => rw [shp_tup0] at h2; cases h2
      | succ m =>
        rw [shp_tup] at h1 h2
        simp only [toD, peq, PyData.eqv]
        exact peqs_eqv n m xs ys h1 h2
  | n, m, .lst xs, .lst ys, h1, h2 => by
    cases n with
    | zero => rw [shp_lst0] at h1; cases h1
    | succ n =>
      cases m with
      | zero => rw [shp_lst0] at h2; cases h2
      | succ m =>
        rw [shp_lst] at h1 h2
        simp only [toD, peq, PyData.eqv]
        exact peqs_eqv n m xs ys h1 h2
  | _, _, .non, .non, _, _ => by simp [toD, peq, PyData.eqv]
  | _, _, .non, .bl _, _, _ => by simp [toD, peq, PyData.eqv]
  | _, _, .non, .int _, _, _ => by simp [toD, peq, PyData.eqv]
  | _, _, .non, .str _, _, _ => by simp [toD, peq, PyData.eqv]
  | _, _, .non, .tup _, _, _ => by simp [toD, peq, PyData.eqv]
  | _, _, .non, .lst _, _, _ => by simp [toD, peq, PyData.eqv]
  | _, _, .bl _, .non, _, _ => by simp [toD, peq, PyData.eqv]
  | _, _, .bl _, .bl _, _, _ => by simp [toD, peq, PyData.eqv]
  | _, _, .bl _, .int _, _, _ => by simp [toD, peq, PyData.eqv]
  | _, _, .bl _, .str _, _, _ => by simp [toD, peq, PyData.eqv]
  | _, _, .bl _, .tup _, _, _ => by simp [toD, peq, PyData.eqv]
  | _, _, .bl _, .lst _, _, _ => by simp [toD, peq, PyData.eqv]
  | _, _, .int _, .non, _, _ => by simp [toD, peq, PyData.eqv]
  | _, _, .int _, .bl _, _, _ => by simp [toD, peq, PyData.eqv]
  | _, _, .int _, .int _, _, _ => by simp [toD, peq, PyData.eqv]
  | _, _, .int _, .str _, _, _ => by simp [toD, peq, PyData.eqv]
  | _, _, .int _, .tup _, _, _ => by simp [toD, peq, PyData.eqv]
  | _, _, .int _, .lst _, _, _ => by simp [toD, peq, PyData.eqv]
  | _, _, .str _, .non, _, _ => by simp [toD, peq, PyData.eqv]
  | _, _, .str _, .bl _, _, _ => by simp [toD, peq, PyData.eqv]
  | _, _, .str _, .int _, _, _ => by simp [toD, peq, PyData.eqv]
  | _, _, .str _, .str _, _, _ => by simp [toD, peq, PyData.eqv]
  | _, _, .str _, .tup _, _, _ => by simp [toD, peq, PyData.eqv]
  | _, _, .str _, .lst _, _, _ => by simp [toD, peq, PyData.eqv]
  | _, _, .tup _, .non, _, _ => by simp [toD, peq, PyData.eqv]
  | _, _, .tup _, .bl _, _, _ => by simp [toD, peq, PyData.eqv]
  | _, _, .tup _, .int _, _, _ => by simp [toD, peq, PyData.eqv]
  | _, _, .tup _, .str _, _, _ => by simp [toD, peq, PyData.eqv]
  | _, _, .tup _, .lst _, _, _ => by simp [toD, peq, PyData.eqv]
  | _, _, .lst _, .non, _, _ => by simp [toD, peq, PyData.eqv]
  | _, _, .lst _, .bl _, _, _ => by simp [toD, peq, PyData.eqv]
  | _, _, .lst _, .int _, _, _ => by simp [toD, peq, PyData.eqv]
  | _, _, .lst _, .str _, _, _ => by simp [toD, peq, PyData.eqv]
  | _, _, .lst _, .tup _, _, _ => by simp [toD, peq, PyData.eqv]
theorem peqs_eqv : ∀ (n m : Nat) (xs ys : List PV), xs.all (shp n) = true → ys.all (shp m) = true → peqs xs ys = PyData.eqvAll (toDs xs) (toDs ys)
  | _, _, [], [], _, _ => by simp [toDs, peqs, PyData.eqvAll]
  | _, _, [], _ :: _, _, _ => by simp [toDs, peqs, PyData.eqvAll]
  | _, _, _ :: _, [], _, _ => by simp [toDs, peqs, PyData.eqvAll]
  | n, m, x :: xs, y :: ys, h1, h2 => by
    rw [List.all_cons, Bool.and_eq_true] at h1 h2
    simp only [toDs, peqs, PyData.eqvAll, peq_eqv n m x y h1.1 h2.1, peqs_eqv n m xs ys h1.2 h2.2]
end
mutual
theorem alike_cmp : ∀ (x y : PV), cmpOk x y = true → PySem.W.alike (toD x) (toD y) = true ∧ toD x ≠ .none
  | .int _, .int _, _ => by simp [toD, PySem.W.alike]
  | .str _, .str _, _ => by simp [toD, PySem.W.alike]
  | .tup xs, .tup ys, h => by
    refine ⟨?_, by simp [toD]⟩
    simp only [toD, PySem.W.alike]
    exact alikes_cmp xs ys (by rw [cmpOk] at h; exact h)
  | .lst xs, .lst ys, h => by
    refine ⟨?_, by simp [toD]⟩
    simp only [toD, PySem.W.alike]
    exact alikes_cmp xs ys (by rw [cmpOk] at h; exact h)
  | .non, y, h => by cases y <;> simp [cmpOk] at h
  | .bl _, y, h => by cases y <;> simp [cmpOk] at h
  | .dct _ _, y, h => by cases y <;> simp [cmpOk] at h
  | .shr _, y, h => by cases y <;> simp [cmpOk] at h
  | .scr _, y, h => by cases y <;> simp [cmpOk] at h
  | .lck _, y, h => by cases y <;> simp [cmpOk] at h
  | .int _, .non, h | .int _, .bl _, h | .int _, .str _, h | .int _, .tup _, h | .int _, .lst _, h | .int _, .dct _ _, h | .int _, .shr _, h | .int _, .scr _, h | .int _, .lck _, h => by simp [cmpOk] at h
  | .str _, .non, h | .str _, .bl _, h | .str _, .int _, h | .str _, .tup _, h | .str _, .lst _, h | .str _, .dct _ _, h | .str _, .shr _, h | .str _, .scr _, h | .str _, .lck _, h => by simp [cmpOk] at h
  | .tup _, .non, h | .tup _, .bl _, h | .tup _, .int _, h | .tup _, .str _, h | .tup _, .lst _, h | .tup _, .dct _ _, h | .tup _, .shr _, h | .tup _, .scr _, h | .tup _, .lck _, h => by simp [cmpOk] at h
  | .lst _, .non, h | .lst _, .bl _, h | .lst _, .int _, h | .lst _, .str _, h | .lst _, .tup _, h | .lst _, .dct _ _, h | .lst _, .shr _, h | .lst _, .scr _, h | .lst _, .lck _, h => by simp [cmpOk] at h
theorem alikes_cmp : ∀ (xs ys : List PV), cmpOkL xs ys = true → PySem.W.alikeAll (toDs xs) (toDs ys) = true
  | [], _, _ => by simp [toDs, PySem.W.alikeAll]
  | _ :: _, [], _ => by simp [toDs, PySem.W.alikeAll]
  | x :: xs, y :: ys, h => by
    rw [cmpOkL, Bool.and_eq_true] at h
    simp only [toDs, PySem.W.alikeAll, (alike_cmp x y h.1).1, alikes_cmp xs ys h.2, Bool.and_self]
end
theorem rows_nn : PyProof.Rows.lexLt PyProof.Rows.itemOrd (PySem.W.keyToksAll []) (PySem.W.keyToksAll []) = false := PySem.W.dataLt_self (.list [])
theorem rows_nc (y : PyData) (ys : List PyData) : PyProof.Rows.lexLt PyProof.Rows.itemOrd (PySem.W.keyToksAll []) (PySem.W.keyToksAll (y :: ys)) = true := by
  simp only [PySem.W.keyToksAll]
  rw [PyProof.Rows.lex_cons]
  rfl
theorem rows_cn (y : PyData) (ys : List PyData) : PyProof.Rows.lexLt PyProof.Rows.itemOrd (PySem.W.keyToksAll (y :: ys)) (PySem.W.keyToksAll []) = false := by
  simp only [PySem.W.keyToksAll]
  rw [PyProof.Rows.lex_cons]
  rfl
mutual
theorem plt_data : ∀ (n m : Nat) (x y : PV), shp n x = true → shp m y = true → cmpOk x y = true → plt x y = PySem.W.dataLt (toD x) (toD y)
  | _, _, .int a, .int b, _, _, _ => by simp only [toD, plt, PySem.W.dataLt_int]
  | _, _, .str a, .str b, _, _, _ => by simp only [toD, plt, PySem.W.dataLt_str]
  | n, m, .tup xs, .tup ys, h1, h2, h => by
    cases n with
    | zero => rw [shp_tup0] at h1; cases h1
    | succ n =>
      cases m with
      | zero => rw [shp_tup0] at h2; cases h2
      | succ m =>
        rw [shp_tup] at h1 h2
        rw [cmpOk] at h
        simp only [toD, plt, PySem.W.dataLt_tuple]
        exact pltL_data n m xs ys h1 h2 h
  | n, m, .lst xs, .lst ys, h1, h2, h => by
    cases n with
    | zero => rw [shp_lst0] at h1; cases h1
    | succ n =>
      cases m with
      | zero => rw [shp_lst0] at h2; cases h2
      | succ m =>
        rw [shp_lst] at h1 h2
        rw [cmpOk] at h
        simp only [toD, plt, PySem.W.dataLt_list]
        exact pltL_data n m xs ys h1 h2 h
  | _, _, .non, y, _, _, h => by cases y <;> simp [cmpOk] at h
  | _, _, .bl _, y, _, _, h => by cases y <;> simp [cmpOk] at h
  | _, _, .dct _ _, y, _, _, h => by cases y <;> simp [cmpOk] at h
  | _, _, .shr _, y, _, _, h => by cases y <;> simp [cmpOk] at h
  | _, _, .scr _, y, _, _, h => by cases y <;> simp [cmpOk] at h
  | _, _, .lck _, y, _, _, h => by cases y <;> simp [cmpOk] at h
  | _, _, .int _, .non, _, _, h | _, _, .int _, .bl _, _, _, h | _, _, .int _, .str _, _, _, h | _, _, .int _, .tup _, _, _, h | _, _, .int _, .lst _, _, _, h | _, _, .int _, .dct _ _, _, _, h | _, _, .int _, .shr _, _, _, h | _, _, .int _, .scr _, _, _, h | _, _, .int _, .lck _, _, _, h => by simp [cmpOk] at h
  | _, _, .str _, .non, _, _, h | _, _, .str _, .bl _, _, _, h | _, _, .str _, .int _, _, _, h | _, _, .str _, .tup _, _, _, h | _, _, .str _, .lst _, _, _, h | _, _, .str _, .dct _ _, _, _, h | _, _, .str _, .shr _, _, _, h | _, _, .str _, .scr _, _, _, h | _, _, .str _, .lck _, _, _, h => by simp [cmpOk] at h
  | _, _, .tup _, .non, _, _, h | _, _, .tup _, .bl _, _, _, h | _, _, .tup _, .int _, _, _, h | _, _, .tup _, .str _, _, _, h | _, _, .tup _, .lst _, _, _, h | _, _, .tup _, .dct _ _, _, _, h | _, _, .tup _, .shr _, _, _, h | _, _, .tup _, .scr _, _, _, h | _, _, .tup _, .lck _, _, _, h => by simp [cmpOk] at h
  | _, _, .lst _, .non, _, _, h | _, _, .lst _, .bl _, _, _, h | _, _, .lst _, .int _, _, _, h | _, _, .lst _, .str _, _, _, h | _, _, .lst _, .tup _, _, _, h | _, _, .lst _, .dct _ _, _, _, h | _, _, .lst _, .shr _, _, _, h | _, _, .lst _, .scr _, _, _, h | _, _, .lst _, .lck _, _, _, h => by simp [cmpOk] at h
theorem pltL_data : ∀ (n m : Nat) (xs ys : List PV), xs.all (shp n) = true → ys.all (shp m) = true → cmpOkL xs ys = true → pltL xs ys = PyProof.Rows.lexLt PyProof.Rows.itemOrd (PySem.W.keyToksAll (toDs xs)) (PySem.W.keyToksAll (toDs ys))
  | _, _, [], [], _, _, _ => by simp only [pltL, toDs, rows_nn]
  | _, _, [], y :: ys, _, _, _ => by simp only [pltL, toDs, rows_nc]
  | _, _, x :: xs, [], _, _, _ => by simp only [pltL, toDs, rows_cn]
  | n, m, x :: xs, y :: ys, h1, h2, h => by
    rw [List.all_cons, Bool.and_eq_true] at h1 h2
    rw [cmpOkL, Bool.and_eq_true] at h
    simp only [pltL, toDs]
    rw [PySem.W.dataLt_cons (alike_cmp x y h.1).1, peq_eqv n m x y h1.1 h2.1, pltL_data n m xs ys h1.2 h2.2 h.2, plt_data n m x y h1.1 h2.1 h.1]
end
end MP

/-! MP cmp: comparisons, membership, subscripts by values. -/
namespace MP
open PySem PySem.Spec PyProof.Rows L2

section
variable {as : List Addr} {K : PySem.W.Frag} {G H : Hp} {D : DS}
mutual
theorem Tr.dp (w : Wd as K G H D) : ∀ {n : Nat} {v : V} {x : PV}, Tr as K G v x → shp n x = true → Dp K H v (toD x)
  | _, _, _, .non, _ => .non
  | _, _, _, .bl b, _ => .bl b
  | _, _, _, .int i, _ => .int i
  | _, _, _, .str s, _ => .str s
  | 0, _, _, .tupR _ _, h => by rw [shp_tup0] at h; cases h
  | _, _, _, .tupX _ _ _, h => by rw [shp_lck] at h; cases h
  | 0, _, _, .lst _ _, h => by rw [shp_lst0] at h; cases h
  | n + 1, _, _, .tupR h t, s => .tup (.inl (w.rd h)) (TrS.dp w t (shp_tup ▸ s))
  | n + 1, _, _, .lst h t, s => .lst (.of (w.sub _ _ h)) (TrS.dp w t (shp_lst ▸ s))
  | _, _, _, .dK _ _, s => by rw [shp_dct] at s; cases s
  | _, _, _, .dT _ _, s => by rw [shp_dct] at s; cases s
  | _, _, _, .shr _, s => by rw [shp_shr] at s; cases s
  | _, _, _, .scr _, s => by rw [shp_scr] at s; cases s
theorem TrS.dp (w : Wd as K G H D) : ∀ {n : Nat} {vs : List V} {xs : List PV}, TrS as K G vs xs → xs.all (shp n) = true → DpAll K H vs (toDs xs)
  | _, _, _, .nil, _ => .nil
  | n, _, _, .cons h t, s => by
    rw [List.all_cons, Bool.and_eq_true] at s
    exact .cons (Tr.dp w h s.1) (TrS.dp w t s.2)
end
theorem TrR.dp (w : Wd as K G H D) {n : Nat} {v : V} {x : PV} (r : TrR as K G H v x) (s : shp n x = true) : Dp K H v (toD x) := by
  rcases r with t | ⟨a, rfl, o⟩
  · exact t.dp w s
  · cases x with
    | lst xs =>
      obtain ⟨vs, h, t⟩ := o
      cases n with
      | zero => rw [shp_lst0] at s; cases s
      | succ n => exact .lst (.of h) (t.dp w (shp_lst ▸ s))
    | dct t kvs => rw [shp_dct] at s; cases s
    | _ => exact absurd o id
theorem shaped_of {x : PV} (s : shp DEP x = true) : SeqAt.shaped (toD x) = true := by
  obtain ⟨h1, h2⟩ := lay_shp DEP x s
  have : DEP = 20 := rfl
  unfold SeqAt.shaped
  rw [h1, Bool.true_and]
  exact decide_eq_true (by omega)

/-! ### keys -/
theorem kPV_peq (a b : Key) : peq (kPV a) (kPV b) = decide (a = b) := by
  cases a with
  | inl i =>
    cases b with
    | inl j =>
      rw [key_ll]
      simp only [kPV, peq]
    | inr y =>
      rw [key_lr]
      simp only [kPV, peq]
  | inr x =>
    cases b with
    | inl j =>
      rw [key_rl]
      simp only [kPV, peq]
    | inr y =>
      rw [key_rr]
      simp only [kPV, peq]
      by_cases e : x = y
      · subst e; simp
      · rw [decide_eq_false e]; exact beq_eq_false_iff_ne.mpr e
theorem kPVs_peq : ∀ a b : List Key, peqs (a.map kPV) (b.map kPV) = decide (a = b)
  | [], [] => by simp [peqs]
  | [], _ :: _ => by simp [peqs]
  | _ :: _, [] => by simp [peqs]
  | a :: as, b :: bs => by
    simp only [List.map_cons, peqs, kPV_peq, kPVs_peq as bs]
    by_cases e : a = b
    · subst e
      by_cases e2 : as = bs
      · subst e2; simp
      · simp [e2]
    · simp [e]
theorem key_of_isKey1 {x : PV} (h : isKey1 x = true) : ∃ k : Key, x = kPV k := by
  cases x with
  | int i => exact ⟨.inl i, rfl⟩
  | str s => exact ⟨.inr s, rfl⟩
  | _ => cases h
theorem keys_of_isKey : ∀ {xs : List PV}, xs.all isKey1 = true → ∃ ks : List Key, xs = ks.map kPV
  | [], _ => ⟨[], rfl⟩
  | x :: xs, h => by
    rw [List.all_cons, Bool.and_eq_true] at h
    obtain ⟨k, rfl⟩ := key_of_isKey1 h.1
    obtain ⟨ks, rfl⟩ := keys_of_isKey h.2
    exact ⟨k :: ks, rfl⟩
theorem isKey0 {x : PV} (h : isKey 0 x = true) : ∃ k : Key, x = kPV k := by
  cases x with
  | int i => exact ⟨.inl i, rfl⟩
  | str s => exact ⟨.inr s, rfl⟩
  | tup xs => simp [isKey] at h
  | _ => simp [isKey] at h
theorem isKeyT {x : PV} (h : isKey 1 x = true) : ∃ ks : List Key, x = .tup (ks.map kPV) := by
  cases x with
  | _ => simp [isKey] at h
theorem Tr.key {v : V} {k : Key} (t : Tr as K G v (kPV k)) : v = kV k := by
  cases k with
  | inl i => cases t; rfl
  | inr s => cases t; rfl
theorem TrS.keys : ∀ {vs : List V} {ks : List Key}, TrS as K G vs (ks.map kPV) → vs = ks.map kV
  | _, [], t => by cases t; rfl
  | _, k :: ks, t => by
    cases t with
    | cons h t => rw [h.key, TrS.keys t]; rfl
theorem TrR.key {v : V} {k : Key} (t : TrR as K G H v (kPV k)) : v = kV k := by
  rcases t with t | ⟨a, _, o⟩
  · exact t.key
  · cases k <;> exact absurd o id
/-- a look-up in the dict and in its tree -/
theorem TrK.get (k : Key) : ∀ {ks : List (Key × V)} {kvs : List (PV × PV)}, TrK as K G ks kvs → (valV ks k = none ∧ dGet (kPV k) kvs = none) ∨ ∃ v x, valV ks k = some v ∧ dGet (kPV k) kvs = some x ∧ Tr as K G v x
  | _, _, .nil => .inl ⟨rfl, rfl⟩
  | _, _, .cons (k := k') (x := x') (kvs := kvs') h t => by
    by_cases e : k' = k
    · subst e
      refine .inr ⟨_, _, valV_pos rfl, ?_, h⟩
      simp [dGet, kPV_peq]
    · rw [valV_neg (by exact e)]
      have e2 : dGet (kPV k) ((kPV k', x') :: kvs') = dGet (kPV k) kvs' := by
        rw [dGet, kPV_peq, if_neg (by simpa using e)]
      rw [e2]
      exact TrK.get k t
theorem TrT.get (k : List Key) : ∀ {ks : List (List Key × V)} {kvs : List (PV × PV)}, TrT as K G ks kvs → (valV ks k = none ∧ dGet (.tup (k.map kPV)) kvs = none) ∨ ∃ v x, valV ks k = some v ∧ dGet (.tup (k.map kPV)) kvs = some x ∧ Tr as K G v x
  | _, _, .nil => .inl ⟨rfl, rfl⟩
  | _, _, .cons (k := k') (x := x') (kvs := kvs') h t => by
    have ep : peq (.tup (k'.map kPV)) (.tup (k.map kPV)) = decide (k' = k) := by rw [peq, kPVs_peq]
    by_cases e : k' = k
    · subst e
      refine .inr ⟨_, _, valV_pos rfl, ?_, h⟩
      rw [dGet, ep, if_pos (by simp)]
    · rw [valV_neg (by exact e)]
      have e2 : dGet (.tup (k.map kPV)) ((.tup (k'.map kPV), x') :: kvs') = dGet (.tup (k.map kPV)) kvs' := by
        rw [dGet, ep, if_neg (by simpa using e)]
      rw [e2]
      exact TrT.get k t
/-- what d[k] asks of the layer -/
theorem dget_of (w : Wd as K G H D) {x y : V} {t : Nat} {kvs : List (PV × PV)} {k : PV} (hx : TrR as K G H x (.dct t kvs)) (hy : TrR as K G H y k) (hk : isKey t k = true) :
    ∃ a o, x = .ref a ∧ DGet H a y o ∧ ((o = none ∧ dGet k kvs = none) ∨ ∃ v z, o = some v ∧ dGet k kvs = some z ∧ Tr as K G v z) := by
  rcases hx.dct w with ⟨rfl, a, ks, rfl, h, tr⟩ | ⟨rfl, a, ks, rfl, h, tr⟩
  · obtain ⟨kk, rfl⟩ := isKey0 hk
    have e := hy.key
    subst e
    exact ⟨a, valV ks kk, rfl, .inl ⟨ks, kk, h, rfl, rfl⟩, tr.get kk⟩
  · exact absurd hk (by cases k <;> simp [isKey])
end

def coT : Co → CmpOp
  | .eq => .Eq | .ne => .NotEq | .lt => .Lt | .le => .LtE | .gt => .Gt | .ge => .GtE | .is_ => .Is | .isn => .IsNot | .in_ => .In | .nin => .NotIn
def rCmpM (K : PySem.W.Frag) (op : Co) : R2 := fun x y H Q => ∃ as G D px py z, Wd as K G H D ∧ TrR as K G H x px ∧ TrR as K G H y py ∧ pCmp op px py = some z ∧ Q (.bl z) H
section
variable {X : Cx}
theorem eq_both {as : List Addr} {K : PySem.W.Frag} {G H : Hp} {D : DS} {x y : V} {px py : PV} {z : Bool} (w : Wd as K G H D) (hx : TrR as K G H x px) (hy : TrR as K G H y py) (e : pEq px py = some z) :
    ∃ d1 d2, Dp K H x d1 ∧ Dp K H y d2 ∧ SeqAt.shaped d1 = true ∧ SeqAt.shaped d2 = true ∧ PyData.eqv d1 d2 = z := by
  have e' : (if (shp DEP px && shp DEP py) = true then some (peq px py) else none) = some z := e
  split at e'
  · rename_i h
    rw [Bool.and_eq_true] at h
    cases e'
    exact ⟨_, _, hx.dp w h.1, hy.dp w h.2, shaped_of h.1, shaped_of h.2, (peq_eqv _ _ _ _ h.1 h.2).symm⟩
  · cases e'
theorem in_seq (hu : X.A.units + 65 < cLine) {neg : Bool} {as : List Addr} {G : Hp} {D : DS} {px : PV} {ys : List PV} {z : Bool} {a : Addr} {vs : List V} {pins : List (Addr × Obj)} {s : Shared} {σ : L2.St} {H : Hp} {x : V} {v : Value} {Q : VK}
    (I : Inv X pins σ H s) (w : Wd as X.K G H D) (rx : RelV x v) (hx : TrR as X.K G H x px) (t : TrS as X.K G vs ys) (hs : shp DEP px = true) (hys : ys.all (shp DEP) = true)
    (h : H a = some (.lst vs) ∨ Rd H a (.tup vs)) (q : Q (.bl (if neg then !(ys.any fun y => peq y px) else ys.any fun y => peq y px)) H) :
    wpAny (model X.prog X.w) X.A (compareOp (if neg then .NotIn else .In) v (.ref a)) (EP X pins σ Q) X.xe s := by
  obtain ⟨bs, r1⟩ := Dp.reads I _ x v (hx.dp w hs) rx
  obtain ⟨l1, l2⟩ := lay_shp DEP px hs
  obtain ⟨l3, l4⟩ := lay_shps DEP ys hys
  have hd : DEP = 20 := rfl
  have hroom : X.A.units + 1 + min (PyData.depthAll (toDs ys)) (toD px).depth < cLine := by
    have := Nat.min_le_right (PyData.depthAll (toDs ys)) (toD px).depth
    omega
  have eany : ((toDs ys).any fun y => PyData.eqv y (toD px)) = ys.any fun y => peq y px := by
    rw [toDs_map, List.any_map]
    have : ∀ l : List PV, l.all (shp DEP) = true → l.any ((fun y => PyData.eqv y (toD px)) ∘ toD) = l.any fun y => peq y px := by
      intro l
      induction l with
      | nil => intro _; rfl
      | cons y l ih =>
        intro hl
        rw [List.all_cons, Bool.and_eq_true] at hl
        rw [List.any_cons, List.any_cons, ih hl.2, Function.comp, peq_eqv _ _ _ _ hl.1 hs]
    exact this ys hys
  rcases h with h | h
  · have hd : Dp X.K H (.ref a) (.list (toDs ys)) := .lst (.of h) (t.dp w hys)
    obtain ⟨cs, r2⟩ := Dp.reads I _ (.ref a) (.ref a) hd rfl
    cases neg with
    | false => exact SeqAt.in_list_reads r2 r1 l3 l1 hroom (by rw [eany]; exact ⟨.bl _, H, I, rfl, q⟩)
    | true => exact SeqAt.notIn_list_reads r2 r1 l3 l1 hroom (by rw [eany]; exact ⟨.bl _, H, I, rfl, q⟩)
  · have hd : Dp X.K H (.ref a) (.tuple (toDs ys)) := .tup (.inl h) (t.dp w hys)
    obtain ⟨cs, r2⟩ := Dp.reads I _ (.ref a) (.ref a) hd rfl
    cases neg with
    | false => exact SeqAt.in_tuple_reads r2 r1 l3 l1 hroom (by rw [eany]; exact ⟨.bl _, H, I, rfl, q⟩)
    | true => exact SeqAt.notIn_tuple_reads r2 r1 l3 l1 hroom (by rw [eany]; exact ⟨.bl _, H, I, rfl, q⟩)
theorem lt_both {as : List Addr} {K : PySem.W.Frag} {G H : Hp} {D : DS} {x y : V} {px py : PV} {z : Bool} (w : Wd as K G H D) (hx : TrR as K G H x px) (hy : TrR as K G H y py) (e : pLt px py = some z) :
    Dp K H x (toD px) ∧ Dp K H y (toD py) ∧ PySem.W.alike (toD px) (toD py) = true ∧ toD px ≠ .none ∧ (toD px).depth ≤ 20 ∧ PySem.W.dataLt (toD px) (toD py) = z := by
  have e' : (if (shp DEP px && shp DEP py && cmpOk px py) = true then some (plt px py) else none) = some z := e
  split at e'
  · rename_i h
    rw [Bool.and_eq_true, Bool.and_eq_true] at h
    obtain ⟨⟨h1, h2⟩, h3⟩ := h
    cases e'
    obtain ⟨a1, a2⟩ := alike_cmp _ _ h3
    exact ⟨hx.dp w h1, hy.dp w h2, a1, a2, (lay_shp DEP _ h1).2, (plt_data _ _ _ _ h1 h2 h3).symm⟩
  · cases e'
theorem in_dct (hu : X.A.units + 65 < cLine) {neg : Bool} {as : List Addr} {G : Hp} {D : DS} {px : PV} {t : Nat} {kvs : List (PV × PV)} {z : Bool} {pins : List (Addr × Obj)} {s : Shared} {σ : L2.St} {H : Hp} {x y : V} {v u : Value} {Q : VK}
    (I : Inv X pins σ H s) (w : Wd as X.K G H D) (rx : RelV x v) (ry : RelV y u) (hx : TrR as X.K G H x px) (hy : TrR as X.K G H y (.dct t kvs)) (hk : isKey t px = true)
    (q : Q (.bl (if neg then !(dGet px kvs).isSome else (dGet px kvs).isSome)) H) :
    wpAny (model X.prog X.w) X.A (compareOp (if neg then .NotIn else .In) v u) (EP X pins σ Q) X.xe s := by
  obtain ⟨a, o, rfl, g, ho⟩ := dget_of w hy hx hk
  have eo : o.isSome = (dGet px kvs).isSome := by
    rcases ho with ⟨h1, h2⟩ | ⟨v, z, h1, h2, _⟩
    · rw [h1, h2]; rfl
    · rw [h1, h2]; rfl
  cases (show u = Value.ref a from ry)
  cases neg with
  | false => exact d_in (by omega) I g rx fun s' I' => ⟨.bl _, H, I', rfl, by rw [eo]; exact q⟩
  | true => exact d_notIn (by omega) I g rx fun s' I' => ⟨.bl _, H, I', rfl, by rw [eo]; exact q⟩
theorem op_cmpM (hu : X.A.units + 65 < cLine) (op : Co) : OpR X (compareOp (coT op)) (rCmpM X.K op) := by
  intro pins s σ H x y v u Q I rx ry h
  obtain ⟨as, G, D, px, py, z, w, hx, hy, e, q⟩ := h
  have hin : ∀ neg : Bool, ∀ z', pIn px py = some z' → Q (.bl (if neg then !z' else z')) H → wpAny (model X.prog X.w) X.A (compareOp (if neg then .NotIn else .In) v u) (EP X pins σ Q) X.xe s := by
    intro neg z' e9 q9
    unfold pIn at e9
    split at e9
    · rename_i ys
      split at e9
      · rename_i hs
        rw [Bool.and_eq_true] at hs
        cases e9
        obtain ⟨a, vs, rfl, h1, t1⟩ := hy.lst w
        cases (show u = Value.ref a from ry)
        exact in_seq (z := true) hu I w rx hx t1 hs.1 hs.2 (.inl h1) q9
      · cases e9
    · rename_i ys
      split at e9
      · rename_i hs
        rw [Bool.and_eq_true] at hs
        cases e9
        obtain ⟨a, vs, rfl, h1, _, t1⟩ := hy.tup w
        cases (show u = Value.ref a from ry)
        exact in_seq (z := true) hu I w rx hx t1 hs.1 hs.2 (.inr h1) q9
      · cases e9
    · split at e9
      · rename_i hk
        cases e9
        exact in_dct (z := true) hu I w rx ry hx hy hk q9
      · cases e9
    · rename_i a b
      split at e9
      · rename_i hl
        cases e9
        obtain rfl := hx.str
        obtain rfl := hy.str
        obtain ⟨c, rfl⟩ : ∃ c, a = ⟨#[c]⟩ := by
          obtain ⟨cs⟩ := a
          have hl' : cs.size = 1 := hl
          obtain ⟨l⟩ := cs
          match l, hl' with
          | [c], _ => exact ⟨c, rfl⟩
        have ec : decide (([c] : List Nat).headD 0 ∈ b.cps.toList) = decide (c ∈ b.cps.toList) := rfl
        cases neg with
        | false => exact op_in_sign pins s σ H _ _ v u Q I rx ry ⟨c, b, rfl, rfl, q9⟩
        | true => exact op_notIn_sign pins s σ H _ _ v u Q I rx ry ⟨c, b, rfl, rfl, q9⟩
      · cases e9
    · cases e9
  cases op with
  | eq =>
    obtain ⟨d1, d2, h1, h2, h3, h4, h5⟩ := eq_both w hx hy e
    exact op_eqD (by omega) pins s σ H x y v u Q I rx ry ⟨d1, d2, h1, h2, h3, h4, by rw [h5]; exact q⟩
  | ne =>
    obtain ⟨z', e1, e2⟩ := Option.map_eq_some_iff.mp (show (pEq px py).map (!·) = some z from e)
    obtain ⟨d1, d2, h1, h2, h3, h4, h5⟩ := eq_both w hx hy e1
    exact op_neD (by omega) pins s σ H x y v u Q I rx ry ⟨d1, d2, h1, h2, h3, h4, by rw [h5]; rw [← e2] at q; exact q⟩
  | lt =>
    obtain ⟨h1, h2, h3, h4, h5, h6⟩ := lt_both w hx hy e
    obtain ⟨as1, r1⟩ := Dp.reads I _ x v h1 rx
    obtain ⟨as2, r2⟩ := Dp.reads I _ y u h2 ry
    exact PySem.W.lt_data r1 r2 h3 h4 (by have := Nat.min_le_left (toD px).depth (toD py).depth; omega) ⟨.bl z, H, I, by rw [h6]; rfl, q⟩
  | gt =>
    obtain ⟨h1, h2, h3, h4, h5, h6⟩ := lt_both w hy hx e
    obtain ⟨as1, r1⟩ := Dp.reads I _ y u h1 ry
    obtain ⟨as2, r2⟩ := Dp.reads I _ x v h2 rx
    have h3' : PySem.W.alike (toD px) (toD py) = true := by rw [PySem.W.alike_comm]; exact h3
    exact PySem.W.gt_data r2 r1 h3' (PySem.W.ne_none_both h3 h4) (by have := Nat.min_le_right (toD px).depth (toD py).depth; omega) ⟨.bl z, H, I, by rw [h6]; rfl, q⟩
  | le =>
    cases px <;> cases py <;> try (cases e; done)
    case int.int a b =>
      cases e
      obtain rfl := hx.int
      obtain rfl := hy.int
      exact op_le pins s σ H _ _ v u Q I rx ry ⟨_, _, rfl, rfl, q⟩
    case str.str a b =>
      cases e
      obtain rfl := hx.str
      obtain rfl := hy.str
      obtain ⟨as1, r1⟩ := Dp.reads I _ (.str a) v (.str a) rx
      obtain ⟨as2, r2⟩ := Dp.reads I _ (.str b) u (.str b) ry
      refine PySem.W.le_data r1 r2 (by simp [PySem.W.alike]) (by simp) (by simp [PyData.depth]; omega) ?_
      rw [PySem.W.dataLt_str]
      exact ⟨.bl _, H, I, rfl, q⟩
  | ge =>
    cases px <;> cases py <;> try (cases e; done)
    case int.int a b =>
      cases e
      obtain rfl := hx.int
      obtain rfl := hy.int
      exact op_ge pins s σ H _ _ v u Q I rx ry ⟨_, _, rfl, rfl, q⟩
    case str.str a b =>
      cases e
      obtain rfl := hx.str
      obtain rfl := hy.str
      obtain ⟨as1, r1⟩ := Dp.reads I _ (.str a) v (.str a) rx
      obtain ⟨as2, r2⟩ := Dp.reads I _ (.str b) u (.str b) ry
      refine PySem.W.ge_data r1 r2 (by simp [PySem.W.alike]) (by simp) (by simp [PyData.depth]; omega) ?_
      rw [PySem.W.dataLt_str]
      exact ⟨.bl _, H, I, rfl, q⟩
  | is_ =>
    cases py <;> try (cases e; done)
    have ey := hy.non
    subst ey
    have ex : decide (x = V.non) = z := by
      have e' : isNon px = z := Option.some.inj e
      rcases hx with t | ⟨a, rfl, o⟩
      · cases t <;> first | (rw [← e']; rfl) | (rw [← e']; simp)
      · rw [← e']
        cases px <;> first | rfl | (simp; done) | exact absurd o id
    exact op_isN pins s σ H x _ v u Q I rx ry ⟨rfl, by rw [ex]; exact q⟩
  | isn =>
    cases py <;> try (cases e; done)
    have ey := hy.non
    subst ey
    have ex : (!decide (x = V.non)) = z := by
      have e' : (!isNon px) = z := Option.some.inj e
      rcases hx with t | ⟨a, rfl, o⟩
      · cases t <;> first | (rw [← e']; rfl) | (rw [← e']; simp)
      · rw [← e']
        cases px <;> first | rfl | (simp; done) | exact absurd o id
    exact op_notN pins s σ H x _ v u Q I rx ry ⟨rfl, by rw [ex]; exact q⟩
  | in_ => exact hin false z e q
  | nin =>
    obtain ⟨z', e1, e2⟩ := Option.map_eq_some_iff.mp (show (pIn px py).map (!·) = some z from e)
    exact hin true z' e1 (by rw [← e2] at q; exact q)
end

/-! ### subscripts -/
def rIxM (K : PySem.W.Frag) : R2 := fun x y H Q => ∃ as G D px py z, Wd as K G H D ∧ TrR as K G H x px ∧ TrR as K G H y py ∧ pIdx px py = some z ∧ ∀ v, Tr as K G v z → Q v H
theorem ixN_eq (n : Nat) (i : Int) : MP.ixN n i = L2.ixN n i := rfl
section
variable {X : Cx}
theorem ix_dct (hu : X.A.units + 65 < cLine) {value slice : Expr} {pins : List (Addr × Obj)} {s : Shared} {σ : L2.St} {H : Hp} {a : Addr} {y v : V} {u : Value} {Q : VK} (I : Inv X pins σ H s) (g : DGet H a y (some v)) (ry : RelV y u)
    (hs : subscripted slice false (.ref a) u = operate [.ref a, u] (getItem (.ref a) u)) (q : Q v H) : wpAny (model X.prog X.w) X.A (subscriptTail value slice (.ref a) u) (EP X pins σ Q) X.xe s := by
  have hT := dict_typeIs I g
  exact tail_any hT PySem.F.slot_dict_getitem.lookup (d_getItem (by omega) I g ry fun w' s' I' rw' => ⟨v, H, I', rw', q⟩) hs
theorem ix_M (hu : X.A.units + 65 < cLine) : IxR X (rIxM X.K) := by
  intro value slice pins s σ H x y v u Q I rx ry h hs
  obtain ⟨as, G, D, px, py, z, w, hx, hy, e, q⟩ := h
  unfold pIdx at e
  split at e
  · rename_i xs i
    obtain ⟨j, e1, e2⟩ := Option.bind_eq_some_iff.mp e
    obtain ⟨a, vs, rfl, h1, t1⟩ := hx.lst w
    obtain rfl := hy.int
    obtain ⟨vj, g1, g2⟩ := t1.get e2
    refine ix_list value slice pins s σ H _ _ v u Q I rx ry ⟨a, vs, i, vj, rfl, rfl, .of h1, ?_, q vj g2⟩ hs
    unfold atI
    rw [t1.len, ← ixN_eq, e1]
    exact g1
  · rename_i ns i
    obtain ⟨j, e1, e2⟩ := Option.bind_eq_some_iff.mp e
    obtain ⟨n, e3, e4⟩ := Option.map_eq_some_iff.mp e2
    obtain ⟨a, rfl, h1⟩ := hx.scr w
    obtain rfl := hy.int
    subst e4
    refine ix_list value slice pins s σ H _ _ v u Q I rx ry ⟨a, _, i, .int n, rfl, rfl, h1, ?_, q _ (.int n)⟩ hs
    unfold atI
    rw [List.length_map, ← ixN_eq, e1]
    show (ns.map V.int)[j]? = _
    rw [List.getElem?_map, e3]; rfl
  · rename_i xs i
    obtain ⟨j, e1, e2⟩ := Option.bind_eq_some_iff.mp e
    obtain ⟨a, vs, rfl, h1, _, t1⟩ := hx.tup w
    obtain rfl := hy.int
    obtain ⟨vj, g1, g2⟩ := t1.get e2
    refine ix_tup value slice pins s σ H _ _ v u Q I rx ry ⟨a, vs, i, vj, rfl, rfl, .inl h1, ?_, q vj g2⟩ hs
    unfold atI
    rw [t1.len, ← ixN_eq, e1]
    exact g1
  · rename_i z' i
    split at e
    · rename_i hl
      obtain ⟨j, e1, e2⟩ := Option.bind_eq_some_iff.mp e
      obtain ⟨c, e3, e4⟩ := Option.map_eq_some_iff.mp e2
      obtain rfl := hx.str
      obtain rfl := hy.int
      subst e4
      refine ix_str value slice pins s σ H _ _ v u Q I rx ry ⟨z', i, c, rfl, rfl, line_lim hl, ?_, q _ (.str _)⟩ hs
      unfold atI
      have hlen : z'.cps.toList.length = z'.length := by simp [Str.length]
      rw [hlen, ← ixN_eq, e1]
      exact e3
    · cases e
  · rename_i t kvs k
    split at e
    · rename_i hk
      obtain ⟨a, o, rfl, g, ho⟩ := dget_of w hx hy hk
      rcases ho with ⟨h1, h2⟩ | ⟨vv, zz, h1, h2, h3⟩
      · rw [h2] at e; cases e
      · rw [h2] at e
        cases e
        subst h1
        cases (show v = Value.ref a from rx)
        exact ix_dct hu I g ry hs (q _ h3)
    · cases e
  · cases e
end
end MP

/-! MP builtins: len, min, max, sorted, .. by values. -/
namespace MP
open PySem PySem.Spec PyProof.Rows L2

def biV : Bi → Value
  | .len => .builtin "len" | .abs => .builtin "abs" | .min => .builtin "min" | .max => .builtin "max" | .sum => .builtin "sum" | .sorted => .builtin "sorted"
  | .tuple => .type "tuple" | .list => .type "list" | .dict => .type "dict" | .dictT => .type "dict" | .int => .type "int" | .all => .builtin "all" | .any => .builtin "any"
  | .setLen => .none | .sortedSet => .none | .tupRange => .none | .listRange => .none | .tupX => .none
inductive TrRs (as : List Addr) (K : PySem.W.Frag) (G H : Hp) : List V → List PV → Prop
  | nil : TrRs as K G H [] []
  | cons {v : V} {x : PV} {vs : List V} {xs : List PV} : TrR as K G H v x → TrRs as K G H vs xs → TrRs as K G H (v :: vs) (x :: xs)
def rBiF (K : PySem.W.Frag) (b : Bi) : List V → Hp → VK → Prop := fun vs H Q => ∃ as G D xs z, Wd as K G H D ∧ TrRs as K G H vs xs ∧ pBi b xs = some z ∧ FinF as K G H D z Q
def rBiM (K : PySem.W.Frag) (b : Bi) : List V → Hp → VK → Prop := fun vs H Q => ∃ as G D xs z, Wd as K G H D ∧ TrRs as K G H vs xs ∧ pBi b xs = some z ∧ Fin_ as K G H D z Q
section
variable {as : List Addr} {K : PySem.W.Frag} {G H : Hp} {D : DS}
theorem mapO_ints : ∀ {xs : List PV} {ns : List Int}, mapO intOf xs = some ns → xs = ns.map .int
  | [], _, h => by cases h; rfl
  | x :: xs, ns, h => by
    obtain ⟨y, h1, h2⟩ := Option.bind_eq_some_iff.mp (show (intOf x).bind (fun y => (mapO intOf xs).bind fun ys => some (y :: ys)) = some ns from h)
    obtain ⟨ys, h3, h4⟩ := Option.bind_eq_some_iff.mp h2
    cases h4
    rw [mapO_ints h3]
    cases x with
    | int i => cases h1; rfl
    | _ => cases h1
theorem mapO_bls : ∀ {xs : List PV} {ns : List Bool}, mapO blOf xs = some ns → xs = ns.map .bl
  | [], _, h => by cases h; rfl
  | x :: xs, ns, h => by
    obtain ⟨y, h1, h2⟩ := Option.bind_eq_some_iff.mp (show (blOf x).bind (fun y => (mapO blOf xs).bind fun ys => some (y :: ys)) = some ns from h)
    obtain ⟨ys, h3, h4⟩ := Option.bind_eq_some_iff.mp h2
    cases h4
    rw [mapO_bls h3]
    cases x with
    | bl i => cases h1; rfl
    | _ => cases h1
theorem TrS.toInts : ∀ {vs : List V} {ns : List Int}, TrS as K G vs (ns.map PV.int) → vs = ns.map V.int
  | _, [], h => by cases h; rfl
  | _, n :: ns, h => by
    cases h with
    | cons a t => cases a; rw [TrS.toInts t]; rfl
theorem TrS.toBls : ∀ {vs : List V} {ns : List Bool}, TrS as K G vs (ns.map PV.bl) → vs = ns.map V.bl
  | _, [], h => by cases h; rfl
  | _, n :: ns, h => by
    cases h with
    | cons a t => cases a; rw [TrS.toBls t]; rfl
theorem TrR.seq (w : Wd as K G H D) {x : V} {p : PV} {xs : List PV} (h : TrR as K G H x p) (e : seqOf p = some xs) : ∃ a vs, x = .ref a ∧ (H a = some (.lst vs) ∨ (Rd H a (.tup vs) ∧ Rd G a (.tup vs) ∧ p = .tup xs)) ∧ TrS as K G vs xs := by
  cases p with
  | lst ys =>
    cases e
    obtain ⟨a, vs, r, h1, t⟩ := h.lst w
    exact ⟨a, vs, r, .inl h1, t⟩
  | tup ys =>
    cases e
    obtain ⟨a, vs, r, h1, h2, t⟩ := h.tup w
    exact ⟨a, vs, r, .inr ⟨h1, h2, rfl⟩, t⟩
  | _ => cases e
/-- what an item of a list stands for -/
def Itm (as : List Addr) (K : PySem.W.Frag) (G : Hp) (u : Value) (x : PV) : Prop := ∃ v, RelV v u ∧ Tr as K G v x
theorem each_of : ∀ {vs : List V} {us : List Value} {xs : List PV}, Vals vs us → TrS as K G vs xs → PySem.W.EachIs (Itm as K G) us xs
  | _, _, _, .nil, .nil => .nil
  | _, _, _, .cons r t, .cons h k => .cons ⟨_, r, h⟩ (each_of t k)
theorem of_each : ∀ {us : List Value} {xs : List PV}, PySem.W.EachIs (Itm as K G) us xs → ∃ vs, Vals vs us ∧ TrS as K G vs xs
  | _, _, .nil => ⟨[], .nil, .nil⟩
  | _, _, .cons ⟨v, r, h⟩ t => by
    obtain ⟨vs, r2, h2⟩ := of_each t
    exact ⟨v :: vs, .cons r r2, .cons h h2⟩
theorem each_reads {X : Cx} {pins : List (Addr × Obj)} {σ : L2.St} {s : Shared} (I : Inv X pins σ H s) (w : Wd as X.K G H D) {us : List Value} {xs : List PV} (h : PySem.W.EachIs (Itm as X.K G) us xs) (hs : xs.all (shp DEP) = true) :
    PySem.W.EachIs (fun u x => ∃ bs, Reads s.heap u (toD x) bs) us xs := by
  induction h with
  | nil => exact .nil
  | cons h t ih =>
    rw [List.all_cons, Bool.and_eq_true] at hs
    obtain ⟨v, r, tr⟩ := h
    exact .cons (Dp.reads I _ v _ (tr.dp w hs.1) r) (ih hs.2)
theorem ord_all {xs : List PV} (h : ordOk xs = true) : xs.all (shp DEP) = true ∧ ∀ x ∈ xs, ∀ y ∈ xs, cmpOk x y = true := by
  unfold ordOk at h
  refine ⟨List.all_eq_true.mpr fun x hx => ?_, fun x hx y hy => ?_⟩
  · have := List.all_eq_true.mp h x hx
    rw [Bool.and_eq_true] at this
    exact this.1
  · have := List.all_eq_true.mp h x hx
    rw [Bool.and_eq_true] at this
    exact List.all_eq_true.mp this.2 y hy
theorem ord_alike {xs : List PV} (h : ordOk xs = true) : PySem.W.AllAlike (xs.map toD) := by
  obtain ⟨h1, h2⟩ := ord_all h
  intro d hd d' hd'
  obtain ⟨x, hx, rfl⟩ := List.mem_map.mp hd
  obtain ⟨y, hy, rfl⟩ := List.mem_map.mp hd'
  exact (alike_cmp x y (h2 x hx y hy)).1
theorem ord_AlikeAll {xs : List PV} (h : ordOk xs = true) : PySem.W.AlikeAll (toDs xs) := by
  obtain ⟨h1, h2⟩ := ord_all h
  rw [toDs_map]
  refine ⟨ord_alike h, fun d hd => ?_⟩
  obtain ⟨x, hx, rfl⟩ := List.mem_map.mp hd
  exact (alike_cmp x x (h2 x hx x hx)).2
theorem srt_sortable {xs : List PV} (h : ordOk xs = true) (h2 : srtOk xs = true) : PySem.W.Sortable (xs.map toD) := by
  obtain ⟨h3, h4⟩ := ord_all h
  unfold srtOk at h2
  rw [Bool.or_eq_true] at h2
  rcases h2 with h2 | h2
  · left
    intro d hd
    obtain ⟨x, hx, rfl⟩ := List.mem_map.mp hd
    have := List.all_eq_true.mp h2 x hx
    cases x with
    | tup l =>
      cases l with
      | nil => cases this
      | cons a l => exact ⟨toD a, toDs l, by simp [toD, toDs]⟩
    | _ => cases this
  · right
    intro d hd
    obtain ⟨x, hx, rfl⟩ := List.mem_map.mp hd
    have := List.all_eq_true.mp h2 x hx
    refine ⟨(alike_cmp x x (h4 x hx x hx)).2, fun l e => ?_⟩
    cases x with
    | tup l => cases this
    | _ => simp [toD] at e
theorem merge_eq {xs : List PV} (h : ordOk xs = true) : xs.mergeSort (fun a b => !plt b a) = xs.mergeSort (PySem.W.dataLe false toD) := by
  obtain ⟨h3, h4⟩ := ord_all h
  have e : ∀ a ∈ xs, ∀ b ∈ xs, (!plt b a) = PySem.W.dataLe false toD a b := fun a ha b hb => by
    rw [PySem.W.dataLe_eq]
    show (!plt b a) = !PySem.W.dataLt (toD b) (toD a)
    rw [plt_data DEP DEP b a (List.all_eq_true.mp h3 b hb) (List.all_eq_true.mp h3 a ha) (h4 b hb a ha)]
  exact PySem.W.sort_congr e
end

/-! ### toD tells trees apart -/
mutual
theorem toD_inj : ∀ (n m : Nat) (x y : PV), shp n x = true → shp m y = true → toD x = toD y → x = y
  | n, m, x, .dct _ _, _, h, _ => by rw [shp_dct] at h; cases h
  | n, m, x, .shr _, _, h, _ => by rw [shp_shr] at h; cases h
  | n, m, x, .scr _, _, h, _ => by rw [shp_scr] at h; cases h
  | n, m, x, .lck _, _, h, _ => by rw [shp_lck] at h; cases h
  | n, m, .dct _ _, y, h, _, _ => by rw [shp_dct] at h; cases h
  | n, m, .shr _, y, h, _, _ => by rw [shp_shr] at h; cases h
  | n, m, .scr _, y, h, _, _ => by rw [shp_scr] at h; cases h
  | n, m, .lck _, y, h, _, _ => by rw [shp_lck] at h; cases h
  | n, m, .tup xs, .tup ys, h1, h2, e => by
    cases n with
    | zero => rw [shp_tup0] at h1; cases h1
    | succ n =>
      cases m with
      | zero => rw [shp_tup0] at h2; cases h2
      | succ m =>
        rw [shp_tup] at h1 h2
        simp only [toD, PyData.tuple.injEq] at e
        rw [toDs_inj n m xs ys h1 h2 e]
  | n, m, .lst xs, .lst ys, h1, h2, e => by
    cases n with
    | zero => rw [shp_lst0] at h1; cases h1
    | succ n =>
      cases m with
      | zero => rw [shp_lst0] at h2; cases h2
      | succ m =>
        rw [shp_lst] at h1 h2
        simp only [toD, PyData.list.injEq] at e
        rw [toDs_inj n m xs ys h1 h2 e]
  | _, _, .non, .non, _, _, _ => rfl
  | _, _, .bl _, .bl _, _, _, e => by simp only [toD, PyData.bool.injEq] at e; rw [e]
  | _, _, .int _, .int _, _, _, e => by simp only [toD, PyData.int.injEq] at e; rw [e]
  | _, _, .str _, .str _, _, _, e => by simp only [toD, PyData.str.injEq] at e; rw [e]
  | _, _, .non, .bl _, _, _, e => by simp [toD] at e
  | _, _, .non, .int _, _, _, e => by simp [toD] at e
  | _, _, .non, .str _, _, _, e => by simp [toD] at e
  | _, _, .non, .tup _, _, _, e => by simp [toD] at e
  | _, _, .non, .lst _, _, _, e => by simp [toD] at e
  | _, _, .bl _, .non, _, _, e => by simp [toD] at e
  | _, _, .bl _, .int _, _, _, e => by simp [toD] at e
  | _, _, .bl _, .str _, _, _, e => by simp [toD] at e
  | _, _, .bl _, .tup _, _, _, e => by simp [toD] at e
  | _, _, .bl _, .lst _, _, _, e => by simp [toD] at e
  | _, _, .int _, .non, _, _, e => by simp [toD] at e
  | _, _, .int _, .bl _, _, _, e => by simp [toD] at e
  | _, _, .int _, .str _, _, _, e => by simp [toD] at e
  | _, _, .int _, .tup _, _, _, e => by simp [toD] at e
  | _, _, .int _, .lst _, _, _, e => by simp [toD] at e
  | _, _, .str _, .non, _, _, e => by simp [toD] at e
  | _, _, .str _, .bl _, _, _, e => by simp [toD] at e
  | _, _, .str _, .int _, _, _, e => by simp [toD] at e
  | _, _, .str _, .tup _, _, _, e => by simp [toD] at e
  | _, _, .str _, .lst _, _, _, e => by simp [toD] at e
  | _, _, .tup _, .non, _, _, e => by simp [toD] at e
  | _, _, .tup _, .bl _, _, _, e => by simp [toD] at e
  | _, _, .tup _, .int _, _, _, e => by simp [toD] at e
  | _, _, .tup _, .str _, _, _, e => by simp [toD] at e
  | _, _, .tup _, .lst _, _, _, e => by simp [toD] at e
  | _, _, .lst _, .non, _, _, e => by simp [toD] at e
  | _, _, .lst _, .bl _, _, _, e => by simp [toD] at e
  | _, _, .lst _, .int _, _, _, e => by simp [toD] at e
  | _, _, .lst _, .str _, _, _, e => by simp [toD] at e
  | _, _, .lst _, .tup _, _, _, e => by simp [toD] at e
theorem toDs_inj : ∀ (n m : Nat) (xs ys : List PV), xs.all (shp n) = true → ys.all (shp m) = true → toDs xs = toDs ys → xs = ys
  | _, _, [], [], _, _, _ => rfl
  | _, _, [], _ :: _, _, _, e => by simp [toDs] at e
  | _, _, _ :: _, [], _, _, e => by simp [toDs] at e
  | n, m, x :: xs, y :: ys, h1, h2, e => by
    rw [List.all_cons, Bool.and_eq_true] at h1 h2
    simp only [toDs, List.cons.injEq] at e
    rw [toD_inj n m x y h1.1 h2.1 e.1, toDs_inj n m xs ys h1.2 h2.2 e.2]
end

theorem minL_data {xs : List PV} (S : List PV) (hs : S.all (shp DEP) = true) (ho : ∀ x ∈ S, ∀ y ∈ S, cmpOk x y = true) : ∀ (x : PV), x ∈ S → (∀ y ∈ xs, y ∈ S) → PySem.W.minD (toD x) (xs.map toD) = toD (minL x xs) ∧ minL x xs ∈ S := by
  unfold PySem.W.minD minL
  induction xs with
  | nil => intro x hx _; exact ⟨rfl, hx⟩
  | cons y ys ih =>
    intro x hx hy
    have hy0 := hy y List.mem_cons_self
    rw [List.map_cons, List.foldl_cons, List.foldl_cons]
    have e := plt_data DEP DEP y x (List.all_eq_true.mp hs y hy0) (List.all_eq_true.mp hs x hx) (ho y hy0 x hx)
    simp only [← e]
    by_cases hb : plt y x = true
    · simp only [hb, if_true]
      exact ih y hy0 fun z hz => hy z (List.mem_cons_of_mem _ hz)
    · simp only [hb]
      exact ih x hx fun z hz => hy z (List.mem_cons_of_mem _ hz)
theorem maxL_data {xs : List PV} (S : List PV) (hs : S.all (shp DEP) = true) (ho : ∀ x ∈ S, ∀ y ∈ S, cmpOk x y = true) : ∀ (x : PV), x ∈ S → (∀ y ∈ xs, y ∈ S) → PySem.W.maxD (toD x) (xs.map toD) = toD (maxL x xs) ∧ maxL x xs ∈ S := by
  unfold PySem.W.maxD maxL
  induction xs with
  | nil => intro x hx _; exact ⟨rfl, hx⟩
  | cons y ys ih =>
    intro x hx hy
    have hy0 := hy y List.mem_cons_self
    rw [List.map_cons, List.foldl_cons, List.foldl_cons]
    have e := plt_data DEP DEP x y (List.all_eq_true.mp hs x hx) (List.all_eq_true.mp hs y hy0) (ho x hx y hy0)
    simp only [← e]
    by_cases hb : plt x y = true
    · simp only [hb, if_true]
      exact ih y hy0 fun z hz => hy z (List.mem_cons_of_mem _ hz)
    · simp only [hb]
      exact ih x hx fun z hz => hy z (List.mem_cons_of_mem _ hz)
/-- the item that is told by its data -/
theorem pick_item {P : Program} {w : World} {as : List Addr} {K : PySem.W.Frag} {G H : Hp} {D : DS} {h h' : Heap} (W : Wd as K G H D) {vs : List V} {its : List Value} {xs : List PV} (rv : Vals vs its) (t : TrS as K G vs xs)
    (hs : xs.all (shp DEP) = true) (rd : ∀ (v : V) (u : Value) (d : PyData), Dp K H v d → RelV v u → ∃ bs, Reads h u d bs) (k : ∀ b o, h.get? b = some o → h'.get? b = some o)
    {i : Nat} {u : Value} {m : PV} {bs : List Addr} (hi : its.toArray[i]? = some u) (hm : shp DEP m = true) (hr : Reads h' u (toD m) bs) : ∃ v, RelV v u ∧ Tr as K G v m := by
  have hi' : its[i]? = some u := by simpa using hi
  have hlt : i < vs.length := by
    rw [rv.length]
    exact (List.getElem?_eq_some_iff.mp hi').1
  have hv : vs[i]? = some vs[i] := List.getElem?_eq_getElem hlt
  obtain ⟨u', e1, r1⟩ := rv.get hv
  rw [hi'] at e1
  cases e1
  obtain ⟨x, hx, tx⟩ := t.getV hv
  have hxs := List.all_eq_true.mp hs x (List.mem_of_getElem? hx)
  obtain ⟨cs, r2⟩ := rd _ u _ (tx.dp W hxs) r1
  have e2 := PySem.SeqAt.Reads.unique _ _ _ _ _ (lay_shp DEP x hxs).1 (PyProof.Rows.Reads.keeps k r2) hr
  have e3 := toD_inj DEP DEP x m hxs hm e2
  subst e3
  exact ⟨_, r1, tx⟩

section
variable {X : Cx}
theorem TrRs.one {as : List Addr} {K : PySem.W.Frag} {G H : Hp} {vs : List V} {p : PV} (t : TrRs as K G H vs [p]) : ∃ x, vs = [x] ∧ TrR as K G H x p := by
  cases t with
  | cons h t => cases t; exact ⟨_, rfl, h⟩
theorem TrRs.two {as : List Addr} {K : PySem.W.Frag} {G H : Hp} {vs : List V} {p q : PV} (t : TrRs as K G H vs [p, q]) : ∃ x y, vs = [x, y] ∧ TrR as K G H x p ∧ TrR as K G H y q := by
  cases t with
  | cons h t => obtain ⟨y, rfl, h2⟩ := t.one; exact ⟨_, _, rfl, h, h2⟩
theorem TrRs.len {as : List Addr} {K : PySem.W.Frag} {G H : Hp} : ∀ {vs : List V} {ps : List PV}, TrRs as K G H vs ps → vs.length = ps.length
  | _, _, .nil => rfl
  | _, _, .cons _ t => congrArg Nat.succ (TrRs.len t)

theorem bi_len : CallR X (.builtin "len") (rBiM X.K .len) := by
  intro pins s σ H vs us Q I r h
  obtain ⟨as, G, D, ps, z, w, t, e, f⟩ := h
  unfold pBi at e
  split at e <;> first | (rename_i h0; cases h0; done) | skip
  all_goals try (cases e; done)
  · rename_i xs _
    obtain ⟨x, rfl, tx⟩ := t.one
    obtain ⟨a, ws, rfl, h1, t1⟩ := tx.lst w
    cases e
    exact call_len pins s σ H _ us Q I r ⟨_, ws.length, rfl, .inl ⟨ws, .of h1, rfl⟩, by rw [t1.len]; exact f.same w (.int _)⟩
  · rename_i xs _
    obtain ⟨x, rfl, tx⟩ := t.one
    obtain ⟨a, ws, rfl, h1, _, t1⟩ := tx.tup w
    cases e
    exact call_len pins s σ H _ us Q I r ⟨_, ws.length, rfl, .inr ⟨ws, .inl h1, rfl⟩, by rw [t1.len]; exact f.same w (.int _)⟩
  · rename_i ns _
    obtain ⟨x, rfl, tx⟩ := t.one
    obtain ⟨a, rfl, h1⟩ := tx.scr w
    cases e
    exact call_len pins s σ H _ us Q I r ⟨_, ns.length, rfl, .inl ⟨_, h1, by rw [List.length_map]⟩, f.same w (.int _)⟩
  · rename_i y _
    split at e
    · rename_i hl
      obtain ⟨x, rfl, tx⟩ := t.one
      obtain rfl := tx.str
      cases e
      exact call_len pins s σ H _ us Q I r ⟨_, y.length, rfl, ⟨line_lim hl, rfl⟩, f.same w (.int _)⟩
    · cases e
  · rename_i tt kvs _
    obtain ⟨x, rfl, tx⟩ := t.one
    cases e
    rcases tx.dct w with ⟨_, a, ks, rfl, h1, tk⟩ | ⟨_, a, ks, rfl, h1, tk⟩
    · obtain ⟨u, rfl, ru⟩ := vals1 r
      cases ru
      exact d_len I h1 fun t s' I' => ⟨.int kvs.length, H, I', ⟨t, by rw [tk.len]⟩, f.same w (.int _)⟩
    · obtain ⟨u, rfl, ru⟩ := vals1 r
      cases ru
      obtain ⟨z, hd, ys, rel, dd⟩ := dt_rd I.hok h1
      have hl : ks.length = ys.length := Paired.length rel
      refine PySem.call_len_dictH hd dd (by rw [← hl]; rw [sizeLine_eq] at z; omega) ?_
      rw [← hl, tk.len]
      exact ⟨.int _, H, I.tok _, ⟨_, rfl⟩, f.same w (.int _)⟩
theorem bi_abs : CallR X (.builtin "abs") (rBiM X.K .abs) := by
  intro pins s σ H vs us Q I r h
  obtain ⟨as, G, D, ps, z, w, t, e, f⟩ := h
  unfold pBi at e
  split at e <;> first | (rename_i h0; cases h0; done) | skip
  all_goals try (cases e; done)
  obtain ⟨x, rfl, tx⟩ := t.one
  obtain rfl := tx.int
  cases e
  exact call_abs pins s σ H _ us Q I r ⟨_, rfl, f.same w (.int _)⟩
theorem bi_int : CallR X (.type "int") (rBiM X.K .int) := by
  intro pins s σ H vs us Q I r h
  obtain ⟨as, G, D, ps, z, w, t, e, f⟩ := h
  unfold pBi at e
  split at e <;> first | (rename_i h0; cases h0; done) | skip
  all_goals try (cases e; done)
  · obtain ⟨x, rfl, tx⟩ := t.one
    obtain rfl := tx.int
    cases e
    exact call_int1 pins s σ H _ us Q I r (.inl ⟨_, rfl, f.same w (.int _)⟩)
  · obtain ⟨x, rfl, tx⟩ := t.one
    obtain rfl := tx.bl
    cases e
    exact call_int1 pins s σ H _ us Q I r (.inr ⟨_, rfl, f.same w (.int _)⟩)
theorem bi_all (hc : X.calm = true) : CallR X (.builtin "all") (rBiM X.K .all) := by
  intro pins s σ H vs us Q I r h
  obtain ⟨as, G, D, ps, z, w, t, e, f⟩ := h
  unfold pBi at e
  split at e <;> first | (rename_i h0; cases h0; done) | skip
  all_goals try (cases e; done)
  obtain ⟨x, rfl, tx⟩ := t.one
  obtain ⟨a, ws, rfl, h1, t1⟩ := tx.lst w
  obtain ⟨bs, e1, e2⟩ := Option.map_eq_some_iff.mp e
  have := mapO_bls e1
  subst this
  have := t1.toBls
  subst this
  subst e2
  exact cr_all hc pins s σ H _ us Q I r ⟨a, bs, rfl, .of h1, f.same w (.bl _)⟩
theorem bi_any (hc : X.calm = true) : CallR X (.builtin "any") (rBiM X.K .any) := by
  intro pins s σ H vs us Q I r h
  obtain ⟨as, G, D, ps, z, w, t, e, f⟩ := h
  unfold pBi at e
  split at e <;> first | (rename_i h0; cases h0; done) | skip
  all_goals try (cases e; done)
  obtain ⟨x, rfl, tx⟩ := t.one
  obtain ⟨a, ws, rfl, h1, t1⟩ := tx.lst w
  obtain ⟨bs, e1, e2⟩ := Option.map_eq_some_iff.mp e
  have := mapO_bls e1
  subst this
  have := t1.toBls
  subst this
  subst e2
  exact cr_any hc pins s σ H _ us Q I r ⟨a, bs, rfl, .of h1, f.same w (.bl _)⟩
theorem bi_sum (hc : X.calm = true) : CallR X (.builtin "sum") (rBiM X.K .sum) := by
  intro pins s σ H vs us Q I r h
  obtain ⟨as, G, D, ps, z, w, t, e, f⟩ := h
  unfold pBi at e
  split at e <;> first | (rename_i h0; cases h0; done) | skip
  all_goals try (cases e; done)
  obtain ⟨x, rfl, tx⟩ := t.one
  obtain ⟨xs, e1, e2⟩ := Option.bind_eq_some_iff.mp e
  obtain ⟨ns, e3, e4⟩ := Option.map_eq_some_iff.mp e2
  have := mapO_ints e3
  subst this
  subst e4
  obtain ⟨a, ws, rfl, h1, t1⟩ := tx.seq w e1
  have := t1.toInts
  subst this
  rcases h1 with h1 | ⟨h1, _, _⟩
  · exact cr_sum hc pins s σ H _ us Q I r ⟨a, ns, rfl, .of h1, f.same w (.int _)⟩
  · obtain ⟨its, rv, pl, hz⟩ := I.tuple (.inl h1)
    rw [Vals.ref1 r]
    have hi := rv.ints
    obtain ⟨xs, ex⟩ := hi.allInts.items
    have hn : numsOf (intItems xs).toList = ns := by rw [← ex]; exact hi.numsOf
    rw [nums_intItems] at hn
    rw [ex] at pl
    refine PySem.W.ktm_sumG (I.ok.hd hc) pl fun h' tk t' hk => ?_
    refine ⟨.int ns.sum, H, I.kept hk, ?_, f.same w (.int _)⟩
    rw [preSum_eq, List.take_of_length_le (by simp), hn]; exact ⟨_, rfl⟩
theorem bi_tuple : CallR X (.type "tuple") (rBiM X.K .tuple) := by
  intro pins s σ H vs us Q I r h
  obtain ⟨as, G, D, ps, z, w, t, e, f⟩ := h
  unfold pBi at e
  split at e <;> first | (rename_i h0; cases h0; done) | skip
  all_goals try (cases e; done)
  obtain ⟨x, rfl, tx⟩ := t.one
  obtain ⟨xs, e1, e2⟩ := Option.map_eq_some_iff.mp e
  subst e2
  obtain ⟨a, ws, rfl, h1, t1⟩ := tx.seq w e1
  rcases h1 with h1 | ⟨h1, h2, _⟩
  · exact call_tuple_of pins s σ H _ us Q I r ⟨a, ws, rfl, .inl ⟨.of h1, fun l hl => f.new w hl (.tup upd_same (t1.up (le_new (w.free hl))))⟩⟩
  · exact call_tuple_of pins s σ H _ us Q I r ⟨a, ws, rfl, .inr ⟨.inl h1, f.same w (.tupR h2 t1)⟩⟩
theorem trS_keysK {as : List Addr} {K : PySem.W.Frag} {G : Hp} : ∀ {ks : List (Key × V)} {kvs : List (PV × PV)}, TrK as K G ks kvs → TrS as K G (ks.map fun kv => kV kv.1) (kvs.map (·.1))
  | _, _, .nil => .nil
  | _, _, .cons (k := k) h t => by
    refine .cons ?_ (trS_keysK t)
    cases k with
    | inl i => exact .int i
    | inr s => exact .str s
theorem bi_list (hc : X.calm = true) : CallR X (.type "list") (rBiF X.K .list) := by
  intro pins s σ H vs us Q I r h
  obtain ⟨as, G, D, ps, z, w, t, e, f⟩ := h
  unfold pBi at e
  split at e <;> first | (rename_i h0; cases h0; done) | skip
  all_goals try (cases e; done)
  · obtain ⟨x, rfl, tx⟩ := t.one
    rcases tx.dct w with ⟨_, a, ks, rfl, h1, tk⟩ | ⟨e9, a, ks, rfl, h1, tk⟩
    · cases e
      exact call_listD hc pins s σ H _ us Q I r ⟨a, ks, rfl, h1, fun p hp => f p _ hp ⟨_, upd_same, trS_keysK tk⟩⟩
    · cases e9
  · obtain ⟨x, rfl, tx⟩ := t.one
    cases e
    obtain ⟨a, ws, rfl, h1, t1⟩ := tx.lst w
    exact call_list_of pins s σ H _ us Q I r ⟨a, ws, rfl, .inl (.of h1), fun l hl => f l _ hl ⟨_, upd_same, t1⟩⟩
  · obtain ⟨x, rfl, tx⟩ := t.one
    cases e
    obtain ⟨a, ws, rfl, h1, _, t1⟩ := tx.tup w
    exact call_list_of pins s σ H _ us Q I r ⟨a, ws, rfl, .inr (.inl h1), fun l hl => f l _ hl ⟨_, upd_same, t1⟩⟩
mutual
theorem reads_bound {h : Heap} : ∀ {v : Value} {d : PyData} {as : List Addr}, Reads h v d as → ∀ a ∈ as, a < h.objs.size
  | _, _, _, .none, _, hm => absurd hm (by simp)
  | _, _, _, .bool _, _, hm => absurd hm (by simp)
  | _, _, _, .int _ _, _, hm => absurd hm (by simp)
  | _, _, _, .str _ _, _, hm => absurd hm (by simp)
  | _, _, _, .list ho _ _ r, b, hm => by
    rcases List.mem_cons.mp hm with e | hm
    · rw [e]; exact Heap.lt_size ho
    · exact readsAll_bound r b hm
  | _, _, _, .tuple ho _ _ r, b, hm => readsAll_bound r b hm
  | _, _, _, .dict ho _ _ r r2, b, hm => by
    rcases List.mem_append.mp hm with hm | hm
    · rcases List.mem_cons.mp hm with e | hm
      · rw [e]; exact Heap.lt_size ho
      · exact readsAll_bound r b hm
    · exact readsAll_bound r2 b hm
theorem readsAll_bound {h : Heap} : ∀ {v : List Value} {d : List PyData} {as : List Addr}, ReadsAll h v d as → ∀ a ∈ as, a < h.objs.size
  | _, _, _, .nil, _, hm => absurd hm (by simp)
  | _, _, _, .cons r t, b, hm => by
    rcases List.mem_append.mp hm with hm | hm
    · exact reads_bound r b hm
    · exact readsAll_bound t b hm
end
theorem each_len {α : Type} {R : Value → α → Prop} {us : List Value} {xs : List α} (h : PySem.W.EachIs R us xs) : us.length = xs.length := by
  induction h with
  | nil => rfl
  | cons _ _ ih => rw [List.length_cons, List.length_cons, ih]
theorem merge_mem {xs : List PV} {r : PV → PV → Bool} {x : PV} (h : x ∈ xs.mergeSort r) : x ∈ xs := (List.mergeSort_perm xs r).mem_iff.mp h
theorem dep_all {xs : List PV} (hs : xs.all (shp DEP) = true) : ∀ x ∈ xs, (toD x).depth ≤ 20 := fun x hx => (lay_shp DEP x (List.all_eq_true.mp hs x hx)).2
/-- sorted of a collected list of values -/
theorem sorted_collected (hu : X.A.units + 65 < cLine) {x : Value} {xs : List PV} {as : List Addr} {G : Hp} {D : DS} {pins : List (Addr × Obj)} {s : Shared} {σ : L2.St} {H : Hp} {Q : VK} (w : Wd as X.K G H D)
    (hx : ordOk xs = true) (hx2 : srtOk xs = true) (f : FinF as X.K G H D (.lst (xs.mergeSort fun a b => !plt b a)) Q) 
    (hcol : ∀ (Q' : List Value → Shared → Prop) (E' : Value → Shared → Prop), (∀ its h' tk, its.length ≤ sizeLine → PySem.W.EachIs (Itm as X.K G) its xs → Inv X pins σ H { s with heap := h', toks := tk } → Q' its { s with heap := h', toks := tk }) → wpAny (model X.prog X.w) X.A.in1 (collect x) Q' E' s) :
    wpAny (model X.prog X.w) X.A (call (.builtin "sorted") [x]) (EP X pins σ Q) X.xe s := by
  obtain ⟨hs, _⟩ := ord_all hx
  refine Calls.call_function_entry PyProof.Rows.kind_sorted PyProof.Rows.plain_sorted PyProof.Rows.entry_sorted (PyProof.Rows.args_sorted1 _) ?_
  unfold Builtin.«sorted»
  refine wpAny_bind (m := checkCount "sorted" 1 1 _) (wpAny_pure ?_)
  refine wpAny_bind (hcol _ _ fun its h' tk hz e0 I1 => ?_)
  refine wpAny_bind (wpAny_newList ?_ hz)
  have hoL : (h'.push (seqObj "list" its.toArray 0)).get? h'.objs.size = some (seqObj "list" its.toArray 0) := Heap.get?_push_size _ rfl
  show wpAny _ _ _ _ _ { s with heap := h'.push (seqObj "list" its.toArray 0), toks := tk }
  have er : PySem.W.EachIs (fun v b => ∃ bs, Reads h' v (toD b) bs) its xs := each_reads I1 w e0 hs
  have er2 : PySem.W.EachIs (fun v b => ∃ bs, Reads (h'.push (seqObj "list" its.toArray 0)) v (toD b) bs ∧ h'.objs.size ∉ bs) its xs := by
    refine er.mono fun v b ⟨bs, rd⟩ => ⟨bs, PyProof.Rows.Reads.keeps (fun c o q => Heap.get?_push_of_some _ q) rd, fun hm => ?_⟩
    exact absurd (reads_bound rd _ hm) (Nat.lt_irrefl _)
  refine wpAny_bind (wpAny_holding (PySem.W.list_sort_data (A := X.A.in1) (s := { s with heap := h'.push (seqObj "list" its.toArray 0), toks := tk }) (enc := toD) hoL e0 er2 (ord_alike hx) (srt_sortable hx hx2) (by rw [← each_len e0]; exact hz) (fun b hb => ?_) fun out hl eo => ?_))
  · have := dep_all hs b hb
    show X.A.units + 1 + 1 + _ < _
    omega
  · rw [← merge_eq hx] at eo
    obtain ⟨vs, rv, tv⟩ := of_each eo
    obtain ⟨e', he'⟩ := PyProof.Rows.sortedHeap_at (vs := its) (out := out.toArray) hoL
    have hlen : vs.length ≤ sizeLine := by rw [rv.length, hl, ← each_len e0]; exact hz
    have hn := I1.hok.fresh (Nat.le_refl _)
    refine wpAny_pure ⟨_, rfl, .ref h'.objs.size, upd H h'.objs.size (.lst vs), I1.laid (t' := tk) (fun b u e => ?_) (Nat.le_refl _)
      (show ObjOk X.prog X.w _ _ _ (.lst vs) from ⟨hlen, out, e', rv, he'⟩), rfl, f _ _ hn ⟨_, upd_same, tv⟩⟩
    have hb : b < h'.objs.size := Heap.lt_size e
    rw [PyProof.Rows.sortedHeap_old (Nat.ne_of_lt hb) (by rw [size_push']; exact Nat.lt_succ_of_lt hb)]
    exact Heap.get?_push_of_some _ e
theorem bi_sorted (hu : X.A.units + 65 < cLine) (hc : X.calm = true) : CallR X (.builtin "sorted") (rBiF X.K .sorted) := by
  intro pins s σ H vs us Q I r h
  obtain ⟨as, G, D, ps, z, w, t, e, f⟩ := h
  have hp : ∀ {ys : List PV}, (pSort ys).map PV.lst = some z → ordOk ys = true ∧ srtOk ys = true ∧ z = .lst (ys.mergeSort fun a b => !plt b a) := fun {ys} h => by
    obtain ⟨l, h1, h2⟩ := Option.map_eq_some_iff.mp h
    have h1' : (if (ordOk ys && srtOk ys) = true then some (ys.mergeSort fun a b => !plt b a) else none) = some l := h1
    split at h1'
    · rename_i hh
      rw [Bool.and_eq_true] at hh
      cases h1'
      exact ⟨hh.1, hh.2, h2.symm⟩
    · cases h1'
  unfold pBi at e
  split at e <;> first | (rename_i h0; cases h0; done) | skip
  all_goals try (cases e; done)
  · obtain ⟨x, rfl, tx⟩ := t.one
    obtain ⟨h1, h2, rfl⟩ := hp e
    obtain ⟨a, ws, rfl, g1, t1⟩ := tx.lst w
    obtain ⟨its, rv, pl, hz⟩ := I.list (.of g1)
    rw [Vals.ref1 r]
    obtain ⟨o, ho, hc, n, hd⟩ := pl.isList
    refine sorted_collected hu w h1 h2 f fun Q' E' hq => ?_
    exact PySem.wpAny_collect_seq a (.inl rfl) ho hc hd (fun h' kp => by simpa using hq its h' s.toks (by rw [← rv.length]; exact hz) (each_of rv t1) (I.kept kp)) (by simp only [List.size_toArray]; rw [← rv.length]; exact hz)
  · obtain ⟨x, rfl, tx⟩ := t.one
    obtain ⟨h1, h2, rfl⟩ := hp e
    obtain ⟨a, ws, rfl, g1, _, t1⟩ := tx.tup w
    obtain ⟨its, rv, pl, hz⟩ := I.tuple (.inl g1)
    rw [Vals.ref1 r]
    obtain ⟨o, ho, hc, n, hd⟩ := id pl
    refine sorted_collected hu w h1 h2 f fun Q' E' hq => ?_
    exact PySem.wpAny_collect_seq a (.inr rfl) ho hc hd (fun h' kp => by simpa using hq its h' s.toks (by rw [← rv.length]; exact hz) (each_of rv t1) (I.kept kp)) (by simp only [List.size_toArray]; rw [← rv.length]; exact hz)
  · obtain ⟨x, rfl, tx⟩ := t.one
    obtain ⟨h1, h2, rfl⟩ := hp e
    rcases tx.dct w with ⟨_, a, ks, rfl, g1, tk⟩ | ⟨e9, a, ks, rfl, g1, tk⟩
    · rw [Vals.ref1 r]
      obtain ⟨z, lo, kvs, rel, dd⟩ := dk_rd I.hok g1
      obtain ⟨ep, hat⟩ := dd.dictAt
      have ek : (ks.map fun kv => kV kv.1) = kvs.map fun p => kV p.1 := by
        have e := congrArg (List.map kV) rel.keys
        rw [List.map_map, List.map_map] at e
        exact e
      refine sorted_collected hu w h1 h2 f fun Q' E' hq => ?_
      refine PySem.W.kdu_collect (A := X.A.in1) (PySem.W.kdl_dict (knd := mixKind X.prog X.w) (kvs := kvs) (ep := ep) lo) (I.ok.hd hc) hat (by rw [← rel.length]; exact z) fun h' tk1 acc hk hacc => ?_
      have hv : Vals (kvs.map fun p => kV p.1) acc.toList := keys_at (by rw [Array.length_toList]; exact hacc.1) fun j v e => hacc.2 j v (by rw [← Array.getElem?_toList]; exact e)
      have tv := trS_keysK tk
      rw [ek] at tv
      exact hq acc.toList h' _ (by rw [Array.length_toList, hacc.1, ← rel.length]; exact z) (each_of hv tv) (I.kept hk)
    · cases e9
theorem bi_min (hu : X.A.units + 65 < cLine) (hc : X.calm = true) : CallR X (.builtin "min") (rBiM X.K .min) := by
  intro pins s σ H vs us Q I r h
  obtain ⟨as, G, D, ps, z, w, t, e, f⟩ := h
  have hp : ∀ {ys : List PV}, pMin ys = some z → ∃ y l, ys = y :: l ∧ ordOk ys = true ∧ z = minL y l := fun {ys} h => by
    cases ys with
    | nil => cases h
    | cons y l =>
      have h1' : (if ordOk (y :: l) = true then some (minL y l) else none) = some z := h
      split at h1'
      · cases h1'
        exact ⟨y, l, rfl, by assumption, rfl⟩
      · cases h1'
  unfold pBi at e
  split at e <;> first | (rename_i h0; cases h0; done) | skip
  all_goals try (cases e; done)
  · obtain ⟨x, rfl, tx⟩ := t.one
    obtain ⟨y, l, rfl, ho, rfl⟩ := hp e
    obtain ⟨a, ws, rfl, g1, t1⟩ := tx.lst w
    obtain ⟨its, rv, pl, hz⟩ := I.list (.of g1)
    rw [Vals.ref1 r]
    obtain ⟨hs, hcmp⟩ := ord_all ho
    obtain ⟨bs, ra⟩ := Dp.readsAll I (toDs (y :: l)) ws its (t1.dp w hs) rv
    obtain ⟨em, hmem⟩ := minL_data (xs := l) (y :: l) hs hcmp y List.mem_cons_self (fun z hz => List.mem_cons_of_mem _ hz)
    have hd := (lay_shps DEP _ hs).2
    rw [show toDs (y :: l) = toD y :: toDs l from by simp [toDs]] at ra hd
    refine PySem.W.min_list_data (I.ok.hd hc) pl.isList (by simpa using ra) (by have := ord_AlikeAll ho; rwa [show toDs (y :: l) = toD y :: toDs l from by simp [toDs]] at this) (by have : DEP = 20 := rfl; omega) fun i v h' tk bs hi hr hk => ?_
    rw [toDs_map, em] at hr
    obtain ⟨v', rv', tv⟩ := pick_item (P := X.prog) (w := X.w) (h := s.heap) (h' := h') w rv t1 hs (fun v u d hd ru => Dp.reads I _ v u hd ru) hk hi (List.all_eq_true.mp hs _ hmem) hr
    exact ⟨v', H, I.kept hk, rv', f.same w tv⟩
  · obtain ⟨x, rfl, tx⟩ := t.one
    obtain ⟨y, l, rfl, ho, rfl⟩ := hp e
    obtain ⟨a, ws, rfl, g1, _, t1⟩ := tx.tup w
    obtain ⟨its, rv, pl, hz⟩ := I.tuple (.inl g1)
    rw [Vals.ref1 r]
    obtain ⟨hs, hcmp⟩ := ord_all ho
    obtain ⟨bs, ra⟩ := Dp.readsAll I (toDs (y :: l)) ws its (t1.dp w hs) rv
    obtain ⟨em, hmem⟩ := minL_data (xs := l) (y :: l) hs hcmp y List.mem_cons_self (fun z hz => List.mem_cons_of_mem _ hz)
    have hd := (lay_shps DEP _ hs).2
    rw [show toDs (y :: l) = toD y :: toDs l from by simp [toDs]] at ra hd
    refine PySem.W.min_tuple_data (I.ok.hd hc) pl (by simpa using ra) (by have := ord_AlikeAll ho; rwa [show toDs (y :: l) = toD y :: toDs l from by simp [toDs]] at this) (by have : DEP = 20 := rfl; omega) fun i v h' tk bs hi hr hk => ?_
    rw [toDs_map, em] at hr
    obtain ⟨v', rv', tv⟩ := pick_item (P := X.prog) (w := X.w) (h := s.heap) (h' := h') w rv t1 hs (fun v u d hd ru => Dp.reads I _ v u hd ru) hk hi (List.all_eq_true.mp hs _ hmem) hr
    exact ⟨v', H, I.kept hk, rv', f.same w tv⟩
  · obtain ⟨x, y, rfl, tx, ty⟩ := t.two
    obtain rfl := tx.int
    obtain rfl := ty.int
    cases e
    exact call_min2 hc pins s σ H _ us Q I r ⟨_, _, rfl, f.same w (.int _)⟩
theorem bi_max (hu : X.A.units + 65 < cLine) (hc : X.calm = true) : CallR X (.builtin "max") (rBiM X.K .max) := by
  intro pins s σ H vs us Q I r h
  obtain ⟨as, G, D, ps, z, w, t, e, f⟩ := h
  have hp : ∀ {ys : List PV}, pMax ys = some z → ∃ y l, ys = y :: l ∧ ordOk ys = true ∧ z = maxL y l := fun {ys} h => by
    cases ys with
    | nil => cases h
    | cons y l =>
      have h1' : (if ordOk (y :: l) = true then some (maxL y l) else none) = some z := h
      split at h1'
      · cases h1'
        exact ⟨y, l, rfl, by assumption, rfl⟩
      · cases h1'
  unfold pBi at e
  split at e <;> first | (rename_i h0; cases h0; done) | skip
  all_goals try (cases e; done)
  · obtain ⟨x, rfl, tx⟩ := t.one
    obtain ⟨y, l, rfl, ho, rfl⟩ := hp e
    obtain ⟨a, ws, rfl, g1, t1⟩ := tx.lst w
    obtain ⟨its, rv, pl, hz⟩ := I.list (.of g1)
    rw [Vals.ref1 r]
    obtain ⟨hs, hcmp⟩ := ord_all ho
    obtain ⟨bs, ra⟩ := Dp.readsAll I (toDs (y :: l)) ws its (t1.dp w hs) rv
    obtain ⟨em, hmem⟩ := maxL_data (xs := l) (y :: l) hs hcmp y List.mem_cons_self (fun z hz => List.mem_cons_of_mem _ hz)
    have hd := (lay_shps DEP _ hs).2
    rw [show toDs (y :: l) = toD y :: toDs l from by simp [toDs]] at ra hd
    refine PySem.W.max_list_data (I.ok.hd hc) pl.isList (by simpa using ra) (by have := ord_AlikeAll ho; rwa [show toDs (y :: l) = toD y :: toDs l from by simp [toDs]] at this) (by have : DEP = 20 := rfl; omega) fun i v h' tk bs hi hr hk => ?_
    rw [toDs_map, em] at hr
    obtain ⟨v', rv', tv⟩ := pick_item (P := X.prog) (w := X.w) (h := s.heap) (h' := h') w rv t1 hs (fun v u d hd ru => Dp.reads I _ v u hd ru) hk hi (List.all_eq_true.mp hs _ hmem) hr
    exact ⟨v', H, I.kept hk, rv', f.same w tv⟩
  · obtain ⟨x, rfl, tx⟩ := t.one
    obtain ⟨y, l, rfl, ho, rfl⟩ := hp e
    obtain ⟨a, ws, rfl, g1, _, t1⟩ := tx.tup w
    obtain ⟨its, rv, pl, hz⟩ := I.tuple (.inl g1)
    rw [Vals.ref1 r]
    obtain ⟨hs, hcmp⟩ := ord_all ho
    obtain ⟨bs, ra⟩ := Dp.readsAll I (toDs (y :: l)) ws its (t1.dp w hs) rv
    obtain ⟨em, hmem⟩ := maxL_data (xs := l) (y :: l) hs hcmp y List.mem_cons_self (fun z hz => List.mem_cons_of_mem _ hz)
    have hd := (lay_shps DEP _ hs).2
    rw [show toDs (y :: l) = toD y :: toDs l from by simp [toDs]] at ra hd
    refine PySem.W.max_tuple_data (I.ok.hd hc) pl (by simpa using ra) (by have := ord_AlikeAll ho; rwa [show toDs (y :: l) = toD y :: toDs l from by simp [toDs]] at this) (by have : DEP = 20 := rfl; omega) fun i v h' tk bs hi hr hk => ?_
    rw [toDs_map, em] at hr
    obtain ⟨v', rv', tv⟩ := pick_item (P := X.prog) (w := X.w) (h := s.heap) (h' := h') w rv t1 hs (fun v u d hd ru => Dp.reads I _ v u hd ru) hk hi (List.all_eq_true.mp hs _ hmem) hr
    exact ⟨v', H, I.kept hk, rv', f.same w tv⟩
  · obtain ⟨x, y, rfl, tx, ty⟩ := t.two
    obtain rfl := tx.int
    obtain rfl := ty.int
    cases e
    exact call_max2 hc pins s σ H _ us Q I r ⟨_, _, rfl, f.same w (.int _)⟩
theorem kPV_kV {as : List Addr} {K : PySem.W.Frag} {G : Hp} (k : Key) : Tr as K G (kV k) (kPV k) := by
  cases k with
  | inl i => exact .int i
  | inr s => exact .str s
theorem TrK.any {as : List Addr} {K : PySem.W.Frag} {G : Hp} (k : Key) : ∀ {ks : List (Key × V)} {kvs : List (PV × PV)}, TrK as K G ks kvs → (kvs.any fun p => peq p.1 (kPV k)) = ks.any fun kv => decide (kv.1 = k)
  | _, _, .nil => rfl
  | _, _, .cons h t => by rw [List.any_cons, List.any_cons, kPV_peq, TrK.any k t]
theorem TrK.mapPut {as : List Addr} {K : PySem.W.Frag} {G : Hp} (k : Key) {v : V} {x : PV} (hv : Tr as K G v x) : ∀ {ks : List (Key × V)} {kvs : List (PV × PV)}, TrK as K G ks kvs →
    TrK as K G (ks.map fun kv => if kv.1 = k then (kv.1, v) else kv) (kvs.map fun p => if peq p.1 (kPV k) = true then (p.1, x) else p)
  | _, _, .nil => .nil
  | _, _, .cons (k := k') h t => by
    rw [List.map_cons, List.map_cons]
    by_cases e : k' = k
    · simp only [kPV_peq, e, decide_true, if_true]
      exact .cons hv (TrK.mapPut k hv t)
    · simp only [kPV_peq, decide_eq_false e, if_neg e]
      exact .cons h (TrK.mapPut k hv t)
theorem TrK.app {as : List Addr} {K : PySem.W.Frag} {G : Hp} : ∀ {ks ls : List (Key × V)} {kvs lvs : List (PV × PV)}, TrK as K G ks kvs → TrK as K G ls lvs → TrK as K G (ks ++ ls) (kvs ++ lvs)
  | _, _, _, _, .nil, r => r
  | _, _, _, _, .cons h t, r => .cons h (TrK.app t r)
theorem TrK.put {as : List Addr} {K : PySem.W.Frag} {G : Hp} (k : Key) {v : V} {x : PV} (hv : Tr as K G v x) {ks : List (Key × V)} {kvs : List (PV × PV)} (t : TrK as K G ks kvs) : TrK as K G (putK ks k v) (dPut (kPV k) x kvs) := by
  unfold putK dPut
  rw [t.any k]
  split
  · exact t.mapPut k hv
  · exact t.app (.cons hv .nil)
theorem TrK.merge {as : List Addr} {K : PySem.W.Frag} {G : Hp} : ∀ {acc : List (Key × V)} {accP : List (PV × PV)} {ks : List (Key × V)} {kvs : List (PV × PV)}, TrK as K G acc accP → TrK as K G ks kvs → TrK as K G (mergeK acc ks) (dMerge accP kvs)
  | _, _, _, _, a, .nil => a
  | acc, accP, _, _, a, .cons (k := k) (v := v) (x := x) (ks := ks) (kvs := kvs) h t => by
    have r := TrK.merge (acc := putK acc k v) (accP := dPut (kPV k) x accP) (a.put k h) t
    exact r
theorem kTs_peq {as : List Addr} {K : PySem.W.Frag} {G : Hp} (k k' : List Key) : peq (.tup (k'.map kPV)) (.tup (k.map kPV)) = decide (k' = k) := by rw [peq, kPVs_peq]
theorem TrT.any {as : List Addr} {K : PySem.W.Frag} {G : Hp} (k : List Key) : ∀ {ks : List (List Key × V)} {kvs : List (PV × PV)}, TrT as K G ks kvs → (kvs.any fun p => peq p.1 (.tup (k.map kPV))) = ks.any fun kv => decide (kv.1 = k)
  | _, _, .nil => rfl
  | _, _, .cons h t => by rw [List.any_cons, List.any_cons, kTs_peq (as := as) (K := K) (G := G), TrT.any k t]
theorem TrT.mapPut {as : List Addr} {K : PySem.W.Frag} {G : Hp} (k : List Key) {v : V} {x : PV} (hv : Tr as K G v x) : ∀ {ks : List (List Key × V)} {kvs : List (PV × PV)}, TrT as K G ks kvs →
    TrT as K G (ks.map fun kv => if kv.1 = k then (kv.1, v) else kv) (kvs.map fun p => if peq p.1 (.tup (k.map kPV)) = true then (p.1, x) else p)
  | _, _, .nil => .nil
  | _, _, .cons (k := k') h t => by
    rw [List.map_cons, List.map_cons]
    by_cases e : k' = k
    · simp only [kTs_peq (as := as) (K := K) (G := G), e, decide_true, if_true]
      exact .cons hv (TrT.mapPut k hv t)
    · simp only [kTs_peq (as := as) (K := K) (G := G), decide_eq_false e, if_neg e]
      exact .cons h (TrT.mapPut k hv t)
theorem TrT.app {as : List Addr} {K : PySem.W.Frag} {G : Hp} : ∀ {ks ls : List (List Key × V)} {kvs lvs : List (PV × PV)}, TrT as K G ks kvs → TrT as K G ls lvs → TrT as K G (ks ++ ls) (kvs ++ lvs)
  | _, _, _, _, .nil, r => r
  | _, _, _, _, .cons h t, r => .cons h (TrT.app t r)
theorem TrT.put {as : List Addr} {K : PySem.W.Frag} {G : Hp} (k : List Key) {v : V} {x : PV} (hv : Tr as K G v x) {ks : List (List Key × V)} {kvs : List (PV × PV)} (t : TrT as K G ks kvs) : TrT as K G (putK ks k v) (dPut (.tup (k.map kPV)) x kvs) := by
  unfold putK dPut
  rw [t.any k]
  split
  · exact t.mapPut k hv
  · exact t.app (.cons hv .nil)
/-- a list of pairs: the addresses of the pairs and what stands there -/
theorem pairs_tr {as : List Addr} {K : PySem.W.Frag} {G H : Hp} {D : DS} (w : Wd as K G H D) : ∀ {vs : List V} {xs : List PV} {ps : List (PV × PV)}, TrS as K G vs xs → mapO pairOf xs = some ps → (ps.all fun p => isKey 0 p.1) = true →
    ∃ (bs : List Addr) (kvs : List (Key × V)), vs = bs.map V.ref ∧ Paired (fun p kv => SqT K H p [kV kv.1, kv.2]) bs kvs ∧ TrK as K G kvs ps
  | _, _, _, .nil, h, _ => by
    cases h
    exact ⟨[], [], rfl, .nil, .nil⟩
  | _, _, _, .cons (x := x) (xs := xs) h t, e, hk => by
    obtain ⟨p, e1, e2⟩ := Option.bind_eq_some_iff.mp (show (pairOf x).bind (fun y => (mapO pairOf xs).bind fun ys => some (y :: ys)) = some _ from e)
    obtain ⟨ps, e3, e4⟩ := Option.bind_eq_some_iff.mp e2
    cases e4
    rw [List.all_cons, Bool.and_eq_true] at hk
    obtain ⟨bs, kvs, r1, r2, r3⟩ := pairs_tr w t e3 hk.2
    unfold pairOf at e1
    split at e1
    · rename_i k v
      cases e1
      obtain ⟨kk, hkk⟩ := isKey0 hk.1
      simp only at hkk
      subst hkk
      cases h with
      | tupR g tt =>
        cases tt with
        | cons t1 tt =>
          cases tt with
          | cons t2 tt =>
            cases tt
            have := t1.key
            subst this
            exact ⟨_ :: bs, (kk, _) :: kvs, by rw [List.map_cons, r1], .cons (.inl (w.rd g)) r2, .cons t2 r3⟩
    · cases e1
theorem bi_dict (hc : X.calm = true) : CallR X (.type "dict") (rBiF X.K .dict) := by
  intro pins s σ H vs us Q I r h
  obtain ⟨as, G, D, ps, z, w, t, e, f⟩ := h
  unfold pBi at e
  split at e <;> first | (rename_i h0; cases h0; done) | skip
  all_goals try (cases e; done)
  · obtain ⟨x, rfl, tx⟩ := t.one
    cases e
    rcases tx.dct w with ⟨_, a, ks, rfl, g1, tk⟩ | ⟨e9, a, ks, rfl, g1, tk⟩
    · exact call_dictD pins s σ H _ us Q I r ⟨a, ks, rfl, g1, fun p hp => f p _ hp (.inl ⟨rfl, _, upd_same, tk⟩)⟩
    · cases e9
  · obtain ⟨x, rfl, tx⟩ := t.one
    obtain ⟨qs, e1, e2⟩ := Option.bind_eq_some_iff.mp e
    split at e2
    · rename_i hk
      cases e2
      obtain ⟨a, ws, rfl, g1, t1⟩ := tx.lst w
      obtain ⟨bs, kvs, rfl, r2, r3⟩ := pairs_tr w t1 e1 hk
      exact call_dictP hc pins s σ H _ us Q I r ⟨a, bs, kvs, rfl, .of g1, r2, fun p hp => f p _ hp (.inl ⟨rfl, _, upd_same, TrK.merge .nil r3⟩)⟩
    · cases e2
end
end MP

/-! MP ex: expressions keep their evaluator's promise. -/
namespace MP
open PySem PySem.Spec PyProof.Rows L2

/-- a def's promise, by its reading -/
def spOf (K : PySem.W.Frag) (φ : List PV → DS → Option (PV × DS)) (n : Nat) : Sp := fun vs H Q _ => vs.length = n ∧ ∃ as G D xs r D', Wd as K G H D ∧ TrS as K G vs xs ∧ φ xs D = some (r, D') ∧
  ∀ v G' H', Stp as G H G' H' → Wd as K G' H' D' → Tr as K G' v r → Q v H'
structure Tb where
  fns : List (Str × Nat)
  fr : List Str
  cs : List (Str × Str)
structure Gd (T : Tb) (Φ : Fns) (N : List Str) (sc : Scope) (X : Cx) : Prop where
  n : X.N = N
  sc : X.env.scope = sc
  nd : N.Nodup
  calm : X.calm = true
  xe : X.xe = fun _ _ => False
  un : X.A.units + 65 < cLine
  fn : ∀ (g : Nat) (x : Str) (m : Nat), T.fns[g]? = some (x, m) → ∃ (k : Nat) (f : Addr) (fd : FuncData) (ps : List Str), X.mg x = some (.ref f) ∧ PySem.W.keepIn X.K (.ref f) = true ∧ Binds X.K fd ps [] ∧ Room k X.A ∧ FnOk X.prog X.w X.K X.mg X.base CX0 k f fd ps (spOf X.K (Φ g) m)
  fr : ∀ (j : Nat) (x : Str), T.fr[j]? = some x → X.mg x = none
  cs : ∀ (j : Nat) (x s : Str), T.cs[j]? = some (x, s) → ∃ t, X.mg x = some (.str s t)
theorem Gd.blk {T : Tb} {Φ : Fns} {N : List Str} {sc : Scope} {X : Cx} (g : Gd T Φ N sc X) (s : Shared) (H : Hp) (scope : Scope) (C : Addr) (cl : List (Str × Addr)) (fp : List Addr) : Gd T Φ N (relS scope sc) (X.blk s H scope (compEnvC scope cl C X.env) fp) where
  n := g.n
  sc := by
    have e : (compEnvC scope cl C X.env).scope = relS scope X.env.scope := rfl
    show (compEnvC scope cl C X.env).scope = _
    rw [e, g.sc]
  nd := g.nd
  calm := g.calm
  xe := rfl
  un := g.un
  fn := g.fn
  fr := g.fr
  cs := g.cs

/-! ### what is asked of an evaluation -/
def tE (K : PySem.W.Frag) (Φ : Fns) (c : CE) : TE := fun σ H Q => ∃ as G ρ D x D', Wd as K G H D ∧ Rp as K G H σ ρ ∧ ev Φ c ρ D = some (x, D') ∧ ∀ v G' H', Stp as G H G' H' → Wd as K G' H' D' → Tr as K G' v x → Q v H'
/-- .. its value an operand -/
def tO (K : PySem.W.Frag) (Φ : Fns) (c : CE) : TE := fun σ H Q => ∃ as G ρ D x D', Wd as K G H D ∧ Rp as K G H σ ρ ∧ ev Φ c ρ D = some (x, D') ∧ ∀ v G' H', Stp as G H G' H' → Wd as K G' H' D' → TrO as K G' H' v x → Q v H'
/-- .. its value a new object -/
def tF (K : PySem.W.Frag) (Φ : Fns) (c : CE) : TE := fun σ H Q => ∃ as G ρ D x D', Wd as K G H D ∧ Rp as K G H σ ρ ∧ ev Φ c ρ D = some (x, D') ∧ ∀ p G' H', Stp as G H G' H' → Wd as K G' H' D' → H p = none → G' p = none → OwnO as K G' H' p x → Q (.ref p) H'
inductive TrOs (as : List Addr) (K : PySem.W.Frag) (G H : Hp) : List V → List PV → Prop
  | nil : TrOs as K G H [] []
  | cons {v : V} {x : PV} {vs : List V} {xs : List PV} : TrO as K G H v x → TrOs as K G H vs xs → TrOs as K G H (v :: vs) (x :: xs)
def tA (K : PySem.W.Frag) (Φ : Fns) (c : CEs) : TA := fun σ H Q => ∃ as G ρ D x D', Wd as K G H D ∧ Rp as K G H σ ρ ∧ evs Φ c ρ D = some (x, D') ∧ ∀ v G' H', Stp as G H G' H' → Wd as K G' H' D' → TrS as K G' v x → Q v H'
def tAO (K : PySem.W.Frag) (Φ : Fns) (c : CEs) : TA := fun σ H Q => ∃ as G ρ D x D', Wd as K G H D ∧ Rp as K G H σ ρ ∧ evs Φ c ρ D = some (x, D') ∧ ∀ v G' H', Stp as G H G' H' → Wd as K G' H' D' → TrOs as K G' H' v x → Q v H'
/-- a test -/
def tT (K : PySem.W.Frag) (Φ : Fns) (c : CE) : TT := fun σ H Q => ∃ as G ρ D b D', Wd as K G H D ∧ Rp as K G H σ ρ ∧ ev Φ c ρ D = some (.bl b, D') ∧ ∀ G' H', Stp as G H G' H' → Wd as K G' H' D' → Q b H'
abbrev PV_ (Φ : Fns) (X : Cx) (e : Expr) (c : CE) : Prop := PE X e (tE X.K Φ c)
abbrev PO_ (Φ : Fns) (X : Cx) (e : Expr) (c : CE) : Prop := PE X e (tO X.K Φ c)
abbrev PF_ (Φ : Fns) (X : Cx) (e : Expr) (c : CE) : Prop := PE X e (tF X.K Φ c)
abbrev PA_ (Φ : Fns) (X : Cx) (e : List Expr) (c : CEs) : Prop := PA X e (tA X.K Φ c)
abbrev PB_ (Φ : Fns) (X : Cx) (e : List Expr) (c : CEs) : Prop := PA X e (tAO X.K Φ c)
abbrev PT_ (Φ : Fns) (X : Cx) (e : Expr) (c : CE) : Prop := PT X e (tT X.K Φ c)
/-- weaken a reading -/
theorem pe_imp {X : Cx} {e : Expr} {t u : TE} (h : PE X e t) (i : ∀ σ H Q, u σ H Q → t σ H Q) : PE X e u := ⟨fun pins s σ H Q I q => h.run pins s σ H Q I (i _ _ _ q)⟩
theorem pa_imp {X : Cx} {e : List Expr} {t u : TA} (h : PA X e t) (i : ∀ σ H Q, u σ H Q → t σ H Q) : PA X e u := ⟨fun pos pins s σ H Q I q => h.run pos pins s σ H Q I (i _ _ _ q)⟩
theorem pt_imp {X : Cx} {e : Expr} {t u : TT} (h : PT X e t) (i : ∀ σ H Q, u σ H Q → t σ H Q) : PT X e u := ⟨fun pins s σ H Q I q => h.run pins s σ H Q I (i _ _ _ q)⟩
theorem pw_imp {X : Cx} {e : Expr} {t u : TT} (h : PW X e t) (i : ∀ σ H Q, u σ H Q → t σ H Q) : PW X e u := ⟨fun wh pins s σ H Q I q => h.run wh pins s σ H Q I (i _ _ _ q)⟩

section
variable {T : Tb} {Φ : Fns} {N : List Str} {sc : Scope} {X : Cx} {e a b : Expr} {pos : Pos}
theorem v_o {c : CE} (h : PV_ Φ X e c) : PO_ Φ X e c := pe_imp h fun σ H Q ⟨as, G, ρ, D, x, D', w, r, ee, f⟩ => ⟨as, G, ρ, D, x, D', w, r, ee, fun v G' H' st w' t => f v G' H' st w' (.inl t)⟩
/-- a new object may be told -/
theorem tell_own {as : List Addr} {K : PySem.W.Frag} {G H : Hp} {D : DS} {p : Addr} {z : PV} (w : Wd as K G H D) (hG : G p = none) (ha : p ∉ as) (h : OwnO as K G H p z) :
    ∃ G', Le G G' ∧ (∀ b, G' b ≠ none → G b ≠ none ∨ b = p) ∧ Wd as K G' H D ∧ Tr as K G' (.ref p) z := by
  have key : ∀ o, H p = some o → Wd as K (upd G p o) H D := fun o ho => by
    refine ⟨fun b u hb => ?_, w.nd, w.len, fun a m => ?_, fun j a x h1 h2 => ?_⟩
    · by_cases e : b = p
      · subst e; rw [upd_same] at hb; cases hb; exact ho
      · rw [upd_ne e] at hb; exact w.sub b u hb
    · rw [upd_ne (fun e : a = p => ha (by rw [← e]; exact m))]; exact w.off a m
    · have := (w.sh j a x h1 h2).up (G' := upd G p o) (H' := H) (le_new hG) rfl []
      simpa using this
  have two : ∀ o b, upd G p o b ≠ none → G b ≠ none ∨ b = p := fun o b hb => by
    by_cases e : b = p
    · exact .inr e
    · rw [upd_ne e] at hb; exact .inl hb
  cases z with
  | lst xs =>
    obtain ⟨vs, h1, h2⟩ := h
    exact ⟨_, le_new hG, two _, key _ h1, .lst upd_same (h2.up (le_new hG))⟩
  | dct t kvs =>
    rcases h with ⟨rfl, ks, h1, h2⟩ | ⟨rfl, ks, h1, h2⟩
    · exact ⟨_, le_new hG, two _, key _ h1, .dK (.of upd_same) (h2.up (le_new hG))⟩
    · exact ⟨_, le_new hG, two _, key _ h1, .dT (.of upd_same) (h2.up (le_new hG))⟩
  | _ => exact absurd h id
theorem Wd.some {as : List Addr} {K : PySem.W.Frag} {G H : Hp} {D : DS} (w : Wd as K G H D) {p : Addr} (h : p ∈ as) : H p ≠ none := fun e => w.offp e h
theorem f_v {c : CE} (h : PF_ Φ X e c) : PV_ Φ X e c := pe_imp h fun σ H Q ⟨as, G, ρ, D, x, D', w, r, ee, f⟩ => ⟨as, G, ρ, D, x, D', w, r, ee, fun p G' H' st w' hp hG o => by
  obtain ⟨G2, l, tw, w2, t⟩ := tell_own w' hG (fun m => w.some m hp) o
  refine f _ G2 H' ⟨st.le.trans l, fun b hb => ?_, st.kp, st.sm⟩ w2 t
  rcases tw b hb with z | z
  · exact st.nw b z
  · subst z; exact .inr hp⟩
theorem v_var {i : Nat} {x : Str} (g : Gd T Φ N sc X) (h : N[i]? = some x) (hv : Vis sc x) (hd : (x == ("__debug__" : Str)) = false := by decide) (hcd : (x == ("__classdict__" : Str)) = false := by decide) : PV_ Φ X (.Name x pos) (.var i) :=
  pe_imp (pe_var (i := i) (by rw [g.n]; exact h) (by rw [g.sc]; exact hv) hd hcd) fun σ H Q ⟨as, G, ρ, D, y, D', w, r, ee, f⟩ => by
    obtain ⟨z, e1, e2⟩ := Option.map_eq_some_iff.mp (show (getS ρ i).map (fun x => (x, D)) = some (y, D') from ee)
    cases e2
    unfold getS at e1
    split at e1
    · rename_i z' hz
      cases e1
      obtain ⟨v, e, t⟩ := r.frz i _ hz
      exact ⟨v, e, f v G H (Stp.refl _ _ _) w t⟩
    · cases e1
theorem o_bor {i : Nat} {x : Str} (g : Gd T Φ N sc X) (h : N[i]? = some x) (hv : Vis sc x) (hd : (x == ("__debug__" : Str)) = false := by decide) (hcd : (x == ("__classdict__" : Str)) = false := by decide) : PO_ Φ X (.Name x pos) (.bor i) :=
  pe_imp (pe_var (i := i) (by rw [g.n]; exact h) (by rw [g.sc]; exact hv) hd hcd) fun σ H Q ⟨as, G, ρ, D, y, D', w, r, ee, f⟩ => by
    obtain ⟨z, e1, e2⟩ := Option.map_eq_some_iff.mp (show (borS ρ i).map (fun x => (x, D)) = some (y, D') from ee)
    cases e2
    unfold borS at e1
    split at e1
    · rename_i o z' hz
      cases e1
      cases o with
      | false =>
        obtain ⟨v, e, t⟩ := r.frz i _ hz
        exact ⟨v, e, f v G H (Stp.refl _ _ _) w (.inl t)⟩
      | true =>
        obtain ⟨p, e, hG, ha, ow⟩ := r.own i _ hz
        exact ⟨_, e, f _ G H (Stp.refl _ _ _) w (.inr ⟨p, rfl, hG, ha, ow⟩)⟩
    · cases e1
theorem const_ {v : V} {x : PV} {c : CE} (h : PE X e (tC v)) (hc : ∀ ρ D, ev Φ c ρ D = some (x, D)) (ht : ∀ as G, Tr as X.K G v x) : PV_ Φ X e c :=
  pe_imp h fun σ H Q ⟨as, G, ρ, D, y, D', w, r, ee, f⟩ => by
    rw [hc] at ee
    cases ee
    exact f v G H (Stp.refl _ _ _) w (ht as G)
theorem v_int {i j} : PV_ Φ X (.Constant (.int i) j pos) (.int i) := const_ pe_int (fun _ _ => rfl) fun _ _ => .int _
theorem v_bl {b j} : PV_ Φ X (.Constant (.bool b) j pos) (.bl b) := const_ pe_bl (fun _ _ => rfl) fun _ _ => .bl _
theorem v_non {j} : PV_ Φ X (.Constant .none j pos) .non := const_ pe_non (fun _ _ => rfl) fun _ _ => .non
theorem v_str {x j} : PV_ Φ X (.Constant (.str x) j pos) (.str x) := const_ pe_str (fun _ _ => rfl) fun _ _ => .str _
theorem v_cst {x s : Str} {j : Nat} (g : Gd T Φ N sc X) (h : T.cs[j]? = some (x, s)) (hg : sc.names.lookup x = some .globalImplicit) (hd : (x == ("__debug__" : Str)) = false := by decide) : PV_ Φ X (.Name x pos) (.cst x s) := by
  obtain ⟨t, hm⟩ := g.cs j x s h
  exact const_ (pe_glob (v := .str s) (by unfold Gl Env.kindOf; rw [g.sc]; exact hg) hm ⟨t, rfl⟩ hd) (fun _ _ => rfl) fun _ _ => .str _
/-- two operands -/
theorem two {K : PySem.W.Frag} {ca cb : CE} {σ : L2.St} {H : Hp} {as : List Addr} {G : Hp} {ρ : Envi} {D D2 : DS} {x y : PV} {D1 : DS} (w : Wd as K G H D) (r : Rp as K G H σ ρ) (e1 : ev Φ ca ρ D = some (x, D1)) (e2 : ev Φ cb ρ D1 = some (y, D2))
    {R : V → V → Hp → Prop} (f : ∀ v u G' H', Stp as G H G' H' → Wd as K G' H' D2 → TrO as K G' H' v x → TrO as K G' H' u y → R v u H') : tO K Φ ca σ H fun v H1 => tO K Φ cb σ H1 fun u H2 => R v u H2 :=
  ⟨as, G, ρ, D, x, D1, w, r, e1, fun v1 G1 H1 st1 w1 t1 => ⟨as, G1, ρ, D1, y, D2, w1, r.up st1, e2, fun v2 G2 H2 st2 w2 t2 => f v1 v2 G2 H2 (st1.trans st2) w2 (t1.up st2) t2⟩⟩
theorem v_bin {op : Bo} {o : Operator} {ca cb : CE} (ha : PO_ Φ X a ca) (hb : PO_ Φ X b cb) (ho : o = boT op := by rfl) : PV_ Φ X (.BinOp a o b pos) (.bin op ca cb) := by
  subst ho
  refine pe_imp (pe_op (op_binM op) ha hb) fun σ H Q ⟨as, G, ρ, D, y, D', w, r, ee, f⟩ => ?_
  obtain ⟨⟨x, D1⟩, e1, ee⟩ := Option.bind_eq_some_iff.mp ee
  obtain ⟨⟨z, D2⟩, e2, ee⟩ := Option.bind_eq_some_iff.mp ee
  obtain ⟨t, e3, ee⟩ := Option.map_eq_some_iff.mp ee
  cases ee
  exact two w r e1 e2 fun v u G' H' st w' t1 t2 => ⟨as, G', _, x, z, _, w', t1.r, t2.r, e3, fun v2 G2 H2 st2 w2 t3 => f v2 G2 H2 (st.trans st2) w2 t3⟩
theorem v_neg {ca : CE} (ha : PO_ Φ X a ca) : PV_ Φ X (.UnaryOp .USub a pos) (.neg ca) :=
  pe_imp (pe_un un_neg ha) fun σ H Q ⟨as, G, ρ, D, y, D', w, r, ee, f⟩ => by
    obtain ⟨⟨x, D1⟩, e1, ee⟩ := Option.bind_eq_some_iff.mp ee
    obtain ⟨t, e3, ee⟩ := Option.map_eq_some_iff.mp ee
    cases ee
    refine ⟨as, G, ρ, D, x, D1, w, r, e1, fun v G' H' st w' t1 => ?_⟩
    cases x with
    | int i =>
      cases e3
      exact ⟨_, t1.r.int, f _ G' H' st w' (.int _)⟩
    | _ => cases e3
theorem cmp_ok {op : Co} {ca cb : CE} {σ : L2.St} {H : Hp} {Q : VK} (h : ∃ as G ρ D x D', Wd as X.K G H D ∧ Rp as X.K G H σ ρ ∧ ev Φ (.cmp op ca cb) ρ D = some (x, D') ∧ ∀ G' H', Stp as G H G' H' → Wd as X.K G' H' D' → ∀ b, x = .bl b → Q (.bl b) H') :
    tOp (rCmpM X.K op) (tO X.K Φ ca) (tO X.K Φ cb) σ H Q := by
  obtain ⟨as, G, ρ, D, y, D', w, r, ee, f⟩ := h
  obtain ⟨⟨x, D1⟩, e1, ee⟩ := Option.bind_eq_some_iff.mp ee
  obtain ⟨⟨z, D2⟩, e2, ee⟩ := Option.bind_eq_some_iff.mp ee
  obtain ⟨o, e3, ee⟩ := Option.bind_eq_some_iff.mp ee
  obtain ⟨t, e4, ee⟩ := Option.map_eq_some_iff.mp ee
  cases ee
  exact two w r e1 e2 fun v u G' H' st w' t1 t2 => ⟨as, G', D2, x, o, t, w', t1.r, t2.opd w' e3, e4, f G' H' st w' t rfl⟩
theorem v_cmp {op : Co} {o : CmpOp} {ca cb : CE} (g : Gd T Φ N sc X) (ha : PO_ Φ X a ca) (hb : PO_ Φ X b cb) (ho : o = coT op := by rfl) (hm : behindInMarks o b = false := by with_unfolding_all rfl) : PV_ Φ X (.Compare a [o] [b] pos) (.cmp op ca cb) := by
  subst ho
  refine pe_imp (pe_cmpR (op_cmpM g.un op) ha hb hm) fun σ H Q ⟨as, G, ρ, D, y, D', w, r, ee, f⟩ => cmp_ok ⟨as, G, ρ, D, y, D', w, r, ee, fun G' H' st w' b hb => ?_⟩
  subst hb
  exact f _ G' H' st w' (.bl b)
theorem t_cmp {op : Co} {o : CmpOp} {ca cb : CE} (g : Gd T Φ N sc X) (ha : PO_ Φ X a ca) (hb : PO_ Φ X b cb) (ho : o = coT op := by rfl) (hm : behindInMarks o b = false := by with_unfolding_all rfl) : PT_ Φ X (.Compare a [o] [b] pos) (.cmp op ca cb) := by
  subst ho
  refine pt_imp (pt_cmpR (op_cmpM g.un op) ha hb hm) fun σ H Q ⟨as, G, ρ, D, y, D', w, r, ee, f⟩ => cmp_ok ⟨as, G, ρ, D, .bl y, D', w, r, ee, fun G' H' st w' b hb => ?_⟩
  cases hb
  exact ⟨_, rfl, f G' H' st w'⟩
theorem chn_ok {op op2 : Co} {ca cb cc : CE} {σ : L2.St} {H : Hp} {Q : VK} (h : ∃ as G ρ D x D', Wd as X.K G H D ∧ Rp as X.K G H σ ρ ∧ ev Φ (.chn op op2 ca cb cc) ρ D = some (x, D') ∧ ∀ G' H', Stp as G H G' H' → Wd as X.K G' H' D' → ∀ b, x = .bl b → Q (.bl b) H') :
    tChain (rCmpM X.K op) (rCmpM X.K op2) (tO X.K Φ ca) (tO X.K Φ cb) (tO X.K Φ cc) σ H Q := by
  obtain ⟨as, G, ρ, D, y, D', w, r, ee, f⟩ := h
  obtain ⟨⟨x, D1⟩, e1, ee⟩ := Option.bind_eq_some_iff.mp ee
  obtain ⟨⟨z, D2⟩, e2, ee⟩ := Option.bind_eq_some_iff.mp ee
  obtain ⟨t, e3, ee⟩ := Option.bind_eq_some_iff.mp ee
  refine ⟨as, G, ρ, D, x, D1, w, r, e1, fun v1 G1 H1 st1 w1 t1 => ⟨as, G1, ρ, D1, z, D2, w1, r.up st1, e2, fun v2 G2 H2 st2 w2 t2 => ?_⟩⟩
  refine ⟨as, G2, D2, x, z, t, w2, (t1.up st2).r, t2.r, e3, t, rfl, ?_⟩
  cases t with
  | false =>
    cases ee
    exact f G2 H2 (st1.trans st2) w2 false rfl
  | true =>
    obtain ⟨⟨t3, D3⟩, e4, ee⟩ := Option.bind_eq_some_iff.mp (show (ev Φ cc ρ D2).bind (fun t => (pCmp op2 z t.1).map fun y => (PV.bl y, t.2)) = some (y, D') from ee)
    obtain ⟨q, e5, ee⟩ := Option.map_eq_some_iff.mp ee
    cases ee
    exact ⟨as, G2, ρ, D2, t3, D3, w2, r.up (st1.trans st2), e4, fun v3 G3 H3 st3 w3 t4 => ⟨as, G3, D3, z, t3, q, w3, (t2.up st3).r, t4.r, e5, f G3 H3 ((st1.trans st2).trans st3) w3 q rfl⟩⟩
theorem v_chn {op op2 : Co} {o o2 : CmpOp} {c : Expr} {ca cb cc : CE} (g : Gd T Φ N sc X) (ha : PO_ Φ X a ca) (hb : PO_ Φ X b cb) (hc : PO_ Φ X c cc) (ho : o = coT op := by rfl) (ho2 : o2 = coT op2 := by rfl)
    (hm : lastMarks [o, o2] [b, c] = false := by with_unfolding_all rfl) : PV_ Φ X (.Compare a [o, o2] [b, c] pos) (.chn op op2 ca cb cc) := by
  subst ho ho2
  refine pe_imp (pe_chain (op_cmpM g.un op) (op_cmpM g.un op2) ha hb hc hm) fun σ H Q ⟨as, G, ρ, D, y, D', w, r, ee, f⟩ => chn_ok ⟨as, G, ρ, D, y, D', w, r, ee, fun G' H' st w' b hb => ?_⟩
  subst hb
  exact f _ G' H' st w' (.bl b)
theorem t_chn {op op2 : Co} {o o2 : CmpOp} {c : Expr} {ca cb cc : CE} (g : Gd T Φ N sc X) (ha : PO_ Φ X a ca) (hb : PO_ Φ X b cb) (hc : PO_ Φ X c cc) (ho : o = coT op := by rfl) (ho2 : o2 = coT op2 := by rfl)
    (hm : lastMarks [o, o2] [b, c] = false := by with_unfolding_all rfl) : PT_ Φ X (.Compare a [o, o2] [b, c] pos) (.chn op op2 ca cb cc) := by
  subst ho ho2
  refine pt_imp (pt_chain (op_cmpM g.un op) (op_cmpM g.un op2) ha hb hc hm) fun σ H Q ⟨as, G, ρ, D, y, D', w, r, ee, f⟩ => chn_ok ⟨as, G, ρ, D, .bl y, D', w, r, ee, fun G' H' st w' b hb => ?_⟩
  cases hb
  exact ⟨_, rfl, f G' H' st w'⟩
/-! ### and, or, not, if -/
theorem v_and1 {ca : CE} (ha : PV_ Φ X a ca) : PV_ Φ X (.BoolOp .And [a] pos) (.and_ (.cons ca .nil)) := pe_one ha
theorem v_or1 {ca : CE} (ha : PV_ Φ X a ca) : PV_ Φ X (.BoolOp .Or [a] pos) (.or_ (.cons ca .nil)) := pe_one ha
theorem v_and {rest : List Expr} {ca cb : CE} {cr : CEs} (ha : PV_ Φ X a ca) (hb : PV_ Φ X (.BoolOp .And (b :: rest) pos) (.and_ (.cons cb cr))) : PV_ Φ X (.BoolOp .And (a :: b :: rest) pos) (.and_ (.cons ca (.cons cb cr))) :=
  pe_imp (pe_and ha hb) fun σ H Q ⟨as, G, ρ, D, y, D', w, r, ee, f⟩ => by
    obtain ⟨⟨x, D1⟩, e1, ee⟩ := Option.bind_eq_some_iff.mp (show (ev Φ ca ρ D).bind (fun r => (blOf r.1).bind fun z => if z then evand Φ (.cons cb cr) ρ r.2 else some (.bl false, r.2)) = some (y, D') from ee)
    obtain ⟨z, e2, ee⟩ := Option.bind_eq_some_iff.mp ee
    have ex : x = .bl z := by
      cases x <;> first | (cases e2; rfl) | cases e2
    subst ex
    refine ⟨as, G, ρ, D, _, D1, w, r, e1, fun v G' H' st w' t1 => ?_⟩
    cases t1
    refine ⟨z, rfl, ?_⟩
    cases z with
    | true => exact ⟨as, G', ρ, D1, y, D', w', r.up st, ee, fun v2 G2 H2 st2 w2 t2 => f v2 G2 H2 (st.trans st2) w2 t2⟩
    | false =>
      cases ee
      exact f _ G' H' st w' (.bl false)
theorem v_or {rest : List Expr} {ca cb : CE} {cr : CEs} (ha : PV_ Φ X a ca) (hb : PV_ Φ X (.BoolOp .Or (b :: rest) pos) (.or_ (.cons cb cr))) : PV_ Φ X (.BoolOp .Or (a :: b :: rest) pos) (.or_ (.cons ca (.cons cb cr))) :=
  pe_imp (pe_or ha hb) fun σ H Q ⟨as, G, ρ, D, y, D', w, r, ee, f⟩ => by
    obtain ⟨⟨x, D1⟩, e1, ee⟩ := Option.bind_eq_some_iff.mp (show (ev Φ ca ρ D).bind (fun r => (blOf r.1).bind fun z => if z then some (.bl true, r.2) else evor Φ (.cons cb cr) ρ r.2) = some (y, D') from ee)
    obtain ⟨z, e2, ee⟩ := Option.bind_eq_some_iff.mp ee
    have ex : x = .bl z := by
      cases x <;> first | (cases e2; rfl) | cases e2
    subst ex
    refine ⟨as, G, ρ, D, _, D1, w, r, e1, fun v G' H' st w' t1 => ?_⟩
    cases t1
    refine ⟨z, rfl, ?_⟩
    cases z with
    | false => exact ⟨as, G', ρ, D1, y, D', w', r.up st, ee, fun v2 G2 H2 st2 w2 t2 => f v2 G2 H2 (st.trans st2) w2 t2⟩
    | true =>
      cases ee
      exact f _ G' H' st w' (.bl true)
theorem v_not {ca : CE} (ha : PV_ Φ X a ca) : PV_ Φ X (.UnaryOp .Not a pos) (.not_ ca) :=
  pe_imp (pe_not ha) fun σ H Q ⟨as, G, ρ, D, y, D', w, r, ee, f⟩ => by
    obtain ⟨⟨x, D1⟩, e1, ee⟩ := Option.bind_eq_some_iff.mp ee
    obtain ⟨z, e2, ee⟩ := Option.map_eq_some_iff.mp ee
    cases ee
    have ex : x = .bl z := by
      cases x <;> first | (cases e2; rfl) | cases e2
    subst ex
    refine ⟨as, G, ρ, D, _, D1, w, r, e1, fun v G' H' st w' t1 => ?_⟩
    cases t1
    exact ⟨z, rfl, f _ G' H' st w' (.bl _)⟩
/-- a test of and, or: whatever its whole -/
abbrev PW_ (Φ : Fns) (X : Cx) (e : Expr) (c : CE) : Prop := PW X e (tT X.K Φ c)
theorem w_t {c : CE} (h : PW_ Φ X e c) : PT_ Φ X e c := h.pt
theorem w_and1 {ca : CE} (ha : PT_ Φ X a ca) : PW_ Φ X (.BoolOp .And [a] pos) (.and_ (.cons ca .nil)) := pw_and1 ha
theorem w_or1 {ca : CE} (ha : PT_ Φ X a ca) : PW_ Φ X (.BoolOp .Or [a] pos) (.or_ (.cons ca .nil)) := pw_or1 ha
theorem w_and {rest : List Expr} {ca cb : CE} {cr : CEs} (ha : PT_ Φ X a ca) (hb : PW_ Φ X (.BoolOp .And (b :: rest) pos) (.and_ (.cons cb cr))) : PW_ Φ X (.BoolOp .And (a :: b :: rest) pos) (.and_ (.cons ca (.cons cb cr))) :=
  pw_imp (pw_and ha hb) fun σ H Q ⟨as, G, ρ, D, y, D', w, r, ee, f⟩ => by
    obtain ⟨⟨x, D1⟩, e1, ee⟩ := Option.bind_eq_some_iff.mp (show (ev Φ ca ρ D).bind (fun r => (blOf r.1).bind fun z => if z then evand Φ (.cons cb cr) ρ r.2 else some (.bl false, r.2)) = some (.bl y, D') from ee)
    obtain ⟨z, e2, ee⟩ := Option.bind_eq_some_iff.mp ee
    have ex : x = .bl z := by
      cases x <;> first | (cases e2; rfl) | cases e2
    subst ex
    refine ⟨as, G, ρ, D, z, D1, w, r, e1, fun G' H' st w' => ?_⟩
    cases z with
    | true => exact ⟨as, G', ρ, D1, y, D', w', r.up st, ee, fun G2 H2 st2 w2 => f G2 H2 (st.trans st2) w2⟩
    | false =>
      cases ee
      exact f G' H' st w'
theorem w_or {rest : List Expr} {ca cb : CE} {cr : CEs} (ha : PT_ Φ X a ca) (hb : PW_ Φ X (.BoolOp .Or (b :: rest) pos) (.or_ (.cons cb cr))) : PW_ Φ X (.BoolOp .Or (a :: b :: rest) pos) (.or_ (.cons ca (.cons cb cr))) :=
  pw_imp (pw_or ha hb) fun σ H Q ⟨as, G, ρ, D, y, D', w, r, ee, f⟩ => by
    obtain ⟨⟨x, D1⟩, e1, ee⟩ := Option.bind_eq_some_iff.mp (show (ev Φ ca ρ D).bind (fun r => (blOf r.1).bind fun z => if z then some (.bl true, r.2) else evor Φ (.cons cb cr) ρ r.2) = some (.bl y, D') from ee)
    obtain ⟨z, e2, ee⟩ := Option.bind_eq_some_iff.mp ee
    have ex : x = .bl z := by
      cases x <;> first | (cases e2; rfl) | cases e2
    subst ex
    refine ⟨as, G, ρ, D, z, D1, w, r, e1, fun G' H' st w' => ?_⟩
    cases z with
    | false => exact ⟨as, G', ρ, D1, y, D', w', r.up st, ee, fun G2 H2 st2 w2 => f G2 H2 (st.trans st2) w2⟩
    | true =>
      cases ee
      exact f G' H' st w'
theorem t_not {ca : CE} (ha : PT_ Φ X a ca) : PT_ Φ X (.UnaryOp .Not a pos) (.not_ ca) :=
  pt_imp (pt_not ha) fun σ H Q ⟨as, G, ρ, D, y, D', w, r, ee, f⟩ => by
    obtain ⟨⟨x, D1⟩, e1, ee⟩ := Option.bind_eq_some_iff.mp ee
    obtain ⟨z, e2, ee⟩ := Option.map_eq_some_iff.mp ee
    cases ee
    have ex : x = .bl z := by
      cases x <;> first | (cases e2; rfl) | cases e2
    subst ex
    exact ⟨as, G, ρ, D, z, D1, w, r, e1, fun G' H' st w' => f G' H' st w'⟩
/-- a value that is a bool, as a test -/
theorem t_val {ca : CE} (h : PV_ Φ X e ca) (he : ∀ whole, isTrue e X.env whole = (do let v ← whole; standAt e.pos; holding [v] (truthy v)) := by intro _; rfl) : PT_ Φ X e ca :=
  pt_imp (pt_val h he) fun σ H Q ⟨as, G, ρ, D, y, D', w, r, ee, f⟩ => ⟨as, G, ρ, D, .bl y, D', w, r, ee, fun v G' H' st w' t => by
    cases t
    exact ⟨_, rfl, f G' H' st w'⟩⟩
theorem v_ite {c : Expr} {cc ca cb : CE} (hc : PT_ Φ X c cc) (ha : PV_ Φ X a ca) (hb : PV_ Φ X b cb) : PV_ Φ X (.IfExp c a b pos) (.ite cc ca cb) :=
  pe_imp (pe_ifExp hc ha hb) fun σ H Q ⟨as, G, ρ, D, y, D', w, r, ee, f⟩ => by
    obtain ⟨⟨x, D1⟩, e1, ee⟩ := Option.bind_eq_some_iff.mp ee
    obtain ⟨z, e2, ee⟩ := Option.bind_eq_some_iff.mp ee
    have ex : x = .bl z := by
      cases x <;> first | (cases e2; rfl) | cases e2
    subst ex
    refine ⟨as, G, ρ, D, z, D1, w, r, e1, fun G' H' st w' => ?_⟩
    cases z with
    | true => exact ⟨as, G', ρ, D1, y, D', w', r.up st, ee, fun v2 G2 H2 st2 w2 t2 => f v2 G2 H2 (st.trans st2) w2 t2⟩
    | false => exact ⟨as, G', ρ, D1, y, D', w', r.up st, ee, fun v2 G2 H2 st2 w2 t2 => f v2 G2 H2 (st.trans st2) w2 t2⟩
/-! ### lists of expressions, displays -/
theorem a_nil : PA_ Φ X [] .nil := pa_imp pa_nil fun σ H Q ⟨as, G, ρ, D, y, D', w, r, ee, f⟩ => by
  cases ee
  exact f [] G H (Stp.refl _ _ _) w .nil
theorem a_cons {es : List Expr} {c : CE} {cs : CEs} (ha : PV_ Φ X e c) (hr : PA_ Φ X es cs) (hs : starEach (e :: es) X.env = (false, eval e X.env) :: starEach es X.env := by rfl) : PA_ Φ X (e :: es) (.cons c cs) :=
  pa_imp (pa_cons ha hr hs) fun σ H Q ⟨as, G, ρ, D, y, D', w, r, ee, f⟩ => by
    obtain ⟨⟨x, D1⟩, e1, ee⟩ := Option.bind_eq_some_iff.mp ee
    obtain ⟨⟨xs, D2⟩, e2, ee⟩ := Option.map_eq_some_iff.mp ee
    cases ee
    exact ⟨as, G, ρ, D, x, D1, w, r, e1, fun v1 G1 H1 st1 w1 t1 => ⟨as, G1, ρ, D1, xs, D2, w1, r.up st1, e2, fun v2 G2 H2 st2 w2 t2 => f _ G2 H2 (st1.trans st2) w2 (.cons (t1.up st2.le) t2)⟩⟩
theorem b_nil : PB_ Φ X [] .nil := pa_imp pa_nil fun σ H Q ⟨as, G, ρ, D, y, D', w, r, ee, f⟩ => by
  cases ee
  exact f [] G H (Stp.refl _ _ _) w .nil
theorem TrOs.up {as : List Addr} {K : PySem.W.Frag} {G H G' H' : Hp} (st : Stp as G H G' H') : ∀ {vs : List V} {xs : List PV}, TrOs as K G H vs xs → TrOs as K G' H' vs xs
  | _, _, .nil => .nil
  | _, _, .cons h t => .cons (h.up st) (TrOs.up st t)
theorem b_cons {es : List Expr} {c : CE} {cs : CEs} (ha : PO_ Φ X e c) (hr : PB_ Φ X es cs) (hs : starEach (e :: es) X.env = (false, eval e X.env) :: starEach es X.env := by rfl) : PB_ Φ X (e :: es) (.cons c cs) :=
  pa_imp (pa_cons ha hr hs) fun σ H Q ⟨as, G, ρ, D, y, D', w, r, ee, f⟩ => by
    obtain ⟨⟨x, D1⟩, e1, ee⟩ := Option.bind_eq_some_iff.mp ee
    obtain ⟨⟨xs, D2⟩, e2, ee⟩ := Option.map_eq_some_iff.mp ee
    cases ee
    exact ⟨as, G, ρ, D, x, D1, w, r, e1, fun v1 G1 H1 st1 w1 t1 => ⟨as, G1, ρ, D1, xs, D2, w1, r.up st1, e2, fun v2 G2 H2 st2 w2 t2 => f _ G2 H2 (st1.trans st2) w2 (.cons (t1.up st2) t2)⟩⟩
def CEs.len : CEs → Nat
  | .nil => 0
  | .cons _ r => r.len + 1
theorem evs_len {Φ : Fns} {ρ : Envi} : ∀ {cs : CEs} {D D' : DS} {xs : List PV}, evs Φ cs ρ D = some (xs, D') → xs.length = cs.len
  | .nil, _, _, _, h => by cases h; rfl
  | .cons c cs, D, D', xs, h => by
    obtain ⟨⟨x, D1⟩, e1, ee⟩ := Option.bind_eq_some_iff.mp h
    obtain ⟨⟨ys, D2⟩, e2, ee⟩ := Option.map_eq_some_iff.mp ee
    cases ee
    show ys.length + 1 = cs.len + 1
    rw [evs_len e2]
theorem v_tup {es : List Expr} {cs : CEs} {x1} (h : PA_ Φ X es cs) (hl : cs.len ≤ LIM := by decide) : PV_ Φ X (.Tuple es x1 pos) (.tup cs) :=
  pe_imp (pe_tup h) fun σ H Q ⟨as, G, ρ, D, y, D', w, r, ee, f⟩ => by
    obtain ⟨⟨xs, D1⟩, e1, ee⟩ := Option.map_eq_some_iff.mp ee
    cases ee
    refine ⟨as, G, ρ, D, xs, D1, w, r, e1, fun vs G1 H1 st1 w1 t1 => ⟨by rw [t1.len, evs_len e1]; exact line_lim hl, fun p hp => ?_⟩⟩
    exact f _ _ _ (st1.trans (Stp.new hp (w1.free hp))) (w1.new hp) (.tup upd_same (t1.up (le_new (w1.free hp))))
theorem f_lst {es : List Expr} {cs : CEs} (h : PA_ Φ X es cs) (hl : cs.len ≤ LIM := by decide) : PF_ Φ X (.List es pos) (.lst cs) :=
  pe_imp (pe_lst h) fun σ H Q ⟨as, G, ρ, D, y, D', w, r, ee, f⟩ => by
    obtain ⟨⟨xs, D1⟩, e1, ee⟩ := Option.map_eq_some_iff.mp ee
    cases ee
    refine ⟨as, G, ρ, D, xs, D1, w, r, e1, fun vs G1 H1 st1 w1 t1 => ⟨by rw [t1.len, evs_len e1]; exact line_lim hl, fun p hp => ?_⟩⟩
    have hp0 : H p = none := by
      cases q : H p with
      | none => rfl
      | some o => exact absurd hp (st1.sm p (by rw [q]; exact fun z => nomatch z))
    exact f p G1 _ (st1.trans (Stp.own hp)) (w1.ownp hp) hp0 (w1.free hp) ⟨vs, upd_same, t1⟩
theorem pBin_cat {x z t : PV} (h : pBin .cat x z = some t) : ∃ a b, x = .lst a ∧ z = .lst b ∧ a.length + b.length ≤ LIM ∧ t = .lst (a ++ b) := by
  cases x <;> cases z <;> try (cases h; done)
  rename_i a b
  have h' : (if a.length + b.length ≤ LIM then some (PV.lst (a ++ b)) else none) = some t := h
  split at h'
  · rename_i hl
    cases h'
    exact ⟨a, b, rfl, rfl, hl, rfl⟩
  · cases h'
theorem pBin_rep {x z t : PV} (h : pBin .rep x z = some t) : ∃ a k, x = .lst a ∧ z = .int k ∧ (a.length * k.toNat ≤ LIM ∧ k ≤ LIM ∧ -LIM ≤ k) ∧ t = .lst (List.replicate k.toNat a).flatten := by
  cases x <;> cases z <;> try (cases h; done)
  rename_i a k
  have h' : (if a.length * k.toNat ≤ LIM ∧ k ≤ LIM ∧ -LIM ≤ k then some (PV.lst (List.replicate k.toNat a).flatten) else none) = some t := h
  split at h'
  · rename_i hl
    cases h'
    exact ⟨a, k, rfl, rfl, hl, rfl⟩
  · cases h'
/-- list + list, a new list -/
theorem f_cat {ca cb : CE} (ha : PO_ Φ X a ca) (hb : PO_ Φ X b cb) : PF_ Φ X (.BinOp a .Add b pos) (.bin .cat ca cb) := by
  refine pe_imp (pe_op op_cat ha hb) fun σ H Q ⟨as, G, ρ, D, y, D', w, r, ee, f⟩ => ?_
  obtain ⟨⟨x, D1⟩, e1, ee⟩ := Option.bind_eq_some_iff.mp ee
  obtain ⟨⟨z, D2⟩, e2, ee⟩ := Option.bind_eq_some_iff.mp ee
  obtain ⟨t, e3, ee⟩ := Option.map_eq_some_iff.mp ee
  cases ee
  obtain ⟨xa, xb, hxa, hxb, hl, ht⟩ := pBin_cat e3
  refine two w r e1 e2 fun v u G' H' st w' t1 t2 => ?_
  have hx := t1.r
  have hy := t2.r
  have hxa : x = .lst xa := hxa
  have hxb : z = .lst xb := hxb
  subst hxa hxb ht
  obtain ⟨p, vs, rfl, h1, s1⟩ := hx.lst w'
  obtain ⟨q, ws, rfl, h2, s2⟩ := hy.lst w'
  refine ⟨_, _, _, _, rfl, rfl, h1, h2, by rw [s1.len, s2.len]; exact line_lim hl, fun p hp => ?_⟩
  have hp0 : H p = none := by
    cases q : H p with
    | none => rfl
    | some o => exact absurd hp (st.sm p (by rw [q]; exact fun z => nomatch z))
  exact f p G' _ (st.trans (Stp.own hp)) (w'.ownp hp) hp0 (w'.free hp) ⟨_, upd_same, s1.app s2⟩
/-- list * n, a new list -/
theorem f_rep {ca cb : CE} (ha : PO_ Φ X a ca) (hb : PO_ Φ X b cb) : PF_ Φ X (.BinOp a .Mult b pos) (.bin .rep ca cb) := by
  refine pe_imp (pe_op op_rep ha hb) fun σ H Q ⟨as, G, ρ, D, y, D', w, r, ee, f⟩ => ?_
  obtain ⟨⟨x, D1⟩, e1, ee⟩ := Option.bind_eq_some_iff.mp ee
  obtain ⟨⟨z, D2⟩, e2, ee⟩ := Option.bind_eq_some_iff.mp ee
  obtain ⟨t, e3, ee⟩ := Option.map_eq_some_iff.mp ee
  cases ee
  obtain ⟨xa, k, hxa, hxb, hl, ht⟩ := pBin_rep e3
  refine two w r e1 e2 fun v u G' H' st w' t1 t2 => ?_
  have hx := t1.r
  have hy := t2.r
  have hxa : x = .lst xa := hxa
  have hxb : z = .int k := hxb
  subst hxa hxb ht
  obtain ⟨p, vs, rfl, h1, s1⟩ := hx.lst w'
  obtain rfl := hy.int
  obtain ⟨l1, l2, l3⟩ := hl
  have : ((LIM : Nat) : Int) = 1000000 := rfl
  refine ⟨_, _, _, rfl, rfl, h1, by omega, by omega, by rw [s1.len]; exact line_lim l1, fun p hp => ?_⟩
  have hp0 : H p = none := by
    cases q : H p with
    | none => rfl
    | some o => exact absurd hp (st.sm p (by rw [q]; exact fun z => nomatch z))
  exact f p G' _ (st.trans (Stp.own hp)) (w'.ownp hp) hp0 (w'.free hp) ⟨_, upd_same, s1.rep _⟩
/-! ### subscripts -/
theorem v_idx {ca cb : CE} (g : Gd T Φ N sc X) (ha : PO_ Φ X a ca) (hb : PO_ Φ X b cb) (hs : PlainIx b := by intro _ _; rfl) : PV_ Φ X (.Subscript a b pos) (.idx ca cb) :=
  pe_imp (pe_ix (ix_M g.un) ha hb hs) fun σ H Q ⟨as, G, ρ, D, y, D', w, r, ee, f⟩ => by
    obtain ⟨⟨x, D1⟩, e1, ee⟩ := Option.bind_eq_some_iff.mp ee
    obtain ⟨⟨z, D2⟩, e2, ee⟩ := Option.bind_eq_some_iff.mp ee
    obtain ⟨o, e3, ee⟩ := Option.bind_eq_some_iff.mp ee
    obtain ⟨t, e4, ee⟩ := Option.map_eq_some_iff.mp ee
    cases ee
    exact two w r e1 e2 fun v u G' H' st w' t1 t2 => ⟨as, G', _, o, z, _, w', t1.opd w' e3, t2.r, e4, fun v2 t3 => f v2 G' H' st w' t3⟩
/-! ### calls -/
theorem trOs_opd {as : List Addr} {K : PySem.W.Frag} {G H : Hp} {D : DS} (w : Wd as K G H D) : ∀ {vs : List V} {xs ys : List PV}, TrOs as K G H vs xs → mapO (opd D) xs = some ys → TrRs as K G H vs ys
  | _, _, _, .nil, h => by cases h; exact .nil
  | _, _, _, .cons (x := x) (xs := xs) h t, e => by
    obtain ⟨y, e1, e2⟩ := Option.bind_eq_some_iff.mp (show (opd D x).bind (fun y => (mapO (opd D) xs).bind fun ys => some (y :: ys)) = some _ from e)
    obtain ⟨ys, e3, e4⟩ := Option.bind_eq_some_iff.mp e2
    cases e4
    exact .cons (h.opd w e1) (trOs_opd w t e3)
theorem bi_run {b : Bi} {cs : CEs} {σ : L2.St} {H : Hp} {Q : VK} (h : tE X.K Φ (.bi b cs) σ H Q) : tCB (rBiM X.K b) (tAO X.K Φ cs) σ H Q := by
  obtain ⟨as, G, ρ, D, y, D', w, r, ee, f⟩ := h
  obtain ⟨⟨xs, D1⟩, e1, ee⟩ := Option.bind_eq_some_iff.mp ee
  obtain ⟨ys, e2, ee⟩ := Option.bind_eq_some_iff.mp ee
  obtain ⟨z, e3, ee⟩ := Option.map_eq_some_iff.mp ee
  cases ee
  exact ⟨as, G, ρ, D, xs, D1, w, r, e1, fun vs G1 H1 st1 w1 t1 => ⟨as, G1, _, ys, _, w1, trOs_opd w1 t1 e2, e3, fun v G' H' st w' t => f v G' H' (st1.trans st) w' t⟩⟩
theorem none_back {as : List Addr} {G H G' H' : Hp} (st : Stp as G H G' H') {p : Addr} (hp : H' p = none) : H p = none := by
  cases q : H p with
  | none => rfl
  | some o => exact absurd hp (st.sm p (by rw [q]; exact fun z => nomatch z))
theorem bi_runF {b : Bi} {cs : CEs} {σ : L2.St} {H : Hp} {Q : VK} (h : tF X.K Φ (.bi b cs) σ H Q) : tCB (rBiF X.K b) (tAO X.K Φ cs) σ H Q := by
  obtain ⟨as, G, ρ, D, y, D', w, r, ee, f⟩ := h
  obtain ⟨⟨xs, D1⟩, e1, ee⟩ := Option.bind_eq_some_iff.mp ee
  obtain ⟨ys, e2, ee⟩ := Option.bind_eq_some_iff.mp ee
  obtain ⟨z, e3, ee⟩ := Option.map_eq_some_iff.mp ee
  cases ee
  refine ⟨as, G, ρ, D, xs, D1, w, r, e1, fun vs G1 H1 st1 w1 t1 => ⟨as, G1, _, ys, _, w1, trOs_opd w1 t1 e2, e3, fun p o hp ow => ?_⟩⟩
  exact f p G1 _ (st1.trans (Stp.own hp)) (w1.ownp hp) (none_back st1 hp) (w1.free hp) ow
section
variable {x : Str} {p : Pos} {es : List Expr} {cs : CEs} {j : Nat}
theorem gl_of {sc : Scope} {X : Cx} {x : Str} (g : Gd T Φ N sc X) (h : sc.names.lookup x = some .globalImplicit) : Gl X x := by
  unfold Gl Env.kindOf
  rw [g.sc]
  exact h
/-- f(e, ..), f a built-in function -/
theorem v_biB {b : Bi} {id : String} (g : Gd T Φ N sc X) (hc : CallR X (.builtin id) (rBiM X.K b)) (hg : sc.names.lookup x = some .globalImplicit) (hm : T.fr[j]? = some x) (hv : bootBuiltins x = some (.builtin id)) (ha : PB_ Φ X (e :: es) cs)
    (hn : x ≠ "__name__" := by decide) (hdb : (x == ("__debug__" : Str)) = false := by decide)
    (he : starEach (e :: es) X.env = (false, eval e X.env) :: starEach es X.env := by rfl) (hpl : (backTo pos (starEach es X.env)).any (·.1) = false := by rfl) : PV_ Φ X (.Call (.Name x p) (e :: es) [] pos) (.bi b cs) :=
  pe_imp (pe_callB hc (gl_of g hg) (g.fr j x hm) hv ha hn hdb he hpl) fun σ H Q h => bi_run h
theorem v_biT {b : Bi} {id : String} (g : Gd T Φ N sc X) (hc : CallR X (.type id) (rBiM X.K b)) (hg : sc.names.lookup x = some .globalImplicit) (hm : T.fr[j]? = some x) (hv : bootBuiltins x = some (.type id)) (ha : PB_ Φ X (e :: es) cs)
    (hn : x ≠ "__name__" := by decide) (hdb : (x == ("__debug__" : Str)) = false := by decide)
    (he : starEach (e :: es) X.env = (false, eval e X.env) :: starEach es X.env := by rfl) (hpl : (backTo pos (starEach es X.env)).any (·.1) = false := by rfl) : PV_ Φ X (.Call (.Name x p) (e :: es) [] pos) (.bi b cs) :=
  pe_imp (pe_callTy hc (gl_of g hg) (g.fr j x hm) hv ha hn hdb he hpl) fun σ H Q h => bi_run h
theorem f_biB {b : Bi} {id : String} (g : Gd T Φ N sc X) (hc : CallR X (.builtin id) (rBiF X.K b)) (hg : sc.names.lookup x = some .globalImplicit) (hm : T.fr[j]? = some x) (hv : bootBuiltins x = some (.builtin id)) (ha : PB_ Φ X (e :: es) cs)
    (hn : x ≠ "__name__" := by decide) (hdb : (x == ("__debug__" : Str)) = false := by decide)
    (he : starEach (e :: es) X.env = (false, eval e X.env) :: starEach es X.env := by rfl) (hpl : (backTo pos (starEach es X.env)).any (·.1) = false := by rfl) : PF_ Φ X (.Call (.Name x p) (e :: es) [] pos) (.bi b cs) :=
  pe_imp (pe_callB hc (gl_of g hg) (g.fr j x hm) hv ha hn hdb he hpl) fun σ H Q h => bi_runF h
theorem f_biT {b : Bi} {id : String} (g : Gd T Φ N sc X) (hc : CallR X (.type id) (rBiF X.K b)) (hg : sc.names.lookup x = some .globalImplicit) (hm : T.fr[j]? = some x) (hv : bootBuiltins x = some (.type id)) (ha : PB_ Φ X (e :: es) cs)
    (hn : x ≠ "__name__" := by decide) (hdb : (x == ("__debug__" : Str)) = false := by decide)
    (he : starEach (e :: es) X.env = (false, eval e X.env) :: starEach es X.env := by rfl) (hpl : (backTo pos (starEach es X.env)).any (·.1) = false := by rfl) : PF_ Φ X (.Call (.Name x p) (e :: es) [] pos) (.bi b cs) :=
  pe_imp (pe_callTy hc (gl_of g hg) (g.fr j x hm) hv ha hn hdb he hpl) fun σ H Q h => bi_runF h
/-- a call of a def -/
theorem v_call {i m : Nat} (g : Gd T Φ N sc X) (h : T.fns[i]? = some (x, m)) (hg : sc.names.lookup x = some .globalImplicit) (ha : PA_ Φ X (e :: es) cs) (hl : cs.len = m := by rfl) (hdb : (x == ("__debug__" : Str)) = false := by decide)
    (he : starEach (e :: es) X.env = (false, eval e X.env) :: starEach es X.env := by rfl) (hpl : (backTo pos (starEach es X.env)).any (·.1) = false := by rfl) : PV_ Φ X (.Call (.Name x p) (e :: es) [] pos) (.call i cs) := by
  obtain ⟨k, f, fd, ps, h1, h2, h3, h4, h5⟩ := g.fn i x m h
  refine pe_imp (pe_call (E := E0) h5 h4 (gl_of g hg) h1 h2 h3 .nil pass0 ha hdb he hpl) fun σ H Q ⟨as, G, ρ, D, y, D', w, r, ee, f⟩ => ?_
  obtain ⟨⟨xs, D1⟩, e1, ee⟩ := Option.bind_eq_some_iff.mp ee
  refine ⟨as, G, ρ, D, xs, D1, w, r, e1, fun vs G1 H1 st1 w1 t1 => ⟨by rw [List.append_nil, t1.len, evs_len e1, hl], as, G1, D1, xs, y, D', w1, by rw [List.append_nil]; exact t1, ee, fun v G' H' st w' t => f v G' H' (st1.trans st) w' t⟩⟩
end
end
end MP

/-! MP it: what loops and comprehensions walk; comprehensions. -/
namespace MP
open PySem PySem.Spec PyProof.Rows L2

/-- the series xs, at all states that are later -/
def Ser (J : It) (as : List Addr) (K : PySem.W.Frag) (xs : List PV) (Lat : Hp → Hp → Prop) : Prop := ∀ (more : List Addr) (G H : Hp) (D : DS), Lat G H → Wd (as ++ more) K G H D →
  (∀ i, i < xs.length → J.go i H) ∧ (∀ i, xs.length ≤ i → J.stop i H) ∧ ∀ (i : Nat) (x : PV) (v : V) (H' : Hp), xs[i]? = some x → J.yld i H v H' → ∃ G', Stp (as ++ more) G H G' H' ∧ Wd (as ++ more) K G' H' D ∧ Tr (as ++ more) K G' v x
theorem Ser.weak {J : It} {as : List Addr} {K : PySem.W.Frag} {xs : List PV} {L L' : Hp → Hp → Prop} (s : Ser J as K xs L) (h : ∀ G H, L' G H → L G H) : Ser J as K xs L' := fun more G H D l w => s more G H D (h G H l) w
def tI (K : PySem.W.Frag) (Φ : Fns) (it : CI) : TI := fun σ H R => ∃ as G ρ D xs D', Wd as K G H D ∧ Rp as K G H σ ρ ∧ evi Φ it ρ D = some (xs, D') ∧ ∀ J G' H', Stp as G H G' H' → Wd as K G' H' D' → xs.length ≤ sizeLine → Ser J as K xs (fun G2 _ => Le G' G2) → R J H'
def tJ (K : PySem.W.Frag) (Φ : Fns) (it : CI) : TI := fun σ H R => ∃ as G ρ D xs D', Wd as K G H D ∧ Rp as K G H σ ρ ∧ evi Φ it ρ D = some (xs, D') ∧ ∀ J G' H', Stp as G H G' H' → Wd as K G' H' D' → xs.length ≤ sizeLine → Ser J as K xs (fun G2 H2 => Stp as G' H' G2 H2) → R J H'
abbrev PI_ (Φ : Fns) (X : Cx) (tg e : Expr) (c : CI) : Prop := PI X tg e (tI X.K Φ c)
abbrev PJ_ (Φ : Fns) (X : Cx) (tg e : Expr) (c : CI) : Prop := PI X tg e (tJ X.K Φ c)
theorem pi_imp {X : Cx} {tg e : Expr} {t u : TI} (h : PI X tg e t) (i : ∀ σ H R, u σ H R → t σ H R) : PI X tg e u := ⟨fun pins s σ H R I q => h.run pins s σ H R I (i _ _ _ q)⟩
def Szs (K : PySem.W.Frag) (H : Hp) : Prop := (∀ a xs, SqL K H a xs → xs.length ≤ sizeLine) ∧ ∀ a xs, SqT K H a xs → xs.length ≤ sizeLine
theorem pi_strong {X : Cx} {tg e : Expr} {t : TI} (h : PI X tg e t) : PI X tg e (fun σ H R => t σ H fun J H1 => Szs X.K H1 → R J H1) := ⟨fun pins s σ H R I q =>
  thn (h.run pins s σ H _ I q) fun v s1 h1 => thn h1 fun u s2 ⟨it, fp, tn, J, H', e, I', T, st, fo, q'⟩ => ⟨it, fp, tn, J, H', e, I', T, st, fo, q' ⟨fun a xs hq => let ⟨_, _, _, z⟩ := I'.list hq; z, fun a xs hq => let ⟨_, _, _, z⟩ := I'.tuple hq; z⟩⟩⟩

section
variable {as : List Addr} {K : PySem.W.Frag} {G H : Hp} {D : DS}
theorem ser_list {a : Addr} {vs : List V} {xs : List PV} {L : Hp → Hp → Prop} (hl : ∀ (more : List Addr) (G2 H2 : Hp) (D2 : DS), L G2 H2 → Wd (as ++ more) K G2 H2 D2 → SqL K H2 a vs ∧ TrS (as ++ more) K G2 vs xs) : Ser (Itl K a) as K xs L := fun more G2 H2 D2 l w => by
  obtain ⟨sq, t⟩ := hl more G2 H2 D2 l w
  have e := t.len
  refine ⟨fun i hi => ⟨vs, vs[i]'(by omega), sq, List.getElem?_eq_getElem (by omega)⟩, fun i hi => ⟨vs, sq, by omega⟩, fun i x v H' hx hy => ?_⟩
  obtain ⟨rfl, hy⟩ := hy
  obtain ⟨v', e1, t1⟩ := t.get hx
  have := hy vs sq
  rw [e1] at this
  cases this
  exact ⟨G2, Stp.refl _ _ _, w, t1⟩
theorem ser_tup {a : Addr} {vs : List V} {xs : List PV} {L : Hp → Hp → Prop} (hl : ∀ (more : List Addr) (G2 H2 : Hp) (D2 : DS), L G2 H2 → Wd (as ++ more) K G2 H2 D2 → SqT K H2 a vs ∧ TrS (as ++ more) K G2 vs xs) : Ser (Itt K a) as K xs L := fun more G2 H2 D2 l w => by
  obtain ⟨sq, t⟩ := hl more G2 H2 D2 l w
  have e := t.len
  refine ⟨fun i hi => ⟨vs, vs[i]'(by omega), sq, List.getElem?_eq_getElem (by omega)⟩, fun i hi => ⟨vs, sq, by omega⟩, fun i x v H' hx hy => ?_⟩
  obtain ⟨rfl, hy⟩ := hy
  obtain ⟨v', e1, t1⟩ := t.get hx
  have := hy vs sq
  rw [e1] at this
  cases this
  exact ⟨G2, Stp.refl _ _ _, w, t1⟩
theorem ser_str {z : Str} {L : Hp → Hp → Prop} : Ser (Its z) as K (chars z) L := fun more G2 H2 D2 l w => by
  have e : (chars z).length = z.cps.size := by simp [chars]
  refine ⟨fun i hi => (by rw [e] at hi; exact hi), fun i hi => (by rw [e] at hi; exact hi), fun i x v H' hx hy => ?_⟩
  obtain ⟨rfl, c, hc, rfl⟩ := hy
  have : x = .str ⟨#[c]⟩ := by
    unfold chars at hx
    rw [List.getElem?_map, Array.getElem?_toList, hc] at hx
    exact (Option.some.inj hx).symm
  subst this
  exact ⟨G2, Stp.refl _ _ _, w, .str _⟩
theorem rngL_get {a b : Int} {i : Nat} {x : PV} (h : (rngL a b)[i]? = some x) : x = .int (a + i) := by
  unfold rngL at h
  rw [List.getElem?_map] at h
  by_cases hi : i < (b - a).toNat
  · rw [List.getElem?_range hi] at h
    exact (Option.some.inj h).symm
  · rw [List.getElem?_eq_none (by simpa using hi)] at h
    cases h
theorem rngL_len (a b : Int) : (rngL a b).length = (b - a).toNat := by simp [rngL]
theorem ser_rng {a b : Int} {n : Nat} {L : Hp → Hp → Prop} (hn : n = (b - a).toNat) : Ser (Itr a n) as K (rngL a b) L := fun more G2 H2 D2 l w => by
  subst hn
  refine ⟨fun i hi => (by rw [rngL_len] at hi; exact hi), fun i hi => (by rw [rngL_len] at hi; exact hi), fun i x v H' hx hy => ?_⟩
  obtain ⟨rfl, rfl⟩ := hy
  rw [rngL_get hx]
  exact ⟨G2, Stp.refl _ _ _, w, .int _⟩
theorem rng_size {a b : Int} (h : rngOk a b = true) : (rngL a b).length ≤ sizeLine := by
  have h' := of_decide_eq_true h
  have : ((LIM : Nat) : Int) = 1000000 := rfl
  rw [rngL_len, sizeLine_eq]
  omega
theorem stp_le {G' H' : Hp} (st : Stp as G H G' H') : Le G G' := st.le
end
section
variable {T : Tb} {Φ : Fns} {N : List Str} {sc : Scope} {X : Cx} {e a b tg : Expr} {pos p : Pos}
theorem i_j {c : CI} (h : PI_ Φ X tg e c) : PJ_ Φ X tg e c := pi_imp h fun σ H R ⟨as, G, ρ, D, xs, D', w, r, ee, f⟩ => ⟨as, G, ρ, D, xs, D', w, r, ee, fun J G' H' st w' hz s => f J G' H' st w' hz (s.weak fun _ _ l => l.le)⟩
theorem i_over {c : CE} (h : PV_ Φ X e c) : PI_ Φ X tg e (.over c) := ⟨fun pins s σ H R I ⟨as, G, ρ, D, xs, D', w, r, ee, f⟩ => by
  obtain ⟨⟨x, D1⟩, e1, ee⟩ := Option.bind_eq_some_iff.mp ee
  obtain ⟨ys, e2, ee⟩ := Option.map_eq_some_iff.mp ee
  cases ee
  cases x with
  | lst zs =>
    cases e2
    refine (pi_strong (pi_list (tg := tg) h)).run pins s σ H R I ⟨as, G, ρ, D, _, _, w, r, e1, fun v G' H' st w' t => ?_⟩
    cases t with
    | lst hG ts => exact ⟨_, rfl, ⟨_, .of (w'.sub _ _ hG)⟩, fun sz => f _ G' H' st w' (by rw [← ts.len]; exact sz.1 _ _ (.of (w'.sub _ _ hG))) (ser_list fun more G2 H2 D2 l w2 => ⟨.of (w2.sub _ _ (l.lst hG)), ts.mono l more⟩)⟩
  | tup zs =>
    cases e2
    refine (pi_strong (pi_tup (tg := tg) h)).run pins s σ H R I ⟨as, G, ρ, D, _, _, w, r, e1, fun v G' H' st w' t => ?_⟩
    cases t with
    | tupR hG ts => exact ⟨_, rfl, ⟨_, .inl (w'.rd hG)⟩, fun sz => f _ G' H' st w' (by rw [← ts.len]; exact sz.2 _ _ (.inl (w'.rd hG))) (ser_tup fun more G2 H2 D2 l w2 => ⟨.inl (w2.rd (l.rd _ _ hG)), ts.mono l more⟩)⟩
  | str z =>
    have e2' : (if z.length ≤ LIM then some (chars z) else none) = some _ := e2
    split at e2'
    · rename_i hl
      cases e2'
      refine (pi_str (tg := tg) h).run pins s σ H R I ⟨as, G, ρ, D, _, _, w, r, e1, fun v G' H' st w' t => ?_⟩
      cases t
      exact ⟨z, rfl, f _ G' H' st w' (by simp only [chars, List.length_map, Array.length_toList]; exact line_lim hl) ser_str⟩
    · cases e2'
  | _ => cases e2⟩
/-- over what a slot holds by itself -/
theorem j_over {c : CE} (h : PO_ Φ X e c) : PJ_ Φ X tg e (.over c) := ⟨fun pins s σ H R I ⟨as, G, ρ, D, xs, D', w, r, ee, f⟩ => by
  obtain ⟨⟨x, D1⟩, e1, ee⟩ := Option.bind_eq_some_iff.mp ee
  obtain ⟨ys, e2, ee⟩ := Option.map_eq_some_iff.mp ee
  cases ee
  cases x with
  | lst zs =>
    cases e2
    refine (pi_strong (pi_list (tg := tg) h)).run pins s σ H R I ⟨as, G, ρ, D, _, _, w, r, e1, fun v G' H' st w' t => ?_⟩
    rcases t with t | ⟨a, rfl, hG, ha, vs, hH, ts⟩
    · cases t with
      | lst hG ts => exact ⟨_, rfl, ⟨_, .of (w'.sub _ _ hG)⟩, fun sz => f _ G' H' st w' (by rw [← ts.len]; exact sz.1 _ _ (.of (w'.sub _ _ hG))) (ser_list fun more G2 H2 D2 l w2 => ⟨.of (w2.sub _ _ (l.le.lst hG)), ts.mono l.le more⟩)⟩
    · exact ⟨_, rfl, ⟨_, .of hH⟩, fun sz => f _ G' H' st w' (by rw [← ts.len]; exact sz.1 _ _ (.of hH)) (ser_list fun more G2 H2 D2 l w2 => ⟨.of (l.kp _ _ ha hH), ts.mono l.le more⟩)⟩
  | tup zs =>
    cases e2
    refine (pi_strong (pi_tup (tg := tg) h)).run pins s σ H R I ⟨as, G, ρ, D, _, _, w, r, e1, fun v G' H' st w' t => ?_⟩
    rcases t with t | ⟨a, rfl, hG, ha, o⟩
    · cases t with
      | tupR hG ts => exact ⟨_, rfl, ⟨_, .inl (w'.rd hG)⟩, fun sz => f _ G' H' st w' (by rw [← ts.len]; exact sz.2 _ _ (.inl (w'.rd hG))) (ser_tup fun more G2 H2 D2 l w2 => ⟨.inl (w2.rd (l.le.rd _ _ hG)), ts.mono l.le more⟩)⟩
    · exact absurd o id
  | str z =>
    have e2' : (if z.length ≤ LIM then some (chars z) else none) = some _ := e2
    split at e2'
    · rename_i hl
      cases e2'
      refine (pi_str (tg := tg) h).run pins s σ H R I ⟨as, G, ρ, D, _, _, w, r, e1, fun v G' H' st w' t => ?_⟩
      have := t.r.str
      subst this
      exact ⟨z, rfl, f _ G' H' st w' (by simp only [chars, List.length_map, Array.length_toList]; exact line_lim hl) ser_str⟩
    · cases e2'
  | _ => cases e2⟩
section
variable {j : Nat} {ca cb cc : CE} {c : Expr}
theorem i_rng1 (g : Gd T Φ N sc X) (hg : sc.names.lookup ("range" : Str) = some .globalImplicit) (hm : T.fr[j]? = some ("range" : Str)) (ha : PV_ Φ X a ca) (hs : starEach [a] X.env = [(false, eval a X.env)] := by rfl) : PI_ Φ X tg (.Call (.Name "range" p) [a] [] pos) (.rng1 ca) := by
  have hA : PA_ Φ X [a] (.cons ca .nil) := a_cons ha a_nil hs
  refine pi_imp (pi_range1 (gl_of g hg) (g.fr j _ hm) hA hs) fun σ H R ⟨as, G, ρ, D, xs, D', w, r, ee, f⟩ => ?_
  obtain ⟨⟨x, D1⟩, e1, ee⟩ := Option.bind_eq_some_iff.mp ee
  obtain ⟨n, e2, ee⟩ := Option.bind_eq_some_iff.mp ee
  have ex : x = .int n := by
    cases x <;> first | (cases e2; rfl) | cases e2
  subst ex
  split at ee
  · rename_i hr
    cases ee
    refine ⟨as, G, ρ, D, [.int n], D1, w, r, by simp only [evs, e1, Option.bind_some, Option.map_some], fun vs G' H' st w' t => ?_⟩
    cases t with
    | cons t1 t2 =>
      cases t1
      cases t2
      have h' := of_decide_eq_true hr
      have : ((LIM : Nat) : Int) = 1000000 := rfl
      exact ⟨n, rfl, by omega, by omega, f _ G' H' st w' (rng_size hr) (ser_rng (by simp))⟩
  · cases ee
theorem i_rng2 (g : Gd T Φ N sc X) (hg : sc.names.lookup ("range" : Str) = some .globalImplicit) (hm : T.fr[j]? = some ("range" : Str)) (ha : PV_ Φ X a ca) (hb : PV_ Φ X b cb) (hs : starEach [a, b] X.env = [(false, eval a X.env), (false, eval b X.env)] := by rfl) (hs2 : starEach [b] X.env = [(false, eval b X.env)] := by rfl) :
    PI_ Φ X tg (.Call (.Name "range" p) [a, b] [] pos) (.rng2 ca cb) := by
  have hA : PA_ Φ X [a, b] (.cons ca (.cons cb .nil)) := a_cons ha (a_cons hb a_nil hs2) (by rw [hs, hs2])
  refine pi_imp (pi_range2 (gl_of g hg) (g.fr j _ hm) hA hs hs2) fun σ H R ⟨as, G, ρ, D, xs, D', w, r, ee, f⟩ => ?_
  obtain ⟨⟨x, D1⟩, e1, ee⟩ := Option.bind_eq_some_iff.mp ee
  obtain ⟨⟨y, D2⟩, e3, ee⟩ := Option.bind_eq_some_iff.mp ee
  obtain ⟨m, e2, ee⟩ := Option.bind_eq_some_iff.mp ee
  obtain ⟨n, e4, e9⟩ := Option.bind_eq_some_iff.mp ee
  have ex : x = .int m := by
    cases x <;> first | (cases e2; rfl) | cases e2
  subst ex
  have ey : y = .int n := by
    cases y <;> first | (cases e4; rfl) | cases e4
  subst ey
  split at e9
  · rename_i hr
    cases e9
    refine ⟨as, G, ρ, D, [.int m, .int n], D2, w, r, by simp only [evs, e1, e3, Option.bind_some, Option.map_some], fun vs G' H' st w' t => ?_⟩
    cases t with
    | cons t1 t2 =>
      cases t2 with
      | cons t2 t3 =>
        cases t1
        cases t2
        cases t3
        have h' := of_decide_eq_true hr
        have : ((LIM : Nat) : Int) = 1000000 := rfl
        exact ⟨m, n, rfl, by omega, f _ G' H' st w' (rng_size hr) (ser_rng rfl)⟩
  · cases e9
end
/-! ### targets -/
mutual
def Pat.slots : Pat → List Nat
  | .nm i => [i]
  | .tp ps => slotsL ps
def slotsL : List Pat → List Nat
  | [] => []
  | p :: ps => p.slots ++ slotsL ps
end
/-- nothing but these slots is changed -/
def Same (σ σ' : L2.St) (vs : List Nat) : Prop := σ'.length = σ.length ∧ ∀ i, i ∉ vs → σ'[i]? = σ[i]?
theorem Same.refl (σ : L2.St) (vs : List Nat) : Same σ σ vs := ⟨rfl, fun _ _ => rfl⟩
theorem Same.trans {σ σ1 σ2 : L2.St} {vs ws : List Nat} (a : Same σ σ1 vs) (b : Same σ1 σ2 ws) : Same σ σ2 (vs ++ ws) := ⟨b.1.trans a.1, fun i hi => by
  rw [List.mem_append, not_or] at hi
  exact (b.2 i hi.2).trans (a.2 i hi.1)⟩
theorem Same.set (σ : L2.St) (i : Nat) (v : Option V) : Same σ (σ.set i v) [i] := ⟨List.length_set, fun j hj => by
  have : i ≠ j := fun e => hj (by simp [e])
  exact List.getElem?_set_ne this⟩
theorem wipe_in : ∀ {vs : List Nat} {σ : L2.St} {i : Nat}, i ∈ vs → i < σ.length → (wipe σ vs)[i]? = some none
  | v :: vs, σ, i, h, hl => by
    unfold wipe
    by_cases e : v = i
    · subst e
      rw [List.getElem?_set_self (by rw [wipe_length]; exact hl)]
    · rw [List.getElem?_set_ne e]
      rcases List.mem_cons.mp h with h | h
      · exact absurd h.symm e
      · exact wipe_in h hl
theorem Same.wipe {σ σ' : L2.St} {vs ws : List Nat} (h : Same σ σ' vs) (hs : ∀ i ∈ vs, i ∈ ws) : wipe σ' ws = wipe σ ws := by
  apply List.ext_getElem?
  intro i
  by_cases hi : i ∈ ws
  · by_cases hl : i < σ.length
    · rw [wipe_in hi hl, wipe_in hi (by rw [h.1]; exact hl)]
    · rw [List.getElem?_eq_none (by rw [wipe_length, h.1]; omega), List.getElem?_eq_none (by rw [wipe_length]; omega)]
  · rw [wipe_out hi, wipe_out hi]
    exact h.2 i fun m => hi (hs i m)
def tP (K : PySem.W.Frag) (p : Pat) : TG := fun v σ H R => ∃ as G D ρ x ρ', Wd as K G H D ∧ Rp as K G H σ ρ ∧ Tr as K G v x ∧ bindP p x ρ = some ρ' ∧ ∀ σ', Rp as K G H σ' ρ' → Same σ σ' p.slots → R σ' H
def tPs (K : PySem.W.Frag) (ps : List Pat) : TGs := fun vs σ H R => ∃ as G D ρ xs ρ', Wd as K G H D ∧ Rp as K G H σ ρ ∧ TrS as K G vs xs ∧ bindPs ps xs ρ = some ρ' ∧ ∀ σ', Rp as K G H σ' ρ' → Same σ σ' (slotsL ps) → R σ' H
theorem Rp.put {as : List Addr} {K : PySem.W.Frag} {G H : Hp} {σ : L2.St} {ρ : Envi} (r : Rp as K G H σ ρ) (i : Nat) {v : V} {x : PV} (t : Tr as K G v x) : Rp as K G H (σ.set i (some v)) (ρ.set i (some (false, x))) where
  len := by rw [List.length_set, List.length_set]; exact r.len
  frz := fun j y h => by
    by_cases e : i = j
    · subst e
      have hl : i < ρ.length := by
        have := (List.getElem?_eq_some_iff.mp h).1
        rwa [List.length_set] at this
      rw [List.getElem?_set_self hl] at h
      cases h
      exact ⟨v, List.getElem?_set_self (by rw [r.len]; exact hl), t⟩
    · rw [List.getElem?_set_ne e] at h ⊢
      exact r.frz j y h
  own := fun j y h => by
    by_cases e : i = j
    · subst e
      have hl : i < ρ.length := by
        have := (List.getElem?_eq_some_iff.mp h).1
        rwa [List.length_set] at this
      rw [List.getElem?_set_self hl] at h
      cases h
    · rw [List.getElem?_set_ne e] at h ⊢
      exact r.own j y h
  dis := fun j k x' y a h1 h2 h3 h4 => by
    have ne : ∀ {j y}, (ρ.set i (some (false, x)))[j]? = some (some (true, y)) → i ≠ j := fun {j y} h e => by
      subst e
      have hl : i < ρ.length := by
        have := (List.getElem?_eq_some_iff.mp h).1
        rwa [List.length_set] at this
      rw [List.getElem?_set_self hl] at h
      cases h
    have n1 := ne h1
    have n2 := ne h2
    rw [List.getElem?_set_ne n1] at h1 h3
    rw [List.getElem?_set_ne n2] at h2 h4
    exact r.dis j k x' y a h1 h2 h3 h4
abbrev PP_ (X : Cx) (e : Expr) (p : Pat) : Prop := PG X e (tP X.K p)
abbrev PPs_ (X : Cx) (e : List Expr) (p : List Pat) : Prop := PGs X e (tPs X.K p)
theorem pg_imp {X : Cx} {e : Expr} {t u : TG} (h : PG X e t) (i : ∀ v σ H R, u v σ H R → t v σ H R) : PG X e u := ⟨fun pins s σ H v w R I r q => h.run pins s σ H v w R I r (i _ _ _ _ q)⟩
theorem pgs_imp {X : Cx} {e : List Expr} {t u : TGs} (h : PGs X e t) (i : ∀ v σ H R, u v σ H R → t v σ H R) : PGs X e u := ⟨fun pins s σ H v w R I r q => h.run pins s σ H v w R I r (i _ _ _ _ q)⟩
theorem p_nm {i : Nat} {x : Str} (g : Gd T Φ N sc X) (hi : N[i]? = some x) (hx : Loc sc x) (hf : X.fn x = true ∨ sc.names.lookup x = some .local := by first | exact .inl rfl | exact .inr rfl | assumption) : PP_ X (.Name x pos) (.nm i) :=
  pg_imp (pg_name (i := i) (by rw [g.n]; exact g.nd) (by rw [g.n]; exact hi) (by rw [g.sc]; exact hx) (by rw [g.sc]; exact hf)) fun v σ H R ⟨as, G, D, ρ, x', ρ', w, r, t, b, f⟩ => by
    have b' : some (ρ.set i (some (false, x'))) = some ρ' := b
    cases b'
    exact f _ (r.put i t) (Same.set σ i _)
theorem ps_nil' : PPs_ X [] [] := pgs_imp pgs_nil fun v σ H R ⟨as, G, D, ρ, xs, ρ', w, r, t, b, f⟩ => by
  cases t with
  | nil =>
    have b' : some ρ = some ρ' := b
    cases b'
    exact ⟨rfl, f σ r (Same.refl _ _)⟩
  | cons _ _ => cases b
theorem ps_cons' {es : List Expr} {pt : Pat} {ps : List Pat} (h1 : PP_ X e pt) (h2 : PPs_ X es ps) (hs : (assignEach (e :: es) X.env).map (·.2) = assign e X.env :: (assignEach es X.env).map (·.2) := by rfl) : PPs_ X (e :: es) (pt :: ps) :=
  pgs_imp (pgs_cons h1 h2 hs) fun v σ H R ⟨as, G, D, ρ, xs, ρ', w, r, t, b, f⟩ => by
    cases t with
    | nil => cases b
    | cons t ts =>
      obtain ⟨ρ1, b1, b2⟩ := Option.bind_eq_some_iff.mp b
      exact ⟨_, _, rfl, as, G, D, ρ, _, ρ1, w, r, t, b1, fun σ1 r1 s1 => ⟨as, G, D, ρ1, _, ρ', w, r1, ts, b2, fun σ2 r2 s2 => f σ2 r2 (s1.trans s2)⟩⟩
theorem bindPs_len : ∀ {ps : List Pat} {xs : List PV} {ρ ρ' : Envi}, bindPs ps xs ρ = some ρ' → xs.length = ps.length
  | [], [], _, _, _ => rfl
  | [], _ :: _, _, _, h => by cases h
  | _ :: _, [], _, _, h => by cases h
  | p :: ps, x :: xs, ρ, ρ', h => by
    obtain ⟨ρ1, _, b2⟩ := Option.bind_eq_some_iff.mp h
    rw [List.length_cons, List.length_cons, bindPs_len b2]
theorem p_tp {es : List Expr} {k : Nat} {ps : List Pat} (g : Gd T Φ N sc X) (h : PPs_ X es ps) (hn : (assignEach es X.env).length = ps.length := by rfl) (hst : (assignEach es X.env).findIdx? (·.1) = none := by rfl) : PP_ X (.Tuple es k pos) (.tp ps) :=
  pg_imp (pg_tup (n := ps.length) g.calm h hn hst) fun v σ H R ⟨as, G, D, ρ, x, ρ', w, r, t, b, f⟩ => by
    cases x with
    | tup xs =>
      cases t with
      | tupR hG ts =>
        have b' : bindPs ps xs ρ = some ρ' := b
        exact ⟨_, _, rfl, .inl (w.rd hG), by rw [ts.len]; exact bindPs_len b', as, G, D, ρ, xs, ρ', w, r, ts, b', f⟩
    | _ => cases b
end
end MP

/-! MP lc: list comprehensions. -/
namespace MP
open PySem PySem.Spec PyProof.Rows L2

/-! ### slots forgotten -/
theorem wipE_len (ρ : Envi) : ∀ vs : List Nat, (wipE ρ vs).length = ρ.length
  | [] => rfl
  | v :: vs => by unfold wipE; rw [List.length_set, wipE_len ρ vs]
theorem wipE_some {ρ : Envi} {i : Nat} {x : Bool × PV} : ∀ {vs : List Nat}, (wipE ρ vs)[i]? = some (some x) → ρ[i]? = some (some x) ∧ i ∉ vs
  | [], h => ⟨h, by simp⟩
  | v :: vs, h => by
    unfold wipE at h
    by_cases hi : v = i
    · subst hi
      by_cases hv : v < (wipE ρ vs).length
      · rw [List.getElem?_set_self hv] at h; cases h
      · rw [List.getElem?_eq_none (by simpa using hv)] at h; cases h
    · rw [List.getElem?_set_ne hi] at h
      obtain ⟨h1, h2⟩ := wipE_some h
      exact ⟨h1, by simp only [List.mem_cons, not_or]; exact ⟨fun e => hi e.symm, h2⟩⟩
/-- no slot holds p by itself -/
def Av (p : Addr) (σ : L2.St) (ρ : Envi) : Prop := ∀ (i : Nat) (x : PV), ρ[i]? = some (some (true, x)) → σ[i]? ≠ some (some (.ref p))
section
variable {as : List Addr} {K : PySem.W.Frag} {G H G' H' : Hp} {σ : L2.St} {ρ : Envi} {p : Addr} {D : DS}
theorem Rp.wipe (r : Rp as K G H σ ρ) (vs : List Nat) : Rp as K G H (wipe σ vs) (wipE ρ vs) where
  len := by rw [wipe_length, wipE_len]; exact r.len
  frz := fun i x h => by
    obtain ⟨h1, h2⟩ := wipE_some h
    rw [wipe_out h2]
    exact r.frz i x h1
  own := fun i x h => by
    obtain ⟨h1, h2⟩ := wipE_some h
    rw [wipe_out h2]
    exact r.own i x h1
  dis := fun i j x y a h1 h2 h3 h4 => by
    obtain ⟨h1, n1⟩ := wipE_some h1
    obtain ⟨h2, n2⟩ := wipE_some h2
    rw [wipe_out n1] at h3
    rw [wipe_out n2] at h4
    exact r.dis i j x y a h1 h2 h3 h4
theorem Av.wipe (av : Av p σ ρ) (vs : List Nat) : Av p (wipe σ vs) (wipE ρ vs) := fun i x h => by
  obtain ⟨h1, h2⟩ := wipE_some h
  rw [wipe_out h2]
  exact av i x h1
theorem Rp.av (r : Rp as K G H σ ρ) (hp : H p = none) : Av p σ ρ := fun i x h e => by
  obtain ⟨a, e1, _, _, o⟩ := r.own i x h
  rw [e] at e1
  cases e1
  exact o.some hp
mutual
theorem bindP_own : ∀ {pt : Pat} {x : PV} {ρ ρ' : Envi} {i : Nat} {y : PV}, bindP pt x ρ = some ρ' → ρ'[i]? = some (some (true, y)) → i ∉ pt.slots ∧ ρ[i]? = some (some (true, y))
  | .nm k, x, ρ, ρ', i, y, h, e => by
    have h' : some (ρ.set k (some (false, x))) = some ρ' := h
    cases h'
    by_cases hk : k = i
    · subst hk
      have hl : k < ρ.length := by
        have := (List.getElem?_eq_some_iff.mp e).1
        rwa [List.length_set] at this
      rw [List.getElem?_set_self hl] at e
      cases e
    · rw [List.getElem?_set_ne hk] at e
      exact ⟨by show i ∉ [k]; simp; exact fun z => hk z.symm, e⟩
  | .tp ps, .tup xs, ρ, ρ', i, y, h, e => bindPs_own (ps := ps) (xs := xs) h e
  | .tp _, .non, _, _, _, _, h, _ => by cases h
  | .tp _, .bl _, _, _, _, _, h, _ => by cases h
  | .tp _, .int _, _, _, _, _, h, _ => by cases h
  | .tp _, .str _, _, _, _, _, h, _ => by cases h
  | .tp _, .lst _, _, _, _, _, h, _ => by cases h
  | .tp _, .dct _ _, _, _, _, _, h, _ => by cases h
  | .tp _, .shr _, _, _, _, _, h, _ => by cases h
  | .tp _, .scr _, _, _, _, _, h, _ => by cases h
  | .tp _, .lck _, _, _, _, _, h, _ => by cases h
theorem bindPs_own : ∀ {ps : List Pat} {xs : List PV} {ρ ρ' : Envi} {i : Nat} {y : PV}, bindPs ps xs ρ = some ρ' → ρ'[i]? = some (some (true, y)) → i ∉ slotsL ps ∧ ρ[i]? = some (some (true, y))
  | [], [], ρ, ρ', i, y, h, e => by
    have h' : some ρ = some ρ' := h
    cases h'
    exact ⟨by show i ∉ []; simp, e⟩
  | [], _ :: _, _, _, _, _, h, _ => by cases h
  | _ :: _, [], _, _, _, _, h, _ => by cases h
  | p :: ps, x :: xs, ρ, ρ', i, y, h, e => by
    obtain ⟨ρ1, b1, b2⟩ := Option.bind_eq_some_iff.mp h
    obtain ⟨n2, e2⟩ := bindPs_own b2 e
    obtain ⟨n1, e1⟩ := bindP_own b1 e2
    exact ⟨by show i ∉ p.slots ++ slotsL ps; rw [List.mem_append, not_or]; exact ⟨n1, n2⟩, e1⟩
end
theorem Av.bind {σ' : L2.St} {ρ' : Envi} {pt : Pat} {x : PV} (av : Av p σ ρ) (b : bindP pt x ρ = some ρ') (s : Same σ σ' pt.slots) : Av p σ' ρ' := fun i y h e => by
  obtain ⟨n, h2⟩ := bindP_own b h
  rw [s.2 i n] at e
  exact av i y h2 e
theorem Stp.wk (st : Stp as G H G' H') : Stp (p :: as) G H G' H' := ⟨st.le, st.nw, fun b o hb h => st.kp b o (fun m => hb (List.mem_cons_of_mem _ m)) h, st.sm⟩
theorem Rp.upp (r : Rp as K G H σ ρ) (av : Av p σ ρ) (st : Stp (p :: as) G H G' H') : Rp as K G' H' σ ρ where
  len := r.len
  frz := fun i x h => by
    obtain ⟨v, e, t⟩ := r.frz i x h
    exact ⟨v, e, t.up st.le⟩
  own := fun i x h => by
    obtain ⟨a, e, g, n, o⟩ := r.own i x h
    have hs := o.some
    have np : a ≠ p := fun z => av i x h (by rw [← z]; exact e)
    refine ⟨a, e, ?_, n, ?_⟩
    · cases q : G' a with
      | none => rfl
      | some u =>
        rcases st.nw a (by rw [q]; exact fun z => nomatch z) with z | z
        · exact absurd g z
        · exact absurd z hs
    · cases q : H a with
      | none => exact absurd q hs
      | some u =>
        have := o.up (G' := G') (H' := H') st.le ((st.kp a u (by simp only [List.mem_cons, not_or]; exact ⟨np, n⟩) q).trans q.symm) []
        simpa using this
  dis := r.dis
theorem Wd.mut {o : HO} (w : Wd as K G H D) (hG : G p = none) (ha : p ∉ as) : Wd as K G (upd H p o) D where
  sub := fun b u h => by rw [upd_ne (ne_of_none h hG)]; exact w.sub b u h
  nd := w.nd
  len := w.len
  off := w.off
  sh := fun j a x h1 h2 => by
    have hne : a ≠ p := fun e => ha (by rw [← e]; exact List.mem_of_getElem? h1)
    have := (w.sh j a x h1 h2).up (G' := G) (H' := upd H p o) (Le.refl G) (upd_ne hne) []
    simpa using this
theorem Stp.mut {o : HO} (st : Stp as G H G' H') (hp : H p = none) : Stp as G H G' (upd H' p o) :=
  ⟨st.le, st.nw, fun b u hb h => by rw [upd_ne (ne_of_none h hp)]; exact st.kp b u hb h, fun b h => by
    by_cases e : b = p
    · rw [e, upd_same]; exact fun z => nomatch z
    · rw [upd_ne e]; exact st.sm b h⟩
theorem Stp.mutp {o : HO} (st : Stp (p :: as) G H G' H') : Stp (p :: as) G H G' (upd H' p o) :=
  ⟨st.le, st.nw, fun b u hb h => by
    have hne : b ≠ p := fun e => hb (by rw [e]; exact List.mem_cons_self)
    rw [upd_ne hne]; exact st.kp b u hb h, fun b h => by
    by_cases e : b = p
    · rw [e, upd_same]; exact fun z => nomatch z
    · rw [upd_ne e]; exact st.sm b h⟩
end
/-- the new list at p holds acc, since G1, H1 (where p was not) -/
structure Acc (as : List Addr) (K : PySem.W.Frag) (G1 H1 : Hp) (p : Addr) (acc : List PV) (D : DS) (G H : Hp) : Prop where
  st : Stp as G1 H1 G H
  w : Wd as K G H D
  ex : ∃ vs, H p = some (.lst vs) ∧ TrS as K G vs acc
  g : G p = none
section
variable {as : List Addr} {K : PySem.W.Frag} {G1 H1 G H G' H' : Hp} {p : Addr} {acc : List PV} {D D' : DS}
theorem Acc.start (w : Wd as K G1 H1 D) (hp : H1 p = none) : Acc as K G1 H1 p [] D G1 (upd H1 p (.lst [])) :=
  ⟨Stp.own hp, w.ownp hp, ⟨[], upd_same, .nil⟩, w.free hp⟩
theorem Acc.step (a : Acc as K G1 H1 p acc D G H) (ha : p ∉ as) (st : Stp as G H G' H') (w' : Wd as K G' H' D') : Acc as K G1 H1 p acc D' G' H' := by
  obtain ⟨vs, h1, t⟩ := a.ex
  refine ⟨a.st.trans st, w', ⟨vs, st.kp _ _ ha h1, t.up st.le⟩, ?_⟩
  cases q : G' p with
  | none => rfl
  | some o =>
    rcases st.nw p (by rw [q]; exact fun z => nomatch z) with z | z
    · exact absurd a.g z
    · rw [h1] at z; cases z
theorem Acc.app (a : Acc as K G1 H1 p acc D G H) (ha : p ∉ as) (hp : H1 p = none) {vs : List V} (hv : H p = some (.lst vs)) {v : V} {y : PV} (t : Tr as K G v y) : Acc as K G1 H1 p (acc ++ [y]) D G (upd H p (.lst (vs ++ [v]))) := by
  obtain ⟨vs', h1, t1⟩ := a.ex
  rw [hv] at h1
  cases h1
  exact ⟨a.st.mut hp, a.w.mut a.g ha, ⟨_, upd_same, t1.app (.cons t .nil)⟩, a.g⟩
end
/-! ### tests of a clause -/
def tTs (K : PySem.W.Frag) (Φ : Fns) (c : CEs) : TT := fun σ H Q => ∃ as G ρ D b D', Wd as K G H D ∧ Rp as K G H σ ρ ∧ evt Φ c ρ D = some (b, D') ∧ ∀ G' H', Stp as G H G' H' → Wd as K G' H' D' → Q b H'
abbrev PTs_ (Φ : Fns) (X : Cx) (e : List Expr) (c : CEs) : Prop := PTs X e (tTs X.K Φ c)
section
variable {T : Tb} {Φ : Fns} {N : List Str} {sc : Scope} {X : Cx} {e a b tg : Expr} {pos p : Pos}
theorem pts_imp {e : List Expr} {t u : TT} (h : PTs X e t) (i : ∀ σ H Q, u σ H Q → t σ H Q) : PTs X e u := ⟨fun pins s σ H Q I q => h.run pins s σ H Q I (i _ _ _ q)⟩
theorem ts_nil : PTs_ Φ X [] .nil := pts_imp pts_nil fun σ H Q ⟨as, G, ρ, D, y, D', w, r, ee, f⟩ => by
  have ee' : some (true, D) = some (y, D') := ee
  cases ee'
  exact f G H (Stp.refl _ _ _) w
theorem ts_one {c : CE} (h : PT_ Φ X e c) : PTs_ Φ X [e] (.cons c .nil) := pts_imp (pts_one h) fun σ H Q ⟨as, G, ρ, D, y, D', w, r, ee, f⟩ => by
  obtain ⟨⟨x, D1⟩, e1, ee⟩ := Option.bind_eq_some_iff.mp (show (ev Φ c ρ D).bind (fun r => (blOf r.1).map fun z => (z, r.2)) = some (y, D') from ee)
  obtain ⟨z, e2, ee⟩ := Option.map_eq_some_iff.mp ee
  cases ee
  have ex : x = .bl y := by
    cases x <;> first | (cases e2; rfl) | cases e2
  subst ex
  exact ⟨as, G, ρ, D, y, _, w, r, e1, fun G' H' st w' => f G' H' st w'⟩
theorem drop_cons {α : Type} {xs : List α} {i : Nat} (h : i < xs.length) : xs.drop i = xs[i] :: xs.drop (i + 1) := List.drop_eq_getElem_cons h
theorem lcF_len {f : PV → DS → Option (List PV × DS)} (hf : ∀ x D r, f x D = some r → r.1.length ≤ 1) : ∀ {xs : List PV} {D : DS} {ys : List PV} {D' : DS}, lcF f xs D = some (ys, D') → ys.length ≤ xs.length
  | [], D, ys, D', h => by
    have h' : some (([] : List PV), D) = some (ys, D') := h
    cases h'
    exact Nat.le_refl _
  | x :: xs, D, ys, D', h => by
    obtain ⟨⟨l, D1⟩, h1, h2⟩ := Option.bind_eq_some_iff.mp (show (f x D).bind (fun r => (lcF f xs r.2).bind fun q => some (r.1 ++ q.1, q.2)) = some (ys, D') from h)
    obtain ⟨⟨q, D2⟩, h3, h4⟩ := Option.bind_eq_some_iff.mp h2
    cases h4
    have q1 : l.length ≤ 1 := hf _ _ _ h1
    have q2 : q.length ≤ xs.length := lcF_len hf h3
    show (l ++ q).length ≤ _
    rw [List.length_append, List.length_cons]
    omega
/-- what a turn of a one-clause comprehension gives -/
def stp1 (Φ : Fns) (own : List Nat) (ce : CE) (pt : Pat) (ct : CEs) (ρ : Envi) : PV → DS → Option (List PV × DS) := fun x D1 =>
  (bindP pt x (wipE ρ own)).bind fun ρ1 => (evt Φ ct ρ1 D1).bind fun c => if c.1 then (ev Φ ce ρ1 c.2).map fun y => ([y.1], y.2) else some ([], c.2)
theorem stp1_len {own : List Nat} {ce : CE} {pt : Pat} {ct : CEs} {ρ : Envi} : ∀ x D r, stp1 Φ own ce pt ct ρ x D = some r → r.1.length ≤ 1 := fun x D r h => by
  obtain ⟨ρ1, _, h⟩ := Option.bind_eq_some_iff.mp h
  obtain ⟨⟨c, D1⟩, _, h⟩ := Option.bind_eq_some_iff.mp h
  cases c with
  | true =>
    obtain ⟨⟨y, D2⟩, _, h⟩ := Option.map_eq_some_iff.mp (show (ev Φ ce ρ1 D1).map (fun y => ([y.1], y.2)) = some r from h)
    subst h
    exact Nat.le_refl _
  | false =>
    have h' : some (([] : List PV), D1) = some r := h
    cases h'
    exact Nat.zero_le _
theorem wipe_wipe (σ : L2.St) (vs : List Nat) : wipe (wipe σ vs) vs = wipe σ vs := by
  apply List.ext_getElem?
  intro i
  by_cases hi : i ∈ vs
  · by_cases hl : i < σ.length
    · rw [wipe_in hi hl, wipe_in hi (by rw [wipe_length]; exact hl)]
    · rw [List.getElem?_eq_none (by rw [wipe_length, wipe_length]; omega), List.getElem?_eq_none (by rw [wipe_length]; omega)]
  · rw [wipe_out hi, wipe_out hi]
section
variable {elt iter : Expr} {ifs : List Expr} {scope : Scope} {own : List (Str × Nat)} {ce : CE} {pt : Pat} {ci : CI} {ct : CEs}
/-- one turn: the target stored, the tests, the item -/
theorem turn_1 {as : List Addr} {K : PySem.W.Frag} {G1 H1 G3 H3 : Hp} {Dl : Addr} {acc : List PV} {Di D3 : DS} {σ : L2.St} {ρ : Envi} {x : PV} {v : V} {l rest : List PV} {Nx : Hp → Prop} {own : List Nat} (hD : H1 Dl = none) (hna : Dl ∉ as)
    (hs : stp1 Φ own ce pt ct ρ x Di = some (l, D3)) (A : Acc as K G1 H1 Dl acc Di G3 H3) (r : Rp as K G3 H3 (wipe σ own) (wipE ρ own)) (t : Tr as K G3 v x) (hsl : ∀ i ∈ pt.slots, i ∈ own) (hl : (acc ++ l ++ rest).length ≤ sizeLine)
    (nx : ∀ G H, Stp (Dl :: as) G3 H3 G H → Acc as K G1 H1 Dl (acc ++ l) D3 G H → Nx H) :
    tP K pt v (wipe σ own) H3 fun σ2 H4 => wipe σ2 own = wipe σ own ∧ tTs K Φ ct σ2 H4 fun b H5 => if b = true then tE K Φ ce σ2 H5 fun y H6 => ∃ acc, H6 Dl = some (.lst acc) ∧ acc.length < sizeLine ∧ Nx (upd H6 Dl (.lst (acc ++ [y]))) else Nx H5 := by
  obtain ⟨ρ1, b1, hs⟩ := Option.bind_eq_some_iff.mp hs
  obtain ⟨⟨cb, D5⟩, b2, hs⟩ := Option.bind_eq_some_iff.mp hs
  refine ⟨as, G3, Di, wipE ρ own, x, ρ1, A.w, r, t, b1, fun σ2 r2 s2 => ⟨by rw [s2.wipe hsl, wipe_wipe], as, G3, ρ1, Di, cb, D5, A.w, r2, b2, fun G4 H4 st4 w4 => ?_⟩⟩
  have A4 := A.step hna st4 w4
  cases cb with
  | true =>
    obtain ⟨⟨y, D6⟩, b4, b5⟩ := Option.map_eq_some_iff.mp (show (ev Φ ce ρ1 D5).map (fun y => ([y.1], y.2)) = some (l, D3) from hs)
    cases b5
    show if true = true then _ else _
    rw [if_pos rfl]
    refine ⟨as, G4, ρ1, D5, y, D6, w4, r2.up st4, b4, fun yv G5 H5 st5 w5 t5 => ?_⟩
    have A5 := A4.step hna st5 w5
    obtain ⟨vs, h1, t1⟩ := A5.ex
    refine ⟨vs, h1, ?_, nx G5 _ (((st4.trans st5).wk).mutp) (A5.app hna hD h1 t5)⟩
    rw [List.length_append, List.length_append, List.length_singleton] at hl
    rw [t1.len]
    omega
  | false =>
    have hs' : some (([] : List PV), D5) = some (l, D3) := hs
    cases hs'
    show if false = true then _ else _
    rw [if_neg Bool.false_ne_true]
    rw [List.append_nil] at nx
    exact nx G4 H4 st4.wk A4
theorem lc1_imp {σ : L2.St} {H : Hp} {Q : VK} (hsl : ∀ i ∈ pt.slots, i ∈ own.map (·.2)) (h : tF X.K Φ (.lc1 (own.map (·.2)) ce pt ci ct) σ H Q) :
    tLc (tJ X.K Φ ci) (tP X.K pt) (tTs X.K Φ ct) (tE X.K Φ ce) (own.map (·.2)) σ H Q := by
  obtain ⟨as, G, ρ, D, x, D', w, r, ee, f⟩ := h
  obtain ⟨⟨xs, D1⟩, e1, ee⟩ := Option.bind_eq_some_iff.mp ee
  obtain ⟨⟨ys, D2⟩, e2, e3⟩ := Option.map_eq_some_iff.mp ee
  cases e3
  have e2 : lcF (stp1 Φ (own.map (·.2)) ce pt ct ρ) xs D1 = some (ys, D2) := e2
  refine ⟨as, G, ρ, D, xs, D1, w, r, e1, fun J G1 H1 st1 w1 hz ser Dl hDl => ?_⟩
  have hna : Dl ∉ as := w1.offp hDl
  have hys : ys.length ≤ sizeLine := Nat.le_trans (lcF_len stp1_len e2) hz
  refine ⟨fun i m H2 => m = xs.length - i ∧ i ≤ xs.length ∧ ∃ G2 Di acc rest, Acc as X.K G1 H1 Dl acc Di G2 H2 ∧ lcF (stp1 Φ (own.map (·.2)) ce pt ct ρ) (xs.drop i) Di = some (rest, D2) ∧ ys = acc ++ rest,
    ⟨xs.length, by simp, Nat.zero_le _, G1, D1, [], ys, Acc.start w1 hDl, by rw [List.drop_zero]; exact e2, rfl⟩, ?_⟩
  rintro i m H2 ⟨rfl, hi, G2, Di, acc, rest, A, hl, hy⟩
  obtain ⟨go, stop, yld⟩ := ser [] G2 H2 Di A.st (by rw [List.append_nil]; exact A.w)
  by_cases hlt : i < xs.length
  · rw [drop_cons hlt] at hl
    obtain ⟨⟨l, D3⟩, h1, h2⟩ := Option.bind_eq_some_iff.mp (show (stp1 Φ (own.map (·.2)) ce pt ct ρ xs[i] Di).bind (fun r => (lcF (stp1 Φ (own.map (·.2)) ce pt ct ρ) (xs.drop (i + 1)) r.2).bind fun q => some (r.1 ++ q.1, q.2)) = some (rest, D2) from hl)
    obtain ⟨⟨q, D4⟩, h3, h4⟩ := Option.bind_eq_some_iff.mp h2
    have e5 : l ++ q = rest := congrArg Prod.fst (Option.some.inj h4)
    have e6 : D4 = D2 := congrArg Prod.snd (Option.some.inj h4)
    subst e5 e6
    refine .inr ⟨go i hlt, fun H' => i + 1 ≤ xs.length ∧ ∃ G2 Di acc rest, Acc as X.K G1 H1 Dl acc Di G2 H' ∧ lcF (stp1 Φ (own.map (·.2)) ce pt ct ρ) (xs.drop (i + 1)) Di = some (rest, D4) ∧ ys = acc ++ rest, fun H' q => ⟨xs.length - (i + 1), by omega, rfl, q.1, q.2⟩, fun v H' hyl => ?_⟩
    obtain ⟨G3, st3, w3, t3⟩ := yld i xs[i] v H' (List.getElem?_eq_getElem hlt) hyl
    rw [List.append_nil] at st3 w3 t3
    have A3 := A.step hna st3 w3
    refine turn_1 (rest := q) hDl hna h1 A3 ((r.up (st1.trans A3.st)).wipe _) t3 hsl (by rw [List.append_assoc, ← hy]; exact hys) fun G H' _ A' => ⟨hlt, G, D3, acc ++ l, q, A', h3, by rw [hy, List.append_assoc]⟩
  · have : i = xs.length := by omega
    subst this
    rw [List.drop_length] at hl
    have hl' : some (([] : List PV), Di) = some (rest, D2) := hl
    cases hl'
    rw [List.append_nil] at hy
    subst hy
    exact .inl ⟨stop _ (Nat.le_refl _), f Dl G2 H2 (st1.trans A.st) A.w (none_back st1 hDl) A.g A.ex⟩
theorem f_lc1 (g : Gd T Φ N sc X) (hb : blkC N sc scope own = true) (hi : PJ_ Φ X tg iter ci) (hsl : ∀ i ∈ pt.slots, i ∈ own.map (·.2))
    (hp : ∀ (s : Shared) (H : Hp) (C : Addr) (cl : List (Str × Addr)) (fp : List Addr), PP_ (X.blk s H scope (compEnvC scope cl C X.env) fp) tg pt)
    (ht : ∀ (s : Shared) (H : Hp) (C : Addr) (cl : List (Str × Addr)) (fp : List Addr), PTs_ Φ (X.blk s H scope (compEnvC scope cl C X.env) fp) ifs ct)
    (he : ∀ (s : Shared) (H : Hp) (C : Addr) (cl : List (Str × Addr)) (fp : List Addr), PV_ Φ (X.blk s H scope (compEnvC scope cl C X.env) fp) elt ce) (hs : ∀ x, foldedSetIterable iter X.env x = pure x := by intro _; rfl) :
    PF_ Φ X (.ListComp elt [⟨tg, iter, ifs, 0⟩] scope pos) (.lc1 (own.map (·.2)) ce pt ci ct) := by
  exact pe_imp (pe_lc (wi := tJ X.K Φ ci) (g := tP X.K pt) (tt := tTs X.K Φ ct) (te := tE X.K Φ ce) g.calm (by rw [g.n]; exact g.nd) hi (by rw [g.n, g.sc]; exact blkOk_by hb) hp ht he hs) fun σ H Q h => lc1_imp hsl h
/-! ### two clauses -/
def stp2 (Φ : Fns) (own own2 : List Nat) (ce : CE) (pt pt2 : Pat) (ct ct2 : CEs) (ci2 : CI) (ρ : Envi) : PV → DS → Option (List PV × DS) := fun x D1 =>
  (bindP pt x (wipE ρ own)).bind fun ρ1 => (evt Φ ct ρ1 D1).bind fun c => if c.1 then (evi Φ ci2 ρ1 c.2).bind fun r2 => lcF (stp1 Φ own2 ce pt2 ct2 ρ1) r2.1 r2.2 else some ([], c.2)
theorem lc2_imp {σ : L2.St} {H : Hp} {Q : VK} {pt2 : Pat} {ci2 : CI} {ct2 : CEs} {own2 : List Nat} (hsl : ∀ i ∈ pt.slots, i ∈ own.map (·.2)) (hsl2 : ∀ i ∈ pt2.slots, i ∈ own2) (h : tF X.K Φ (.lc2 (own.map (·.2)) ce pt ci ct own2 pt2 ci2 ct2) σ H Q) :
    tLc2 (tJ X.K Φ ci) (tP X.K pt) (tTs X.K Φ ct) (tI X.K Φ ci2) (tP X.K pt2) (tTs X.K Φ ct2) (tE X.K Φ ce) (own.map (·.2)) own2 σ H Q := by
  obtain ⟨as, G, ρ, D, x, D', w, r, ee, f⟩ := h
  obtain ⟨⟨xs, D1⟩, e1, ee⟩ := Option.bind_eq_some_iff.mp ee
  obtain ⟨⟨ys, D2⟩, e2, e3⟩ := Option.bind_eq_some_iff.mp ee
  have e2 : lcF (stp2 Φ (own.map (·.2)) own2 ce pt pt2 ct ct2 ci2 ρ) xs D1 = some (ys, D2) := e2
  have e3 : (if ys.length ≤ LIM then some (PV.lst ys, D2) else none) = some (x, D') := e3
  split at e3
  case isFalse => cases e3
  rename_i hlim
  obtain rfl : PV.lst ys = x := congrArg Prod.fst (Option.some.inj e3)
  obtain rfl : D2 = D' := congrArg Prod.snd (Option.some.inj e3)
  have hys : ys.length ≤ sizeLine := line_lim hlim
  refine ⟨as, G, ρ, D, xs, D1, w, r, e1, fun J G1 H1 st1 w1 hz ser Dl hDl => ?_⟩
  have hna : Dl ∉ as := w1.offp hDl
  have r1 := r.up st1
  have av1 : Av Dl σ ρ := r1.av hDl
  refine ⟨fun i m H2 => m = xs.length - i ∧ i ≤ xs.length ∧ ∃ G2 Di acc rest, Acc as X.K G1 H1 Dl acc Di G2 H2 ∧ lcF (stp2 Φ (own.map (·.2)) own2 ce pt pt2 ct ct2 ci2 ρ) (xs.drop i) Di = some (rest, D2) ∧ ys = acc ++ rest,
    ⟨xs.length, by simp, Nat.zero_le _, G1, D1, [], ys, Acc.start w1 hDl, by rw [List.drop_zero]; exact e2, rfl⟩, ?_⟩
  rintro i m H2 ⟨rfl, hi, G2, Di, acc, rest, A, hl, hy⟩
  obtain ⟨go, stop, yld⟩ := ser [] G2 H2 Di A.st (by rw [List.append_nil]; exact A.w)
  by_cases hlt : i < xs.length
  · rw [drop_cons hlt] at hl
    obtain ⟨⟨l, D3⟩, h1, h2⟩ := Option.bind_eq_some_iff.mp (show (stp2 Φ (own.map (·.2)) own2 ce pt pt2 ct ct2 ci2 ρ xs[i] Di).bind (fun r => (lcF (stp2 Φ (own.map (·.2)) own2 ce pt pt2 ct ct2 ci2 ρ) (xs.drop (i + 1)) r.2).bind fun q => some (r.1 ++ q.1, q.2)) = some (rest, D2) from hl)
    obtain ⟨⟨q, D4⟩, h3, h4⟩ := Option.bind_eq_some_iff.mp h2
    have e5 : l ++ q = rest := congrArg Prod.fst (Option.some.inj h4)
    have e6 : D4 = D2 := congrArg Prod.snd (Option.some.inj h4)
    subst e5 e6
    refine .inr ⟨go i hlt, fun H' => i + 1 ≤ xs.length ∧ ∃ G2 Di acc rest, Acc as X.K G1 H1 Dl acc Di G2 H' ∧ lcF (stp2 Φ (own.map (·.2)) own2 ce pt pt2 ct ct2 ci2 ρ) (xs.drop (i + 1)) Di = some (rest, D4) ∧ ys = acc ++ rest, fun H' q => ⟨xs.length - (i + 1), by omega, rfl, q.1, q.2⟩, fun v H' hyl => ?_⟩
    obtain ⟨G3, st3, w3, t3⟩ := yld i xs[i] v H' (List.getElem?_eq_getElem hlt) hyl
    rw [List.append_nil] at st3 w3 t3
    have A3 := A.step hna st3 w3
    obtain ⟨ρ1, b1, hs2⟩ := Option.bind_eq_some_iff.mp h1
    obtain ⟨⟨cb, D5⟩, b2, hs2⟩ := Option.bind_eq_some_iff.mp hs2
    refine ⟨as, G3, Di, wipE ρ (own.map (·.2)), xs[i], ρ1, A3.w, (r.up (st1.trans A3.st)).wipe _, t3, b1, fun σ2 r2 s2 => ⟨by rw [s2.wipe hsl, wipe_wipe], as, G3, ρ1, Di, cb, D5, A3.w, r2, b2, fun G4 H4 st4 w4 => ?_⟩⟩
    have A4 := A3.step hna st4 w4
    have av2 : Av Dl σ2 ρ1 := (av1.wipe _).bind b1 s2
    have r4 := r2.up st4
    cases cb with
    | false =>
      have hs' : some (([] : List PV), D5) = some (l, D3) := hs2
      cases hs'
      show if false = true then _ else _
      rw [if_neg Bool.false_ne_true]
      exact ⟨hlt, G4, _, acc, q, A4, h3, hy⟩
    | true =>
      obtain ⟨⟨zs, D6⟩, b4, b5⟩ := Option.bind_eq_some_iff.mp (show (evi Φ ci2 ρ1 D5).bind (fun r2 => lcF (stp1 Φ own2 ce pt2 ct2 ρ1) r2.1 r2.2) = some (l, D3) from hs2)
      have b5 : lcF (stp1 Φ own2 ce pt2 ct2 ρ1) zs D6 = some (l, D3) := b5
      show if true = true then _ else _
      rw [if_pos rfl]
      refine ⟨as, G4, ρ1, D5, zs, D6, w4, r4, b4, fun J1 G5 H5 st5 w5 hz5 ser5 => ?_⟩
      have A5 := A4.step hna st5 w5
      have r5 := r4.up st5
      refine ⟨fun j k H6 => k = zs.length - j ∧ j ≤ zs.length ∧ ∃ G6 Dj acc1 rest1, Stp (Dl :: as) G5 H5 G6 H6 ∧ Acc as X.K G1 H1 Dl (acc ++ acc1) Dj G6 H6 ∧ lcF (stp1 Φ own2 ce pt2 ct2 ρ1) (zs.drop j) Dj = some (rest1, D3) ∧ l = acc1 ++ rest1,
        ⟨zs.length, by simp, Nat.zero_le _, G5, D6, [], l, Stp.refl _ _ _, by rw [List.append_nil]; exact A5, by rw [List.drop_zero]; exact b5, rfl⟩, ?_⟩
      rintro j k H6 ⟨rfl, hj, G6, Dj, acc1, rest1, st6, A6, hl6, hy6⟩
      obtain ⟨go6, stop6, yld6⟩ := ser5 [] G6 H6 Dj st6.le (by rw [List.append_nil]; exact A6.w)
      by_cases hlt6 : j < zs.length
      · rw [drop_cons hlt6] at hl6
        obtain ⟨⟨l7, D7⟩, h7, h8⟩ := Option.bind_eq_some_iff.mp (show (stp1 Φ own2 ce pt2 ct2 ρ1 zs[j] Dj).bind (fun r => (lcF (stp1 Φ own2 ce pt2 ct2 ρ1) (zs.drop (j + 1)) r.2).bind fun q => some (r.1 ++ q.1, q.2)) = some (rest1, D3) from hl6)
        obtain ⟨⟨q8, D8⟩, h9, h10⟩ := Option.bind_eq_some_iff.mp h8
        have e5 : l7 ++ q8 = rest1 := congrArg Prod.fst (Option.some.inj h10)
        have e6 : D8 = D3 := congrArg Prod.snd (Option.some.inj h10)
        subst e5 e6
        refine .inr ⟨go6 j hlt6, fun H' => j + 1 ≤ zs.length ∧ ∃ G6 Dj acc1 rest1, Stp (Dl :: as) G5 H5 G6 H' ∧ Acc as X.K G1 H1 Dl (acc ++ acc1) Dj G6 H' ∧ lcF (stp1 Φ own2 ce pt2 ct2 ρ1) (zs.drop (j + 1)) Dj = some (rest1, D8) ∧ l = acc1 ++ rest1, fun H' q => ⟨zs.length - (j + 1), by omega, rfl, q.1, q.2⟩, fun v H' hyl => ?_⟩
        obtain ⟨G7, st7, w7, t7⟩ := yld6 j zs[j] v H' (List.getElem?_eq_getElem hlt6) hyl
        rw [List.append_nil] at st7 w7 t7
        have A7 := A6.step hna st7 w7
        refine turn_1 (rest := q8 ++ q) hDl hna h7 A7 ((r5.upp av2 (st6.trans st7.wk)).wipe _) t7 hsl2 ?_ fun G' H' st' A' => ⟨hlt6, G', D7, acc1 ++ l7, q8, (st6.trans st7.wk).trans st', by rw [← List.append_assoc]; exact A', h9, by rw [hy6, List.append_assoc]⟩
        have : acc ++ acc1 ++ l7 ++ (q8 ++ q) = ys := by rw [hy, hy6]; simp only [List.append_assoc]
        rw [this]
        exact hys
      · have : j = zs.length := by omega
        subst this
        rw [List.drop_length] at hl6
        have hl' : some (([] : List PV), Dj) = some (rest1, D3) := hl6
        cases hl'
        rw [List.append_nil] at hy6
        subst hy6
        exact .inl ⟨stop6 _ (Nat.le_refl _), hlt, G6, _, acc ++ l, q, A6, h3, by rw [hy, List.append_assoc]⟩
  · have : i = xs.length := by omega
    subst this
    rw [List.drop_length] at hl
    have hl' : some (([] : List PV), Di) = some (rest, D2) := hl
    cases hl'
    rw [List.append_nil] at hy
    subst hy
    exact .inl ⟨stop _ (Nat.le_refl _), f Dl G2 H2 (st1.trans A.st) A.w (none_back st1 hDl) A.g A.ex⟩
theorem f_lc2 {tg2 iter2 : Expr} {ifs2 : List Expr} {pt2 : Pat} {ci2 : CI} {ct2 : CEs} {own2 : List Nat} (g : Gd T Φ N sc X) (hb : blkC N sc scope own = true) (hi : PJ_ Φ X tg iter ci) (hsl : ∀ i ∈ pt.slots, i ∈ own.map (·.2)) (hsl2 : ∀ i ∈ pt2.slots, i ∈ own2) (ho2 : ∀ i ∈ own2, i ∈ own.map (·.2))
    (hp : ∀ (s : Shared) (H : Hp) (C : Addr) (cl : List (Str × Addr)) (fp : List Addr), PP_ (X.blk s H scope (compEnvC scope cl C X.env) fp) tg pt)
    (ht : ∀ (s : Shared) (H : Hp) (C : Addr) (cl : List (Str × Addr)) (fp : List Addr), PTs_ Φ (X.blk s H scope (compEnvC scope cl C X.env) fp) ifs ct)
    (hi2 : ∀ (s : Shared) (H : Hp) (C : Addr) (cl : List (Str × Addr)) (fp : List Addr), PI_ Φ (X.blk s H scope (compEnvC scope cl C X.env) fp) tg2 iter2 ci2)
    (hp2 : ∀ (s : Shared) (H : Hp) (C : Addr) (cl : List (Str × Addr)) (fp : List Addr), PP_ (X.blk s H scope (compEnvC scope cl C X.env) fp) tg2 pt2)
    (ht2 : ∀ (s : Shared) (H : Hp) (C : Addr) (cl : List (Str × Addr)) (fp : List Addr), PTs_ Φ (X.blk s H scope (compEnvC scope cl C X.env) fp) ifs2 ct2)
    (he : ∀ (s : Shared) (H : Hp) (C : Addr) (cl : List (Str × Addr)) (fp : List Addr), PV_ Φ (X.blk s H scope (compEnvC scope cl C X.env) fp) elt ce) (hs : ∀ x, foldedSetIterable iter X.env x = pure x := by intro _; rfl) (hs1 : ∀ env x, foldedSetIterable iter2 env x = pure x := by intro _ _; rfl) :
    PF_ Φ X (.ListComp elt [⟨tg, iter, ifs, 0⟩, ⟨tg2, iter2, ifs2, 0⟩] scope pos) (.lc2 (own.map (·.2)) ce pt ci ct own2 pt2 ci2 ct2) := by
  exact pe_imp (pe_lc2 (wi := tJ X.K Φ ci) (g := tP X.K pt) (tt := tTs X.K Φ ct) (wi1 := tI X.K Φ ci2) (g1 := tP X.K pt2) (tt1 := tTs X.K Φ ct2) (te := tE X.K Φ ce) (vs1 := own2) g.calm (by rw [g.n]; exact g.nd) hi (by rw [g.n, g.sc]; exact blkOk_by hb) ho2 hp ht hi2 hp2 ht2 he hs hs1) fun σ H Q h => lc2_imp hsl hsl2 h
end
end
end MP

/-! MP zm: zip of a tuple and a list. -/
namespace MP
open PySem PySem.Spec PyProof.Rows L2
theorem spentT {prog : Program} {w : World} {A : Around} (hh : A.handled = none) (it t : Addr) (items : Array Value) (i : Nat) (hx : items[i]? = none) :
    Draws prog w A it [it, t] i (fun _ _ => True) (fun j h => j = i ∧ h.IsTupleIter it t i ∧ h.IsTuple t items) where
  live := fun _ _ st => let ⟨o, ho, _⟩ := st.2.1; ⟨o, ho⟩
  frame := fun _ _ _ st hk => ⟨st.1, st.2.1.at fun o e => hk it (by simp) o e, st.2.2.at fun o e => hk t (by simp) o e⟩
  item := fun j s Q E hi st hQ => absurd st.1 (by omega)
  done := fun s Q E st hE => wpAny_nextOf_tuple_end hh st.2.1 st.2.2 hx hE
theorem spentL {prog : Program} {w : World} {A : Around} (hh : A.handled = none) (it t : Addr) (items : Array Value) (i : Nat) (hx : items[i]? = none) :
    Draws prog w A it [it, t] i (fun _ _ => True) (fun j h => j = i ∧ h.IsListIter it t i ∧ h.IsList t items) where
  live := fun _ _ st => let ⟨o, ho, _⟩ := st.2.1; ⟨o, ho⟩
  frame := fun _ _ _ st hk => ⟨st.1, st.2.1.at fun o e => hk it (by simp) o e, st.2.2.at fun o e => hk t (by simp) o e⟩
  item := fun j s Q E hi st hQ => absurd st.1 (by omega)
  done := fun s Q E st hE => wpAny_nextOf_list_end hh st.2.1 st.2.2 hx hE
/-- the tuple at a and the list at b as they stand at each turn, the items in new pairs -/
def ItzM (K : PySem.W.Frag) (a b : Addr) : It :=
  ⟨fun i H => ∃ (xs ys : List V) (x y : V), SqT K H a xs ∧ SqL K H b ys ∧ xs[i]? = some x ∧ ys[i]? = some y,
    fun i H v H' => ∃ T x y, v = .ref T ∧ H T = none ∧ H' = upd H T (.tup [x, y]) ∧ (∀ xs, SqT K H a xs → xs[i]? = some x) ∧ ∀ ys, SqL K H b ys → ys[i]? = some y,
    fun i H => ∃ xs ys : List V, SqT K H a xs ∧ SqL K H b ys ∧ (xs.length ≤ i ∨ ys.length ≤ i)⟩
theorem turn_zipM {P : Program} {w : World} {K : PySem.W.Frag} {elts : List Expr} {kk : Nat} {tpos : Pos} {a b z TI TO i1 i2 : Addr} (S : ZipSep2 z TI TO i1 i2 [i1, a] [i2, b]) (hna : a ≠ i1) (hnb : b ≠ i2) :
    Turn P w K (.Tuple elts kk tpos) (ItzM K a b) [z, TI, TO, i1, i2] z (fun i h => IsZip h z TI TO .none ∧ IsTupOf2 h TI (.ref i1) (.ref i2) ∧ (∃ x y, IsTupOf2 h TO x y) ∧ h.IsTupleIter i1 a i ∧ h.IsListIter i2 b i) where
  mem := by simp
  obj := fun i h st c hc => by
    obtain ⟨hz, hTI, ⟨x, y, hTO⟩, ⟨o1, e1, _, d1⟩, ⟨o2, e2, _, d2⟩⟩ := st
    have e' : c = z ∨ c = TI ∨ c = TO ∨ c = i1 ∨ c = i2 := by simpa using hc
    rcases e' with q | q | q | q | q
    · rw [q]; exact ⟨_, hz, fun v q => nomatch q⟩
    · rw [q]; exact ⟨_, hTI, fun v q => nomatch q⟩
    · rw [q]; exact ⟨_, hTO, fun v q => nomatch q⟩
    · rw [q]; exact ⟨o1, e1, fun v q => by rw [d1] at q; cases q⟩
    · rw [q]; exact ⟨o2, e2, fun v q => by rw [d2] at q; cases q⟩
  keep := fun i h h' st k => by
    obtain ⟨hz, hTI, ⟨x, y, hTO⟩, h1, h2⟩ := st
    exact ⟨k z (by simp) _ hz, k TI (by simp) _ hTI, ⟨x, y, k TO (by simp) _ hTO⟩, h1.at fun o q => k i1 (by simp) o q, h2.at fun o q => k i2 (by simp) o q⟩
  item := by
    intro X hP hw hK hc i pins s σ H E I hf st hg
    subst hP hw hK
    obtain ⟨hz, hTI, ⟨x0, y0, hTO⟩, h1, h2⟩ := st
    obtain ⟨xs, ys, x, y, hqx, hqy, hx, hy⟩ := hg
    obtain ⟨its, rv, p, _⟩ := I.tuple hqx
    obtain ⟨its2, rv2, p2, _⟩ := I.list hqy
    obtain ⟨u, hu, ru⟩ := rv.get hx
    obtain ⟨u2, hu2, ru2⟩ := rv2.get hy
    have hzl : z < s.heap.objs.size := Heap.lt_size hz
    have hlt1 : i < its.toArray.size := by
      have := (List.getElem?_eq_some_iff.mp hu).1
      simpa using this
    have hlt2 : i < its2.toArray.size := by
      have := (List.getElem?_eq_some_iff.mp hu2).1
      simpa using this
    refine wpAny_pyNext_zipD2_item S (Draws.tuple (A := X.A.in1) (I.ok.hd hc) i1 a hna its.toArray) (Draws.list (A := X.A.in1) (I.ok.hd hc) i2 b hnb its2.toArray) hz hTI hTO ⟨h1, p⟩ ⟨h2, p2.isList⟩ hlt1 hlt2 fun v1 v2 h' tk hP1 hP2 z' TO' h1' h2' hT hsz hk => ?_
    have e1 : v1 = u := by
      have q : its.toArray[i]? = some v1 := hP1
      rw [List.getElem?_toArray, hu] at q
      exact (Option.some.inj q).symm
    have e2 : v2 = u2 := by
      have q : its2.toArray[i]? = some v2 := hP2
      rw [List.getElem?_toArray, hu2] at q
      exact (Option.some.inj q).symm
    subst e1 e2
    refine ⟨_, rfl, wpAny_letOwnedTupleGo_zip (s := { s with heap := h', toks := tk }) z' fun h'' z'' sb => ?_⟩
    have hT2 : h''.get? s.heap.objs.size = some { cls := .type "tuple", data := .seq #[v1, v2] } := (sb.2 _ (Nat.ne_of_gt hzl)).trans hT
    have new : ObjOk X.prog X.w (upd H s.heap.objs.size (.tup [x, y])) h'' s.heap.objs.size (.tup [x, y]) :=
      ⟨by show 2 ≤ sizeLine; decide, [v1, v2], .cons ru (.cons ru2 .nil), ⟨_, hT2, rfl, _, rfl⟩⟩
    have I1 : Inv X pins σ (upd H s.heap.objs.size (.tup [x, y])) { s with heap := h'', toks := tk } :=
      I.turnedNew (t' := tk) (ch := [z, TI, TO, i1, i2]) (fun c o hb q => (sb.2 c (fun q' => hb (by simp [q']))).trans (hk c o (fun q' => hb (by simp [q'])) (fun q' => hb (by simp [q'])) (fun q' => hb (by simp [q'])) (fun q' => hb (by simp [q'])) q)) hf (Nat.le_refl _) new
    refine ⟨.ref s.heap.objs.size, _, I1, rfl, ⟨_, x, y, rfl, I.hok.fresh (Nat.le_refl _), rfl, fun l hl => by rw [I.tuple_inj hl hqx]; exact hx, fun l hl => by rw [I.list_inj hl hqy]; exact hy⟩, ⟨z'', ?_, ⟨v1, v2, ?_⟩, ?_, ?_⟩, fun c hcm => ?_⟩
    · exact (sb.2 _ S.TIz).trans (hk _ _ S.TIz S.TITO S.TIi1 S.TIi2 hTI)
    · exact (sb.2 _ S.TOz).trans TO'
    · exact h1'.1.at fun o q => (sb.2 _ S.zi1.symm).trans q
    · exact h2'.1.at fun o q => (sb.2 _ S.zi2.symm).trans q
    · have hlt : c < s.heap.objs.size := by
        have e' : c = z ∨ c = TI ∨ c = TO ∨ c = i1 ∨ c = i2 := by simpa using hcm
        rcases e' with q | q | q | q | q
        · rw [q]; exact hzl
        · rw [q]; exact Heap.lt_size hTI
        · rw [q]; exact Heap.lt_size hTO
        · rw [q]; obtain ⟨_, e1, _⟩ := h1; exact Heap.lt_size e1
        · rw [q]; obtain ⟨_, e2, _⟩ := h2; exact Heap.lt_size e2
      rw [upd_ne (Nat.ne_of_lt hlt)]
      exact (hf c hcm).1
  done := by
    intro X hP hw hK hc i pins s σ H E I hf st hg
    subst hP hw hK
    obtain ⟨hz, hTI, ⟨x0, y0, hTO⟩, h1, h2⟩ := st
    obtain ⟨xs, ys, hqx, hqy, hend⟩ := hg
    obtain ⟨its, rv, p, _⟩ := I.tuple hqx
    obtain ⟨its2, rv2, p2, _⟩ := I.list hqy
    have l1 := rv.length
    have l2 := rv2.length
    by_cases q1 : its.length ≤ i
    · have D1 := spentT (prog := X.prog) (w := X.w) (A := X.A.in1) (I.ok.hd hc) i1 a its.toArray i (by simp; omega)
      by_cases q2 : its2.length ≤ i
      · have D2 := spentL (prog := X.prog) (w := X.w) (A := X.A.in1) (I.ok.hd hc) i2 b its2.toArray i (by simp; omega)
        exact wpAny_pyNext_zipD2_end S D1 D2 hz hTI hTO ⟨rfl, h1, p⟩ ⟨rfl, h2, p2.isList⟩ (Nat.le_refl _) (Nat.le_refl _) (.inl rfl) fun h' tk hk => ⟨rfl, I.turnedL (t' := tk) (ch := [z, TI, TO, i1, i2]) (fun c o hb q => hk c o (fun q' => hb (by simp [q'])) (fun q' => hb (by simp [q'])) (fun q' => hb (by simp [q'])) (fun q' => hb (by simp [q'])) q) hf⟩
      · have D2 := Draws.list (prog := X.prog) (w := X.w) (A := X.A.in1) (I.ok.hd hc) i2 b hnb its2.toArray
        exact wpAny_pyNext_zipD2_end S D1 D2 hz hTI hTO ⟨rfl, h1, p⟩ ⟨h2, p2.isList⟩ (Nat.le_refl _) (by simp; omega) (.inl rfl) fun h' tk hk => ⟨rfl, I.turnedL (t' := tk) (ch := [z, TI, TO, i1, i2]) (fun c o hb q => hk c o (fun q' => hb (by simp [q'])) (fun q' => hb (by simp [q'])) (fun q' => hb (by simp [q'])) (fun q' => hb (by simp [q'])) q) hf⟩
    · have D1 := Draws.tuple (prog := X.prog) (w := X.w) (A := X.A.in1) (I.ok.hd hc) i1 a hna its.toArray
      have D2 := spentL (prog := X.prog) (w := X.w) (A := X.A.in1) (I.ok.hd hc) i2 b its2.toArray i (by simp; omega)
      exact wpAny_pyNext_zipD2_end S D1 D2 hz hTI hTO ⟨h1, p⟩ ⟨rfl, h2, p2.isList⟩ (by simp; omega) (Nat.le_refl _) (.inr rfl) fun h' tk hk => ⟨rfl, I.turnedL (t' := tk) (ch := [z, TI, TO, i1, i2]) (fun c o hb q => hk c o (fun q' => hb (by simp [q'])) (fun q' => hb (by simp [q'])) (fun q' => hb (by simp [q'])) (fun q' => hb (by simp [q'])) q) hf⟩
  self := fun A i s Q E st h => wpAny_pyIter_zip st.1 h

def iZip3 (K : PySem.W.Frag) (ta : TA) : TI := fun σ H R => ta σ H fun vs H1 => ∃ a b xs ys, vs = [.ref a, .ref b] ∧ ((SqL K H1 a xs ∧ SqL K H1 b ys ∧ R (Itz K a b) H1) ∨ (SqT K H1 a xs ∧ SqT K H1 b ys ∧ R (RZ.ItzT K a b) H1) ∨ (SqT K H1 a xs ∧ SqL K H1 b ys ∧ R (ItzM K a b) H1))
theorem pi_zip3 {X : Cx} {e e2 : Expr} {ta : TA} {p pos tpos : Pos} {elts : List Expr} {kk : Nat} (hg : Gl X "zip") (hm : X.mg "zip" = none) (ha : PA X [e, e2] ta)
    (hs : starEach [e, e2] X.env = (false, eval e X.env) :: starEach [e2] X.env := by rfl) (hpl : (backTo pos (starEach [e2] X.env)).any (·.1) = false := by rfl) :
    PI X (.Tuple elts kk tpos) (.Call (.Name "zip" p) [e, e2] [] pos) (iZip3 X.K ta) := by
  refine ⟨fun pins s σ H R I h => ?_⟩
  refine Call_ (ld_blt I hg hm PyProof.Rows.boot_zip (PyProof.Rows.callWith_type1 (thn (ha.run pos pins s σ H _ I h) fun us s1 ⟨vs, H1, I1, r1, q1⟩ => ?_) hs hpl))
  obtain ⟨a, b, xs, ys, ex, q1⟩ := q1
  subst ex
  cases r1 with
  | cons r rr =>
    cases rr with
    | cons r' rr =>
      cases rr
      cases r
      cases r'
      have fresh5 : ∀ c, c ∈ [s1.heap.objs.size + 4, s1.heap.objs.size + 2, s1.heap.objs.size + 3, s1.heap.objs.size, s1.heap.objs.size + 1] → FpOk X pins H1 c := fun c hcm => by
        have e' : c = s1.heap.objs.size + 4 ∨ c = s1.heap.objs.size + 2 ∨ c = s1.heap.objs.size + 3 ∨ c = s1.heap.objs.size ∨ c = s1.heap.objs.size + 1 := by simpa using hcm
        have hle : s1.heap.objs.size ≤ c := by
          rcases e' with z | z | z | z | z
          · rw [z]; exact Nat.le_add_right _ _
          · rw [z]; exact Nat.le_add_right _ _
          · rw [z]; exact Nat.le_add_right _ _
          · rw [z]; exact Nat.le_refl _
          · rw [z]; exact Nat.le_add_right _ _
        exact I1.fpOk hle (I1.hok.fresh hle)
      rcases q1 with ⟨hqx, hqy, q⟩ | ⟨hqx, hqy, q⟩ | ⟨hqx, hqy, q⟩
      · obtain ⟨its, rv, p1, _⟩ := I1.list hqx
        obtain ⟨its2, rv2, p2, _⟩ := I1.list hqy
        refine call_zip_2 p1.isList p2.isList fun h' hz hTI hTO h1 h2 hsz hk => wpAny_pyIter_zip hz ?_
        have I2 : Inv X pins σ H1 { s1 with heap := h' } := I1.kept (t' := s1.toks) hk
        exact ⟨s1.heap.objs.size + 4, [s1.heap.objs.size + 4, s1.heap.objs.size + 2, s1.heap.objs.size + 3, s1.heap.objs.size, s1.heap.objs.size + 1], _, _, H1, rfl, I2, turn_zip (PySem.W.ktu_apart s1.heap.objs.size a b p1.lt p2.lt), ⟨hz, hTI, ⟨_, _, hTO⟩, h1, h2⟩, fresh5, q⟩
      · obtain ⟨its, rv, p1, _⟩ := I1.tuple hqx
        obtain ⟨its2, rv2, p2, _⟩ := I1.tuple hqy
        obtain ⟨o1, ho1, _⟩ := id p1
        obtain ⟨o2, ho2, _⟩ := id p2
        refine RZ.call_zipT (show s1.heap.IsTuple a its.toArray from p1) (show s1.heap.IsTuple b its2.toArray from p2) fun h' hz hTI hTO h1 h2 hsz hk => wpAny_pyIter_zip hz ?_
        have I2 : Inv X pins σ H1 { s1 with heap := h' } := I1.kept (t' := s1.toks) hk
        exact ⟨s1.heap.objs.size + 4, [s1.heap.objs.size + 4, s1.heap.objs.size + 2, s1.heap.objs.size + 3, s1.heap.objs.size, s1.heap.objs.size + 1], _, _, H1, rfl, I2, RZ.turn_zipT (PySem.W.ktu_apart s1.heap.objs.size a b (Heap.lt_size ho1) (Heap.lt_size ho2)), ⟨hz, hTI, ⟨_, _, hTO⟩, h1, h2⟩, fresh5, q⟩
      · obtain ⟨its, rv, p1, _⟩ := I1.tuple hqx
        obtain ⟨its2, rv2, p2, _⟩ := I1.list hqy
        obtain ⟨o1, ho1, _⟩ := id p1
        have la : a < s1.heap.objs.size := Heap.lt_size ho1
        have lb : b < s1.heap.objs.size := p2.lt
        refine zip_begins2 (begins_tuple a its.toArray) (begins_list b its2.toArray) p1 p2.isList fun h' hz hTI hTO h1 h2 hsz hk => wpAny_pyIter_zip hz ?_
        have I2 : Inv X pins σ H1 { s1 with heap := h' } := I1.kept (t' := s1.toks) hk
        have S : ZipSep2 (s1.heap.objs.size + 4) (s1.heap.objs.size + 2) (s1.heap.objs.size + 3) s1.heap.objs.size (s1.heap.objs.size + 1) [s1.heap.objs.size, a] [s1.heap.objs.size + 1, b] := zip_sep2 (fp1 := [a]) (fp2 := [b]) (fun c hc => by rw [List.mem_singleton.mp hc]; exact la) (fun c hc => by rw [List.mem_singleton.mp hc]; exact lb)
        exact ⟨s1.heap.objs.size + 4, [s1.heap.objs.size + 4, s1.heap.objs.size + 2, s1.heap.objs.size + 3, s1.heap.objs.size, s1.heap.objs.size + 1], _, _, H1, rfl, I2, turn_zipM S (Nat.ne_of_lt la) (Nat.ne_of_lt (Nat.lt_succ_of_lt lb)), ⟨hz, hTI, ⟨_, _, hTO⟩, ⟨_, h1, rfl, rfl⟩, ⟨_, h2, rfl, rfl⟩⟩, fresh5, q⟩
end MP

/-! MP st: statements keep their evaluator's promise. -/
namespace MP
open PySem PySem.Spec PyProof.Rows L2

theorem nodup_get {α : Type} : ∀ {l : List α} {i j : Nat} {x : α}, l.Nodup → l[i]? = some x → l[j]? = some x → i = j
  | [], _, _, _, _, h, _ => by simp at h
  | a :: r, 0, 0, _, _, _, _ => rfl
  | a :: r, 0, j + 1, x, n, h1, h2 => by
    simp at h1 h2
    subst h1
    exact absurd (List.mem_of_getElem? h2) (List.nodup_cons.mp n).1
  | a :: r, i + 1, 0, x, n, h1, h2 => by
    simp at h1 h2
    subst h2
    exact absurd (List.mem_of_getElem? h1) (List.nodup_cons.mp n).1
  | a :: r, i + 1, j + 1, x, n, h1, h2 => by
    simp at h1 h2
    rw [nodup_get (List.nodup_cons.mp n).2 h1 h2]
/-- the state within a def's body: as0, G0, H0 at the entry -/
structure Sti (as0 as : List Addr) (K : PySem.W.Frag) (G0 H0 G H : Hp) (σ : L2.St) (ρ : Envi) (D : DS) : Prop where
  pre : ∃ more, as = as0 ++ more
  fr : ∀ a ∈ as, a ∈ as0 ∨ H0 a = none
  w : Wd as K G H D
  r : Rp as K G H σ ρ
  pl : Pln as K G H σ ρ
  st : Stp as0 G0 H0 G H
  on : ∀ (i : Nat) (x : PV) (a : Addr), ρ[i]? = some (some (true, x)) → σ[i]? = some (some (.ref a)) → H0 a = none
/-- later: more is shared, more is told -/
def Nxt (as : List Addr) (G : Hp) (as' : List Addr) (G' : Hp) : Prop := (∃ more, as' = as ++ more) ∧ Le G G'
theorem Nxt.refl (as : List Addr) (G : Hp) : Nxt as G as G := ⟨⟨[], by simp⟩, Le.refl G⟩
theorem Nxt.trans {as as1 as2 : List Addr} {G G1 G2 : Hp} (a : Nxt as G as1 G1) (b : Nxt as1 G1 as2 G2) : Nxt as G as2 G2 := by
  obtain ⟨⟨m1, e1⟩, l1⟩ := a
  obtain ⟨⟨m2, e2⟩, l2⟩ := b
  exact ⟨⟨m1 ++ m2, by rw [e2, e1, List.append_assoc]⟩, l1.trans l2⟩
theorem Nxt.same {as : List Addr} {G G' : Hp} (l : Le G G') : Nxt as G as G' := ⟨⟨[], by simp⟩, l⟩
theorem Nxt.tr {as as' : List Addr} {G G' : Hp} {K : PySem.W.Frag} {v : V} {x : PV} (n : Nxt as G as' G') (t : Tr as K G v x) : Tr as' K G' v x := by
  obtain ⟨⟨m, rfl⟩, l⟩ := n
  exact t.mono l m
/-- what is wanted at a statement's end -/
def EndO (E : Ends) (K : PySem.W.Frag) (as : List Addr) (G : Hp) (σ : L2.St) (H : Hp) : Out → Prop
  | .nx => E.nx σ H
  | .bk => E.bk σ H
  | .ct => E.ct σ H
  | .rt x => ∀ v, Tr as K G v x → E.rt v H
def sR (K : PySem.W.Frag) (f : Envi → DS → XR) : TS := fun E σ H => ∃ as0 G0 H0 as G ρ D o ρ' D', Sti as0 as K G0 H0 G H σ ρ D ∧ f ρ D = some (o, ρ', D') ∧
  ∀ as' σ' G' H', Nxt as G as' G' → Sti as0 as' K G0 H0 G' H' σ' ρ' D' → EndO E K as' G' σ' H' o
def sS (K : PySem.W.Frag) (Φ : Fns) (c : CS) : TS := sR K (ex Φ c)
def sSs (K : PySem.W.Frag) (Φ : Fns) (c : CSs) : TS := sR K (exs Φ c)
abbrev PS_ (Φ : Fns) (X : Cx) (s : Stmt) (c : CS) : Prop := PS X s (sS X.K Φ c)
abbrev PSs_ (Φ : Fns) (X : Cx) (s : List Stmt) (c : CSs) : Prop := PSs X s (sSs X.K Φ c)
theorem ps_imp {X : Cx} {s : Stmt} {t u : TS} (h : PS X s t) (i : ∀ D σ H, u D σ H → t D σ H) : PS X s u := ⟨fun pins st σ H D I q => h.run pins st σ H D I (i _ _ _ q)⟩
theorem pss_imp {X : Cx} {s : List Stmt} {t u : TS} (h : PSs X s t) (i : ∀ D σ H, u D σ H → t D σ H) : PSs X s u := ⟨fun pins st σ H D I q => h.run pins st σ H D I (i _ _ _ q)⟩

section
variable {as0 as : List Addr} {K : PySem.W.Frag} {G0 H0 G H G' H' : Hp} {σ : L2.St} {ρ : Envi} {D D' : DS}
theorem Stp.of_in (st : Stp as0 G0 H0 G H) (fr : ∀ a ∈ as, a ∈ as0 ∨ H0 a = none) (s2 : Stp as G H G' H') : Stp as0 G0 H0 G' H' :=
  ⟨st.le.trans s2.le, fun b h => by
    rcases s2.nw b h with h | h
    · exact st.nw b h
    · right
      cases e : H0 b with
      | none => rfl
      | some o => exact absurd h (st.sm b (by rw [e]; exact fun z => nomatch z)),
   fun b o hb h => s2.kp b o (fun m => by
      rcases fr b m with z | z
      · exact hb z
      · rw [h] at z; cases z) (st.kp b o hb h),
   fun b h => s2.sm b (st.sm b h)⟩
/-- an expression has been evaluated -/
theorem Sti.adv (S : Sti as0 as K G0 H0 G H σ ρ D) (st : Stp as G H G' H') (w' : Wd as K G' H' D') : Sti as0 as K G0 H0 G' H' σ ρ D' :=
  ⟨S.pre, S.fr, w', S.r.up st, Pln.up S.r S.pl st, S.st.of_in S.fr st, S.on⟩
theorem set_get {α : Type} {l : List α} {i j : Nat} {x y : α} (h : (l.set i x)[j]? = some y) : (i = j ∧ y = x ∧ i < l.length) ∨ (i ≠ j ∧ l[j]? = some y) := by
  by_cases e : i = j
  · subst e
    have hl : i < l.length := by
      have := (List.getElem?_eq_some_iff.mp h).1
      rwa [List.length_set] at this
    rw [List.getElem?_set_self hl] at h
    cases h
    exact .inl ⟨rfl, rfl, hl⟩
  · rw [List.getElem?_set_ne e] at h
    exact .inr ⟨e, h⟩
/-- a value stored in a slot -/
theorem Sti.put (S : Sti as0 as K G0 H0 G H σ ρ D) (i : Nat) {v : V} {x : PV} (t : Tr as K G v x) : Sti as0 as K G0 H0 G H (σ.set i (some v)) (ρ.set i (some (false, x))) D :=
  ⟨S.pre, S.fr, S.w, S.r.put i t, fun j y a h1 h2 => by
    rcases set_get h1 with ⟨_, e, _⟩ | ⟨ne, h1⟩
    · cases e
    · rw [List.getElem?_set_ne ne] at h2
      exact S.pl j y a h1 h2, S.st, fun j y a h1 h2 => by
    rcases set_get h1 with ⟨_, e, _⟩ | ⟨ne, h1⟩
    · cases e
    · rw [List.getElem?_set_ne ne] at h2
      exact S.on j y a h1 h2⟩
/-- a new object stored in a slot -/
theorem Sti.putO (S : Sti as0 as K G0 H0 G H σ ρ D) (i : Nat) {p : Addr} {x : PV} (hp : H0 p = none) (hG : G p = none) (ha : p ∉ as) (ow : OwnO as K G H p x) (av : Av p σ ρ) : Sti as0 as K G0 H0 G H (σ.set i (some (.ref p))) (ρ.set i (some (true, x))) D :=
  ⟨S.pre, S.fr, S.w, ⟨by rw [List.length_set, List.length_set]; exact S.r.len, fun j y h => by
    rcases set_get h with ⟨_, e, _⟩ | ⟨ne, h⟩
    · cases e
    · rw [List.getElem?_set_ne ne]
      exact S.r.frz j y h, fun j y h => by
    rcases set_get h with ⟨e, e2, hl⟩ | ⟨ne, h⟩
    · subst e
      cases e2
      exact ⟨p, List.getElem?_set_self (by rw [S.r.len]; exact hl), hG, ha, ow.r⟩
    · rw [List.getElem?_set_ne ne]
      exact S.r.own j y h, fun j k y z a h1 h2 h3 h4 => by
    rcases set_get h1 with ⟨e1, q1, l1⟩ | ⟨n1, h1⟩
    · rcases set_get h2 with ⟨e2, _, _⟩ | ⟨n2, h2⟩
      · rw [← e1, ← e2]
      · subst e1
        rw [List.getElem?_set_self (by rw [S.r.len]; exact l1)] at h3
        rw [List.getElem?_set_ne n2] at h4
        cases h3
        exact absurd h4 (av k z h2)
    · rcases set_get h2 with ⟨e2, _, l2⟩ | ⟨n2, h2⟩
      · subst e2
        rw [List.getElem?_set_self (by rw [S.r.len]; exact l2)] at h4
        rw [List.getElem?_set_ne n1] at h3
        cases h4
        exact absurd h3 (av j y h1)
      · rw [List.getElem?_set_ne n1] at h3
        rw [List.getElem?_set_ne n2] at h4
        exact S.r.dis j k y z a h1 h2 h3 h4⟩, fun j y a h1 h2 => by
    rcases set_get h1 with ⟨e, e2, hl⟩ | ⟨ne, h1⟩
    · subst e
      rw [List.getElem?_set_self (by rw [S.r.len]; exact hl)] at h2
      cases e2
      cases h2
      exact ow
    · rw [List.getElem?_set_ne ne] at h2
      exact S.pl j y a h1 h2, S.st, fun j y a h1 h2 => by
    rcases set_get h1 with ⟨e, _, hl⟩ | ⟨ne, h1⟩
    · subst e
      rw [List.getElem?_set_self (by rw [S.r.len]; exact hl)] at h2
      cases h2
      exact hp
    · rw [List.getElem?_set_ne ne] at h2
      exact S.on j y a h1 h2⟩
theorem Sti.none0 (S : Sti as0 as K G0 H0 G H σ ρ D) {p : Addr} (hp : H p = none) : H0 p = none := by
  cases e : H0 p with
  | none => rfl
  | some o => exact absurd hp (S.st.sm p (by rw [e]; exact fun z => nomatch z))
/-- what a slot holds by itself is changed -/
theorem Sti.mutO (S : Sti as0 as K G0 H0 G H σ ρ D) {i : Nat} {x y : PV} {a : Addr} {o : HO} (h1 : ρ[i]? = some (some (true, x))) (h2 : σ[i]? = some (some (.ref a))) (ow : OwnO as K G (upd H a o) a y) :
    Sti as0 as K G0 H0 G (upd H a o) σ (ρ.set i (some (true, y))) D := by
  obtain ⟨b, e, hG, ha, oo⟩ := S.r.own i x h1
  rw [h2] at e
  cases e
  have hl : i < ρ.length := (List.getElem?_eq_some_iff.mp h1).1
  have other : ∀ {j : Nat} {z : PV} {c : Addr}, i ≠ j → ρ[j]? = some (some (true, z)) → σ[j]? = some (some (.ref c)) → c ≠ a := fun {j z c} ne q1 q2 e => by
    subst e
    exact ne (S.r.dis i j x z c h1 q1 h2 q2)
  refine ⟨S.pre, S.fr, S.w.mut hG ha, ⟨by rw [List.length_set]; exact S.r.len, fun j z h => ?_, fun j z h => ?_, fun j k z z' c q1 q2 q3 q4 => ?_⟩, fun j z c q1 q2 => ?_, S.st.mut (S.on i x a h1 h2), fun j z c q1 q2 => ?_⟩
  · rcases set_get h with ⟨_, e, _⟩ | ⟨ne, h⟩
    · cases e
    · exact S.r.frz j z h
  · rcases set_get h with ⟨e, e2, _⟩ | ⟨ne, h⟩
    · subst e
      cases e2
      exact ⟨a, h2, hG, ha, ow.r⟩
    · obtain ⟨c, e, g1, g2, oc⟩ := S.r.own j z h
      have := oc.up (G' := G) (H' := upd H a o) (Le.refl G) (upd_ne (other ne h e)) []
      exact ⟨c, e, g1, g2, by simpa using this⟩
  · rcases set_get q1 with ⟨e1, _, _⟩ | ⟨n1, q1⟩
    · rcases set_get q2 with ⟨e2, _, _⟩ | ⟨n2, q2⟩
      · rw [← e1, ← e2]
      · subst e1
        exact S.r.dis i k x z' c h1 q2 q3 q4
    · rcases set_get q2 with ⟨e2, _, _⟩ | ⟨n2, q2⟩
      · subst e2
        exact S.r.dis j i z x c q1 h1 q3 q4
      · exact S.r.dis j k z z' c q1 q2 q3 q4
  · rcases set_get q1 with ⟨e, e2, _⟩ | ⟨ne, q1⟩
    · subst e
      rw [h2] at q2
      cases q2
      cases e2
      exact ow
    · have := (S.pl j z c q1 q2).up (G' := G) (H' := upd H a o) (Le.refl G) (upd_ne (other ne q1 q2)) []
      simpa using this
  · rcases set_get q1 with ⟨e, _, _⟩ | ⟨ne, q1⟩
    · subst e
      rw [h2] at q2
      cases q2
      exact S.on i x a h1 h2
    · exact S.on j z c q1 q2
/-- a shared object is changed -/
theorem Sti.mutS (S : Sti as0 as K G0 H0 G H σ ρ D) {j : Nat} {y : PV} {a : Addr} {o : HO} (h1 : as[j]? = some a) (ow : OwnO as K G (upd H a o) a y) :
    Sti as0 as K G0 H0 G (upd H a o) σ ρ (D.set j y) := by
  have hm : a ∈ as := List.mem_of_getElem? h1
  have hG := S.w.off a hm
  have hj : j < as.length := (List.getElem?_eq_some_iff.mp h1).1
  have ndj : ∀ {k : Nat} {c : Addr}, as[k]? = some c → c = a → k = j := fun {k c} q e => by
    subst e
    exact nodup_get S.w.nd q h1
  refine ⟨S.pre, S.fr, ⟨fun b u h => by rw [upd_ne (ne_of_none h hG)]; exact S.w.sub b u h, S.w.nd, by rw [List.length_set]; exact S.w.len, S.w.off, fun k c z q1 q2 => ?_⟩, ⟨S.r.len, S.r.frz, fun k z h => ?_, S.r.dis⟩, fun k z c q1 q2 => ?_, ?_, S.on⟩
  · by_cases e : c = a
    · have := ndj q1 e
      subst this
      subst e
      rw [List.getElem?_set_self (by rw [← S.w.len]; exact hj)] at q2
      cases q2
      cases y with
      | lst xs => exact ow
      | dct t kvs => exact ow
      | _ => exact absurd ow id
    · rw [List.getElem?_set_ne (fun z => e (by rw [← z] at q1; rw [h1] at q1; exact (Option.some.inj q1).symm))] at q2
      have := (S.w.sh k c z q1 q2).up (G' := G) (H' := upd H a o) (Le.refl G) (upd_ne e) []
      simpa using this
  · obtain ⟨c, e, g1, g2, oc⟩ := S.r.own k z h
    have := oc.up (G' := G) (H' := upd H a o) (Le.refl G) (upd_ne (fun e => g2 (by rw [e]; exact hm))) []
    exact ⟨c, e, g1, g2, by simpa using this⟩
  · obtain ⟨c', e, g1, g2, oc⟩ := S.r.own k z q1
    rw [q2] at e
    cases e
    have := (S.pl k z c q1 q2).up (G' := G) (H' := upd H a o) (Le.refl G) (upd_ne (fun e => g2 (by rw [e]; exact hm))) []
    simpa using this
  · rcases S.fr a hm with z | z
    · refine ⟨S.st.le, S.st.nw, fun b u hb h => ?_, fun b h => ?_⟩
      · rw [upd_ne (fun e => hb (by rw [e]; exact z))]; exact S.st.kp b u hb h
      · by_cases e : b = a
        · rw [e, upd_same]; exact fun z => nomatch z
        · rw [upd_ne e]; exact S.st.sm b h
    · exact S.st.mut z
end
section
variable {T : Tb} {Φ : Fns} {N : List Str} {sc : Scope} {X : Cx} {e a b tg : Expr} {pos p : Pos} {c : CE}
/-! ### name = value -/
theorem asg_v {K : PySem.W.Frag} {i : Nat} {c : CE} {E : Ends} {σ : L2.St} {H : Hp} (h : sS K Φ (.asg false i c) E σ H) : tAsg (tE K Φ c) (gName i) E σ H := by
  obtain ⟨as0, G0, H0, as, G, ρ, D, o, ρ', D', S, ee, f⟩ := h
  obtain ⟨⟨x, D1⟩, e1, ee⟩ := Option.map_eq_some_iff.mp (show (ev Φ c ρ D).map (fun r => (Out.nx, ρ.set i (some (false, r.1)), r.2)) = some (o, ρ', D') from ee)
  cases ee
  exact ⟨as, G, ρ, D, x, D1, S.w, S.r, e1, fun v G' H' st w' t => f as _ G' H' (.same st.le) ((S.adv st w').put i t)⟩
theorem asg_f {K : PySem.W.Frag} {i : Nat} {c : CE} {E : Ends} {σ : L2.St} {H : Hp} (h : sS K Φ (.asg true i c) E σ H) : tAsg (tF K Φ c) (gName i) E σ H := by
  obtain ⟨as0, G0, H0, as, G, ρ, D, o, ρ', D', S, ee, f⟩ := h
  obtain ⟨⟨x, D1⟩, e1, ee⟩ := Option.map_eq_some_iff.mp (show (ev Φ c ρ D).map (fun r => (Out.nx, ρ.set i (some (true, r.1)), r.2)) = some (o, ρ', D') from ee)
  cases ee
  exact ⟨as, G, ρ, D, x, D1, S.w, S.r, e1, fun p G' H' st w' hp hG ow => f as _ G' H' (.same st.le) ((S.adv st w').putO i (S.none0 hp) hG (fun m => S.w.some m hp) ow (S.r.av hp))⟩
/-- a new object becomes shared -/
theorem Sti.share {as0 as : List Addr} {K : PySem.W.Frag} {G0 H0 G H : Hp} {σ : L2.St} {ρ : Envi} {D : DS} (S : Sti as0 as K G0 H0 G H σ ρ D) (i : Nat) {p : Addr} {x : PV} (hp : H0 p = none) (hG : G p = none) (ha : p ∉ as) (ow : OwnO as K G H p x) (av : Av p σ ρ) :
    Sti as0 (as ++ [p]) K G0 H0 G H (σ.set i (some (.ref p))) (ρ.set i (some (false, .shr D.length))) (D ++ [x]) := by
  have le := Le.refl G
  have old : ∀ {a : Addr}, H a = H a := fun {_} => rfl
  refine ⟨?_, fun a h => ?_, ⟨S.w.sub, ?_, by rw [List.length_append, List.length_append, S.w.len]; rfl, fun a h => ?_, fun j a z h1 h2 => ?_⟩, ⟨by rw [List.length_set, List.length_set]; exact S.r.len, fun j y h => ?_, fun j y h => ?_, fun j k y z a h1 h2 h3 h4 => ?_⟩, fun j y a h1 h2 => ?_, S.st, fun j y a h1 h2 => ?_⟩
  · obtain ⟨m, e⟩ := S.pre
    exact ⟨m ++ [p], by rw [e, List.append_assoc]⟩
  · rcases List.mem_append.mp h with h | h
    · exact S.fr a h
    · rw [List.mem_singleton.mp h]; exact .inr hp
  · exact List.nodup_append.mpr ⟨S.w.nd, by simp, fun a h1 b h2 e => ha (by rw [List.mem_singleton.mp h2] at e; rw [← e]; exact h1)⟩
  · rcases List.mem_append.mp h with h | h
    · exact S.w.off a h
    · rw [List.mem_singleton.mp h]; exact hG
  · by_cases hj : j < as.length
    · rw [List.getElem?_append_left hj] at h1
      rw [List.getElem?_append_left (by rw [← S.w.len]; exact hj)] at h2
      exact (S.w.sh j a z h1 h2).up le rfl [p]
    · rw [List.getElem?_append_right (by omega)] at h1
      rw [List.getElem?_append_right (by rw [← S.w.len]; omega), ← S.w.len] at h2
      have e0 : j - as.length = 0 := by
        have := (List.getElem?_eq_some_iff.mp h1).1
        simp at this
        omega
      rw [e0] at h1 h2
      cases h1
      cases h2
      have := ow.up le rfl [p]
      cases x with
      | lst xs => exact this
      | dct t kvs => exact this
      | _ => exact absurd ow id
  · rcases set_get h with ⟨e, e2, hl⟩ | ⟨ne, h⟩
    · subst e
      cases e2
      refine ⟨.ref p, List.getElem?_set_self (by rw [S.r.len]; exact hl), .shr ?_⟩
      rw [← S.w.len, List.getElem?_append_right (Nat.le_refl _), Nat.sub_self]
      rfl
    · rw [List.getElem?_set_ne ne]
      obtain ⟨v, e, t⟩ := S.r.frz j y h
      exact ⟨v, e, t.mono le [p]⟩
  · rcases set_get h with ⟨_, e, _⟩ | ⟨ne, h⟩
    · cases e
    · rw [List.getElem?_set_ne ne]
      obtain ⟨a, e, g1, g2, oo⟩ := S.r.own j y h
      refine ⟨a, e, g1, fun m => ?_, oo.up le rfl [p]⟩
      rcases List.mem_append.mp m with m | m
      · exact g2 m
      · rw [List.mem_singleton.mp m] at e
        exact av j y h e
  · rcases set_get h1 with ⟨_, e, _⟩ | ⟨n1, h1⟩
    · cases e
    · rcases set_get h2 with ⟨_, e, _⟩ | ⟨n2, h2⟩
      · cases e
      · rw [List.getElem?_set_ne n1] at h3
        rw [List.getElem?_set_ne n2] at h4
        exact S.r.dis j k y z a h1 h2 h3 h4
  · rcases set_get h1 with ⟨_, e, _⟩ | ⟨n1, h1⟩
    · cases e
    · rw [List.getElem?_set_ne n1] at h2
      exact (S.pl j y a h1 h2).up le rfl [p]
  · rcases set_get h1 with ⟨_, e, _⟩ | ⟨n1, h1⟩
    · cases e
    · rw [List.getElem?_set_ne n1] at h2
      exact S.on j y a h1 h2
theorem asg_s {K : PySem.W.Frag} {i : Nat} {c : CE} {E : Ends} {σ : L2.St} {H : Hp} (h : sS K Φ (.asgS i c) E σ H) : tAsg (tF K Φ c) (gName i) E σ H := by
  obtain ⟨as0, G0, H0, as, G, ρ, D, o, ρ', D', S, ee, f⟩ := h
  obtain ⟨⟨x, D1⟩, e1, ee⟩ := Option.map_eq_some_iff.mp (show (ev Φ c ρ D).map (fun r => (Out.nx, ρ.set i (some (false, .shr r.2.length)), r.2 ++ [r.1])) = some (o, ρ', D') from ee)
  cases ee
  exact ⟨as, G, ρ, D, x, D1, S.w, S.r, e1, fun p G' H' st w' hp hG ow => f _ _ G' H' ⟨⟨[p], rfl⟩, st.le⟩ ((S.adv st w').share i (S.none0 hp) hG (fun m => S.w.some m hp) ow (S.r.av hp))⟩
section
variable {i : Nat} {x : Str} {pos' : Pos}
theorem ps_nm {te : TE} (g : Gd T Φ N sc X) (hi : N[i]? = some x) (hx : Loc sc x) (he : PE X e te) (hs : swapsWith e (some (.Name x pos')) pos.line X.env = pure false := by rfl) (hf : X.fn x = true ∨ sc.names.lookup x = some .local := by first | exact .inl rfl | exact .inr rfl | assumption) :
    PS X (.Assign [.Name x pos'] e pos) (tAsg te (gName i)) :=
  ps_set (by rw [g.n]; exact g.nd) (by rw [g.n]; exact hi) (by rw [g.sc]; exact hx) he hs (by rw [g.sc]; exact hf)
theorem s_asg (g : Gd T Φ N sc X) (hi : N[i]? = some x) (hx : Loc sc x) (he : PV_ Φ X e c) (hs : swapsWith e (some (.Name x pos')) pos.line X.env = pure false := by rfl) (hf : X.fn x = true ∨ sc.names.lookup x = some .local := by first | exact .inl rfl | exact .inr rfl | assumption) :
    PS_ Φ X (.Assign [.Name x pos'] e pos) (.asg false i c) := ps_imp (ps_nm g hi hx he hs hf) fun _ _ _ h => asg_v h
theorem s_asgF (g : Gd T Φ N sc X) (hi : N[i]? = some x) (hx : Loc sc x) (he : PF_ Φ X e c) (hs : swapsWith e (some (.Name x pos')) pos.line X.env = pure false := by rfl) (hf : X.fn x = true ∨ sc.names.lookup x = some .local := by first | exact .inl rfl | exact .inr rfl | assumption) :
    PS_ Φ X (.Assign [.Name x pos'] e pos) (.asg true i c) := ps_imp (ps_nm g hi hx he hs hf) fun _ _ _ h => asg_f h
theorem s_asgS (g : Gd T Φ N sc X) (hi : N[i]? = some x) (hx : Loc sc x) (he : PF_ Φ X e c) (hs : swapsWith e (some (.Name x pos')) pos.line X.env = pure false := by rfl) (hf : X.fn x = true ∨ sc.names.lookup x = some .local := by first | exact .inl rfl | exact .inr rfl | assumption) :
    PS_ Φ X (.Assign [.Name x pos'] e pos) (.asgS i c) := ps_imp (ps_nm g hi hx he hs hf) fun _ _ _ h => asg_s h
end
/-! ### small statements -/
theorem s_pass : PS_ Φ X (.Pass pos) .pass := ps_imp ps_pass fun E σ H ⟨as0, G0, H0, as, G, ρ, D, o, ρ', D', S, ee, f⟩ => by
  cases ee
  exact f as σ G H (.refl _ _) S
theorem s_brk : PS_ Φ X (.Break pos) .brk := ps_imp ps_break fun E σ H ⟨as0, G0, H0, as, G, ρ, D, o, ρ', D', S, ee, f⟩ => by
  cases ee
  exact f as σ G H (.refl _ _) S
theorem s_cnt : PS_ Φ X (.Continue pos) .cnt := ps_imp ps_continue fun E σ H ⟨as0, G0, H0, as, G, ρ, D, o, ρ', D', S, ee, f⟩ => by
  cases ee
  exact f as σ G H (.refl _ _) S
theorem s_expr (he : PV_ Φ X e c) (hs : swapsWith e none pos.line X.env = pure false := by rfl) : PS_ Φ X (.Expr e pos) (.expr c) := ps_imp (ps_expr he hs) fun E σ H ⟨as0, G0, H0, as, G, ρ, D, o, ρ', D', S, ee, f⟩ => by
  obtain ⟨⟨x, D1⟩, e1, ee⟩ := Option.map_eq_some_iff.mp ee
  cases ee
  exact ⟨as, G, ρ, D, x, D1, S.w, S.r, e1, fun v G' H' st w' t => f as σ G' H' (.same st.le) (S.adv st w')⟩
theorem s_ret (he : PV_ Φ X e c) : PS_ Φ X (.Return (some e) pos) (.ret c) := ps_imp (ps_ret he) fun E σ H ⟨as0, G0, H0, as, G, ρ, D, o, ρ', D', S, ee, f⟩ => by
  obtain ⟨⟨x, D1⟩, e1, ee⟩ := Option.map_eq_some_iff.mp ee
  cases ee
  exact ⟨as, G, ρ, D, x, D1, S.w, S.r, e1, fun v G' H' st w' t => f as σ G' H' (.same st.le) (S.adv st w') v t⟩
theorem s_retN : PS_ Φ X (.Return none pos) .retN := ps_imp ps_retN fun E σ H ⟨as0, G0, H0, as, G, ρ, D, o, ρ', D', S, ee, f⟩ => by
  cases ee
  exact f as σ G H (.refl _ _) S .non .non
/-! ### blocks -/
theorem ss_nil : PSs_ Φ X [] .nil := pss_imp pss_nil fun E σ H ⟨as0, G0, H0, as, G, ρ, D, o, ρ', D', S, ee, f⟩ => by
  have ee' : some (Out.nx, ρ, D) = some (o, ρ', D') := ee
  cases ee'
  exact f as σ G H (.refl _ _) S
theorem ss_cons {st : Stmt} {r : List Stmt} {s : CS} {cs : CSs} (h1 : PS_ Φ X st s) (h2 : PSs_ Φ X r cs) : PSs_ Φ X (st :: r) (.cons s cs) := pss_imp (pss_cons h1 h2) fun E σ H ⟨as0, G0, H0, as, G, ρ, D, o, ρ', D', S, ee, f⟩ => by
  obtain ⟨⟨o1, ρ1, D1⟩, e1, e2⟩ := Option.bind_eq_some_iff.mp (show (ex Φ s ρ D).bind (fun q => match q.1 with | .nx => exs Φ cs q.2.1 q.2.2 | _ => some q) = some (o, ρ', D') from ee)
  refine ⟨as0, G0, H0, as, G, ρ, D, o1, ρ1, D1, S, e1, fun as1 σ1 G1 H1 n1 S1 => ?_⟩
  cases o1 with
  | nx =>
    exact ⟨as0, G0, H0, as1, G1, ρ1, D1, o, ρ', D', S1, e2, fun as2 σ2 G2 H2 n2 S2 => f as2 σ2 G2 H2 (n1.trans n2) S2⟩
  | rt x =>
    cases e2
    exact f as1 σ1 G1 H1 n1 S1
  | bk =>
    cases e2
    exact f as1 σ1 G1 H1 n1 S1
  | ct =>
    cases e2
    exact f as1 σ1 G1 H1 n1 S1
/-- a slot's own object is told from now on -/
theorem Sti.frz1 {as0 as : List Addr} {K : PySem.W.Frag} {G0 H0 G H : Hp} {σ : L2.St} {ρ : Envi} {D : DS} (S : Sti as0 as K G0 H0 G H σ ρ D) (i : Nat) : ∃ G', Le G G' ∧ Sti as0 as K G0 H0 G' H σ (frz1 ρ i) D := by
  unfold MP.frz1
  split
  case h_2 => exact ⟨G, Le.refl G, S⟩
  rename_i x h1
  obtain ⟨a, e, hG, ha, oo⟩ := S.r.own i x h1
  have ow := S.pl i x a h1 e
  obtain ⟨G', l, tw, w', t⟩ := tell_own S.w hG ha ow
  refine ⟨G', l, S.pre, S.fr, w', ⟨by rw [List.length_set]; exact S.r.len, fun j y h => ?_, fun j y h => ?_, fun j k y z c q1 q2 q3 q4 => ?_⟩, fun j y c q1 q2 => ?_, ⟨S.st.le.trans l, fun b hb => ?_, S.st.kp, S.st.sm⟩, fun j y c q1 q2 => ?_⟩
  · rcases set_get h with ⟨e1, e2, _⟩ | ⟨ne, h⟩
    · subst e1
      cases e2
      exact ⟨_, e, t⟩
    · obtain ⟨v, e3, t3⟩ := S.r.frz j y h
      exact ⟨v, e3, t3.up l⟩
  · rcases set_get h with ⟨_, e2, _⟩ | ⟨ne, h⟩
    · cases e2
    · obtain ⟨c, e3, g1, g2, o3⟩ := S.r.own j y h
      refine ⟨c, e3, ?_, g2, by have := o3.up (H' := H) l rfl []; simpa using this⟩
      cases q : G' c with
      | none => rfl
      | some u =>
        rcases tw c (by rw [q]; exact fun z => nomatch z) with z | z
        · exact absurd g1 z
        · subst z
          exact absurd (S.r.dis i j x y c h1 h e e3) ne
  · rcases set_get q1 with ⟨_, e2, _⟩ | ⟨n1, q1⟩
    · cases e2
    · rcases set_get q2 with ⟨_, e2, _⟩ | ⟨n2, q2⟩
      · cases e2
      · exact S.r.dis j k y z c q1 q2 q3 q4
  · rcases set_get q1 with ⟨_, e2, _⟩ | ⟨ne, q1⟩
    · cases e2
    · have := (S.pl j y c q1 q2).up (H' := H) l rfl []
      simpa using this
  · rcases tw b hb with z | z
    · exact S.st.nw b z
    · subst z
      exact .inr (S.on i x b h1 e)
  · rcases set_get q1 with ⟨_, e2, _⟩ | ⟨ne, q1⟩
    · cases e2
    · exact S.on j y c q1 q2
theorem Sti.frzL {as0 as : List Addr} {K : PySem.W.Frag} {G0 H0 H : Hp} {σ : L2.St} {D : DS} : ∀ (is : List Nat) {G : Hp} {ρ : Envi}, Sti as0 as K G0 H0 G H σ ρ D → ∃ G', Le G G' ∧ Sti as0 as K G0 H0 G' H σ (frzL ρ is) D
  | [], G, ρ, S => ⟨G, Le.refl G, S⟩
  | i :: is, G, ρ, S => by
    obtain ⟨G1, l1, S1⟩ := S.frz1 i
    obtain ⟨G2, l2, S2⟩ := S1.frzL is
    exact ⟨G2, l1.trans l2, S2⟩
theorem ss_frz {is : List Nat} {st : List Stmt} {cs : CSs} (h : PSs_ Φ X st cs) : PSs_ Φ X st (.frz is cs) := pss_imp h fun E σ H ⟨as0, G0, H0, as, G, ρ, D, o, ρ', D', S, ee, f⟩ => by
  obtain ⟨G1, l, S1⟩ := S.frzL is
  exact ⟨as0, G0, H0, as, G1, frzL ρ is, D, o, ρ', D', S1, ee, fun as' σ' G' H' n S' => f as' σ' G' H' ((Nxt.same l).trans n) S'⟩
theorem s_if {p q : List Stmt} {cp cq : CSs} (hc : PT_ Φ X e c) (ha : PSs_ Φ X p cp) (hb : PSs_ Φ X q cq) : PS_ Φ X (.If e p q pos) (.ife c cp cq) := ps_imp (ps_if hc ha hb) fun E σ H ⟨as0, G0, H0, as, G, ρ, D, o, ρ', D', S, ee, f⟩ => by
  obtain ⟨⟨x, D1⟩, e1, ee⟩ := Option.bind_eq_some_iff.mp ee
  obtain ⟨z, e2, ee⟩ := Option.bind_eq_some_iff.mp ee
  have ex : x = .bl z := by
    cases x <;> first | (cases e2; rfl) | cases e2
  subst ex
  refine ⟨as, G, ρ, D, z, D1, S.w, S.r, e1, fun G1 H1 st1 w1 => ?_⟩
  cases z with
  | true => exact ⟨as0, G0, H0, as, G1, ρ, D1, o, ρ', D', S.adv st1 w1, ee, fun as' σ' G' H' n S' => f as' σ' G' H' ((Nxt.same st1.le).trans n) S'⟩
  | false => exact ⟨as0, G0, H0, as, G1, ρ, D1, o, ρ', D', S.adv st1 w1, ee, fun as' σ' G' H' n S' => f as' σ' G' H' ((Nxt.same st1.le).trans n) S'⟩
/-! ### loops -/
theorem s_while {q : List Stmt} {cq : CSs} (g : Gd T Φ N sc X) (hc : PT_ Φ X e c) (hb : PSs_ Φ X q cq) : PS_ Φ X (.While e q [] pos) (.whl c cq) := ps_imp (ps_while (by rw [g.xe]; exact PassesOwn.never) hc hb) fun E σ H ⟨as0, G0, H0, as, G, ρ, D, o, ρ', D', S, ee, f⟩ => by
  have ee : whlL (fun ρ D => (ev Φ c ρ D).bind fun r => (blOf r.1).map fun z => (z, r.2)) (fun ρ D => exs Φ cq ρ D) WH ρ D = some (o, ρ', D') := ee
  refine ⟨fun m σ1 H1 => ∃ as1 G1 ρ1 D1, Nxt as G as1 G1 ∧ Sti as0 as1 X.K G0 H0 G1 H1 σ1 ρ1 D1 ∧ whlL (fun ρ D => (ev Φ c ρ D).bind fun r => (blOf r.1).map fun z => (z, r.2)) (fun ρ D => exs Φ cq ρ D) m ρ1 D1 = some (o, ρ', D'), ⟨WH, as, G, ρ, D, .refl _ _, S, ee⟩, ?_⟩
  rintro m σ1 H1 ⟨as1, G1, ρ1, D1, n1, S1, e1⟩
  cases m with
  | zero => cases e1
  | succ m =>
    obtain ⟨⟨z, D2⟩, e2, e3⟩ := Option.bind_eq_some_iff.mp e1
    obtain ⟨⟨x, D3⟩, e4, e5⟩ := Option.bind_eq_some_iff.mp e2
    obtain ⟨z', e6, e7⟩ := Option.map_eq_some_iff.mp e5
    have ex : x = .bl z' := by
      cases x <;> first | (cases e6; rfl) | cases e6
    subst ex
    have q1 : z' = z := congrArg Prod.fst e7
    have q2 : D3 = D2 := congrArg Prod.snd e7
    subst q1 q2
    refine ⟨as1, G1, ρ1, D1, z', D3, S1.w, S1.r, e4, fun G2 H2 st2 w2 => ?_⟩
    have S2 := S1.adv st2 w2
    have n2 := n1.trans (Nxt.same st2.le)
    cases z' with
    | false =>
      have e3' : some (Out.nx, ρ1, D3) = some (o, ρ', D') := e3
      cases e3'
      exact f as1 σ1 G2 H2 n2 S2
    | true =>
      obtain ⟨⟨o4, ρ4, D4⟩, e8, e9⟩ := Option.bind_eq_some_iff.mp (show (exs Φ cq ρ1 D3).bind (fun r => match r.1 with
        | .nx => whlL (fun ρ D => (ev Φ c ρ D).bind fun r => (blOf r.1).map fun z => (z, r.2)) (fun ρ D => exs Φ cq ρ D) m r.2.1 r.2.2
        | .ct => whlL (fun ρ D => (ev Φ c ρ D).bind fun r => (blOf r.1).map fun z => (z, r.2)) (fun ρ D => exs Φ cq ρ D) m r.2.1 r.2.2
        | .bk => some (.nx, r.2)
        | .rt v => some (.rt v, r.2)) = some (o, ρ', D') from e3)
      show if true = true then _ else _
      rw [if_pos rfl]
      refine ⟨fun σ' H' => ∃ as1 G1 ρ1 D1, Nxt as G as1 G1 ∧ Sti as0 as1 X.K G0 H0 G1 H' σ' ρ1 D1 ∧ whlL (fun ρ D => (ev Φ c ρ D).bind fun r => (blOf r.1).map fun z => (z, r.2)) (fun ρ D => exs Φ cq ρ D) m ρ1 D1 = some (o, ρ', D'), fun σ' H' h => ⟨m, Nat.lt_succ_self m, h⟩, ?_⟩
      refine ⟨as0, G0, H0, as1, G2, ρ1, D3, o4, ρ4, D4, S2, e8, fun as5 σ5 G5 H5 n5 S5 => ?_⟩
      have n6 := n2.trans n5
      cases o4 with
      | nx => exact ⟨as5, G5, ρ4, D4, n6, S5, e9⟩
      | ct => exact ⟨as5, G5, ρ4, D4, n6, S5, e9⟩
      | bk =>
        cases e9
        exact f as5 σ5 G5 H5 n6 S5
      | rt v =>
        cases e9
        exact f as5 σ5 G5 H5 n6 S5
/-- the state behind a target's store -/
theorem Sti.bind {as0 as : List Addr} {K : PySem.W.Frag} {G0 H0 G H : Hp} {σ σ' : L2.St} {ρ ρ' : Envi} {D : DS} {pt : Pat} {x : PV} (S : Sti as0 as K G0 H0 G H σ ρ D) (b : bindP pt x ρ = some ρ') (r : Rp as K G H σ' ρ') (s : Same σ σ' pt.slots) : Sti as0 as K G0 H0 G H σ' ρ' D :=
  ⟨S.pre, S.fr, S.w, r, fun j y c q1 q2 => by
    obtain ⟨n, h2⟩ := bindP_own b q1
    rw [s.2 j n] at q2
    exact S.pl j y c h2 q2, S.st, fun j y c q1 q2 => by
    obtain ⟨n, h2⟩ := bindP_own b q1
    rw [s.2 j n] at q2
    exact S.on j y c h2 q2⟩
theorem s_for {q : List Stmt} {cq : CSs} {pt : Pat} {ci : CI} (g : Gd T Φ N sc X) (hi : PI_ Φ X tg e ci) (hp : PP_ X tg pt) (hb : PSs_ Φ X q cq) (hs : ∀ x, foldedSetIterable e X.env x = pure x := by intro _; rfl) : PS_ Φ X (.For tg e q [] pos) (.for_ pt ci cq) :=
  ps_imp (ps_for (by rw [g.xe]; exact PassesOwn.never) g.calm hi hp hb hs) fun E σ H ⟨as0, G0, H0, as, G, ρ, D, o, ρ', D', S, ee, f⟩ => by
  obtain ⟨⟨xs, D1⟩, e1, e2⟩ := Option.bind_eq_some_iff.mp ee
  have e2 : forL (fun x ρ D => (bindP pt x ρ).bind fun ρ1 => exs Φ cq ρ1 D) xs ρ D1 = some (o, ρ', D') := e2
  refine ⟨as, G, ρ, D, xs, D1, S.w, S.r, e1, fun J G1 H1 st1 w1 hz ser => ?_⟩
  refine ⟨fun i m σ2 H2 => m = xs.length - i ∧ i ≤ xs.length ∧ ∃ as2 G2 ρ2 D2, Nxt as G1 as2 G2 ∧ Sti as0 as2 X.K G0 H0 G2 H2 σ2 ρ2 D2 ∧ forL (fun x ρ D => (bindP pt x ρ).bind fun ρ1 => exs Φ cq ρ1 D) (xs.drop i) ρ2 D2 = some (o, ρ', D'),
    ⟨xs.length, by simp, Nat.zero_le _, as, G1, ρ, D1, .refl _ _, S.adv st1 w1, by rw [List.drop_zero]; exact e2⟩, ?_⟩
  rintro i m σ2 H2 ⟨rfl, hi, as2, G2, ρ2, D2, n2, S2, e3⟩
  obtain ⟨⟨more, em⟩, l2⟩ := id n2
  subst em
  obtain ⟨go, stop, yld⟩ := ser more G2 H2 D2 l2 S2.w
  by_cases hlt : i < xs.length
  · rw [drop_cons hlt] at e3
    obtain ⟨⟨o4, ρ4, D4⟩, e5, e6⟩ := Option.bind_eq_some_iff.mp (show ((bindP pt xs[i] ρ2).bind fun ρ1 => exs Φ cq ρ1 D2).bind (fun r => match r.1 with
      | .nx => forL (fun x ρ D => (bindP pt x ρ).bind fun ρ1 => exs Φ cq ρ1 D) (xs.drop (i + 1)) r.2.1 r.2.2
      | .ct => forL (fun x ρ D => (bindP pt x ρ).bind fun ρ1 => exs Φ cq ρ1 D) (xs.drop (i + 1)) r.2.1 r.2.2
      | .bk => some (.nx, r.2)
      | .rt v => some (.rt v, r.2)) = some (o, ρ', D') from e3)
    obtain ⟨ρ3, b1, e7⟩ := Option.bind_eq_some_iff.mp e5
    refine .inr ⟨go i hlt, fun σ' H' => i + 1 ≤ xs.length ∧ ∃ as2 G2 ρ2 D2, Nxt as G1 as2 G2 ∧ Sti as0 as2 X.K G0 H0 G2 H' σ' ρ2 D2 ∧ forL (fun x ρ D => (bindP pt x ρ).bind fun ρ1 => exs Φ cq ρ1 D) (xs.drop (i + 1)) ρ2 D2 = some (o, ρ', D'),
      fun σ' H' h => ⟨xs.length - (i + 1), by omega, rfl, h.1, h.2⟩, fun v H3 hy => ?_⟩
    obtain ⟨G3, st3, w3, t3⟩ := yld i xs[i] v H3 (List.getElem?_eq_getElem hlt) hy
    have S3 := S2.adv st3 w3
    refine ⟨_, G3, D2, ρ2, xs[i], ρ3, w3, S3.r, t3, b1, fun σ4 r4 s4 => ?_⟩
    have S4 := S3.bind b1 r4 s4
    have n4 := n2.trans (Nxt.same st3.le)
    refine ⟨as0, G0, H0, _, G3, ρ3, D2, o4, ρ4, D4, S4, e7, fun as5 σ5 G5 H5 n5 S5 => ?_⟩
    have n6 := n4.trans n5
    cases o4 with
    | nx => exact ⟨hlt, as5, G5, ρ4, D4, n6, S5, e6⟩
    | ct => exact ⟨hlt, as5, G5, ρ4, D4, n6, S5, e6⟩
    | bk =>
      cases e6
      exact f as5 σ5 G5 H5 ((Nxt.same st1.le).trans n6) S5
    | rt v =>
      cases e6
      exact f as5 σ5 G5 H5 ((Nxt.same st1.le).trans n6) S5
  · have : i = xs.length := by omega
    subst this
    rw [List.drop_length] at e3
    have e3' : some (Out.nx, ρ2, D2) = some (o, ρ', D') := e3
    cases e3'
    exact .inl ⟨stop _ (Nat.le_refl _), f _ σ2 G2 H2 ((Nxt.same st1.le).trans n2) S2⟩
end
end MP

/-! MP su: statements that change lists and dicts; several targets. -/
namespace MP
open PySem PySem.Spec PyProof.Rows L2

section
variable {T : Tb} {Φ : Fns} {N : List Str} {sc : Scope} {X : Cx} {e a b tg k : Expr} {pos p : Pos} {c ck : CE}
/-- the slot's own list -/
theorem own_at {as0 as : List Addr} {K : PySem.W.Frag} {G0 H0 G H : Hp} {σ : L2.St} {ρ : Envi} {D : DS} (S : Sti as0 as K G0 H0 G H σ ρ D) {i : Nat} {x : PV} (h : ρ[i]? = some (some (true, x))) : ∃ a, σ[i]? = some (some (.ref a)) ∧ OwnO as K G H a x := by
  obtain ⟨a, e, _, _, _⟩ := S.r.own i x h
  exact ⟨a, e, S.pl i x a h e⟩
theorem chgO_some {f : PV → Option PV} {i : Nat} {ρ ρ' : Envi} {D D' : DS} (h : chgO f i ρ D = some (ρ', D')) : ∃ x y, ρ[i]? = some (some (true, x)) ∧ f x = some y ∧ ρ' = ρ.set i (some (true, y)) ∧ D' = D := by
  unfold chgO at h
  split at h
  · rename_i x hx
    obtain ⟨y, h1, h2⟩ := Option.map_eq_some_iff.mp h
    cases h2
    exact ⟨x, y, hx, h1, rfl, rfl⟩
  · cases h
section
variable {i : Nat} {x : Str} {apos cpos np : Pos}
theorem pv_slot (g : Gd T Φ N sc X) (hi : N[i]? = some x) (hv : Vis sc x) (hd : (x == ("__debug__" : Str)) = false := by decide) (hcd : (x == ("__classdict__" : Str)) = false := by decide) : PE X (.Name x np) (tVar i) :=
  pe_var (i := i) (by rw [g.n]; exact hi) (by rw [g.sc]; exact hv) hd hcd
theorem ev1 {Φ : Fns} {c : CE} {ρ : Envi} {D D1 : DS} {x : PV} (e1 : ev Φ c ρ D = some (x, D1)) : evs Φ (.cons c .nil) ρ D = some ([x], D1) := by simp only [evs, e1, Option.bind_some, Option.map_some]
theorem ev2 {Φ : Fns} {c c2 : CE} {ρ : Envi} {D D0 D1 : DS} {x y : PV} (e0 : ev Φ c ρ D = some (x, D0)) (e1 : ev Φ c2 ρ D0 = some (y, D1)) : evs Φ (.cons c (.cons c2 .nil)) ρ D = some ([x, y], D1) := by simp only [evs, e0, e1, Option.bind_some, Option.map_some]
/-- xs.append(e) -/
theorem s_app (g : Gd T Φ N sc X) (hi : N[i]? = some x) (hv : Vis sc x) (he : PV_ Φ X e c)
    (hbase : attributeBase (.Name x np) "append" X.env (eval (.Name x np) X.env) = eval (.Name x np) X.env := by rfl)
    (hfew : ((backTo cpos (starEach [e] X.env)).all (fun x => !x.1) && (backToKw cpos (keywordEach [] X.env)).all (fun x => x.1.isSome) && decide (([e] : List Expr).length + ([] : List Keyword).length + (if ([] : List Keyword).isEmpty then 0 else 1) < 30)) = true := by rfl)
    (hline : (apos.endLine == cpos.line) = true := by rfl) (hs : starEach [e] X.env = (false, eval e X.env) :: starEach [] X.env := by rfl) (hplain : (backTo cpos (starEach [] X.env)).any (·.1) = false := by rfl)
    (hsw : swapsWith (.Call (.Attribute (.Name x np) "append" apos) [e] [] cpos) none pos.line X.env = pure false := by rfl)
    (hd : (x == ("__debug__" : Str)) = false := by decide) (hcd : (x == ("__classdict__" : Str)) = false := by decide) : PS_ Φ X (.Expr (.Call (.Attribute (.Name x np) "append" apos) [e] [] cpos) pos) (.app i c) := by
  have hA : PA_ Φ X [e] (.cons c .nil) := a_cons he a_nil hs
  refine ps_imp (ps_expr (pe_bm PySem.F.plainAttrs_list PySem.F.slot_list_append PySem.F.type_list_append mt_append (pv_slot g hi hv hd hcd) hA hbase hfew hline hs hplain) hsw) fun E σ H ⟨as0, G0, H0, as, G, ρ, D, o, ρ', D', S, ee, f⟩ => ?_
  obtain ⟨⟨v, D1⟩, e1, ee⟩ := Option.bind_eq_some_iff.mp (show (ev Φ c ρ D).bind (fun r => (chgO (pApp r.1) i ρ r.2).map fun z => (Out.nx, z.1, z.2)) = some (o, ρ', D') from ee)
  obtain ⟨⟨ρ2, D2⟩, e2, ee⟩ := Option.map_eq_some_iff.mp ee
  cases ee
  obtain ⟨y, z, h1, h2, rfl, rfl⟩ := chgO_some e2
  obtain ⟨l, hl, ow⟩ := own_at S h1
  cases y with
  | lst xs =>
    have h2' : (if xs.length < LIM then some (PV.lst (xs ++ [v])) else none) = some z := h2
    split at h2'
    · rename_i hlim
      cases h2'
      obtain ⟨vs, hH, tv⟩ := id ow
      refine ⟨.ref l, hl, .inl ⟨rfl, vs, .of hH⟩, as, G, ρ, D, _, _, S.w, S.r, ev1 e1, fun ws G1 H1 st1 w1 t1 => ?_⟩
      have S1 := S.adv st1 w1
      cases t1 with
      | cons t1 t2 =>
        cases t2
        obtain ⟨vs2, hH2, tv2⟩ := S1.pl i _ l h1 hl
        refine ⟨l, vs2, _, rfl, rfl, hH2, by rw [tv2.len, sizeLine_eq]; have : LIM = 1000000 := rfl; omega, ?_⟩
        exact f as σ G1 _ (.same st1.le) (S1.mutO h1 hl ⟨_, upd_same, tv2.app (.cons t1 .nil)⟩)
    · cases h2'
  | _ => cases h2
/-- xs.extend(e) -/
theorem s_ext (g : Gd T Φ N sc X) (hi : N[i]? = some x) (hv : Vis sc x) (he : PV_ Φ X e c)
    (hbase : attributeBase (.Name x np) "extend" X.env (eval (.Name x np) X.env) = eval (.Name x np) X.env := by rfl)
    (hfew : ((backTo cpos (starEach [e] X.env)).all (fun x => !x.1) && (backToKw cpos (keywordEach [] X.env)).all (fun x => x.1.isSome) && decide (([e] : List Expr).length + ([] : List Keyword).length + (if ([] : List Keyword).isEmpty then 0 else 1) < 30)) = true := by rfl)
    (hline : (apos.endLine == cpos.line) = true := by rfl) (hs : starEach [e] X.env = (false, eval e X.env) :: starEach [] X.env := by rfl) (hplain : (backTo cpos (starEach [] X.env)).any (·.1) = false := by rfl)
    (hsw : swapsWith (.Call (.Attribute (.Name x np) "extend" apos) [e] [] cpos) none pos.line X.env = pure false := by rfl)
    (hd : (x == ("__debug__" : Str)) = false := by decide) (hcd : (x == ("__classdict__" : Str)) = false := by decide) : PS_ Φ X (.Expr (.Call (.Attribute (.Name x np) "extend" apos) [e] [] cpos) pos) (.ext i c) := by
  have hA : PA_ Φ X [e] (.cons c .nil) := a_cons he a_nil hs
  refine ps_imp (ps_expr (pe_bm PySem.F.plainAttrs_list PySem.F.slot_list_extend PySem.F.type_list_extend mt_extend (pv_slot g hi hv hd hcd) hA hbase hfew hline hs hplain) hsw) fun E σ H ⟨as0, G0, H0, as, G, ρ, D, o, ρ', D', S, ee, f⟩ => ?_
  obtain ⟨⟨v, D1⟩, e1, ee⟩ := Option.bind_eq_some_iff.mp (show (ev Φ c ρ D).bind (fun r => (chgO (pExt r.1) i ρ r.2).map fun z => (Out.nx, z.1, z.2)) = some (o, ρ', D') from ee)
  obtain ⟨⟨ρ2, D2⟩, e2, ee⟩ := Option.map_eq_some_iff.mp ee
  cases ee
  obtain ⟨y, z, h1, h2, rfl, rfl⟩ := chgO_some e2
  obtain ⟨l, hl, ow⟩ := own_at S h1
  cases y with
  | lst xs =>
    cases v with
    | lst ys =>
      have h2' : (if xs.length + ys.length ≤ LIM then some (PV.lst (xs ++ ys)) else none) = some z := h2
      split at h2'
      · rename_i hlim
        cases h2'
        obtain ⟨vs, hH, tv⟩ := id ow
        refine ⟨.ref l, hl, .inl ⟨rfl, vs, .of hH⟩, as, G, ρ, D, _, _, S.w, S.r, ev1 e1, fun ws G1 H1 st1 w1 t1 => ?_⟩
        have S1 := S.adv st1 w1
        cases t1 with
        | cons t1 t2 =>
          cases t2
          cases t1 with
          | lst hG ts =>
            obtain ⟨vs2, hH2, tv2⟩ := S1.pl i _ l h1 hl
            refine ⟨l, _, vs2, _, rfl, rfl, hH2, w1.sub _ _ hG, by rw [tv2.len, ts.len]; exact line_lim hlim, ?_⟩
            exact f as σ G1 _ (.same st1.le) (S1.mutO h1 hl ⟨_, upd_same, tv2.app ts⟩)
      · cases h2'
    | _ => cases h2
  | _ => cases h2
/-- xs.insert(k, e) -/
theorem s_ins (g : Gd T Φ N sc X) (hi : N[i]? = some x) (hv : Vis sc x) (hk : PV_ Φ X k ck) (he : PV_ Φ X e c)
    (hbase : attributeBase (.Name x np) "insert" X.env (eval (.Name x np) X.env) = eval (.Name x np) X.env := by rfl)
    (hfew : ((backTo cpos (starEach [k, e] X.env)).all (fun x => !x.1) && (backToKw cpos (keywordEach [] X.env)).all (fun x => x.1.isSome) && decide (([k, e] : List Expr).length + ([] : List Keyword).length + (if ([] : List Keyword).isEmpty then 0 else 1) < 30)) = true := by rfl)
    (hline : (apos.endLine == cpos.line) = true := by rfl) (hs : starEach [k, e] X.env = (false, eval k X.env) :: starEach [e] X.env := by rfl) (hs2 : starEach [e] X.env = (false, eval e X.env) :: starEach [] X.env := by rfl) (hplain : (backTo cpos (starEach [e] X.env)).any (·.1) = false := by rfl)
    (hsw : swapsWith (.Call (.Attribute (.Name x np) "insert" apos) [k, e] [] cpos) none pos.line X.env = pure false := by rfl)
    (hd : (x == ("__debug__" : Str)) = false := by decide) (hcd : (x == ("__classdict__" : Str)) = false := by decide) : PS_ Φ X (.Expr (.Call (.Attribute (.Name x np) "insert" apos) [k, e] [] cpos) pos) (.ins i ck c) := by
  have hA : PA_ Φ X [k, e] (.cons ck (.cons c .nil)) := a_cons hk (a_cons he a_nil hs2) hs
  refine ps_imp (ps_expr (pe_bm PySem.F.plainAttrs_list PySem.F.slot_list_insert PySem.F.type_list_insert mt_insert (pv_slot g hi hv hd hcd) hA hbase hfew hline hs hplain) hsw) fun E σ H ⟨as0, G0, H0, as, G, ρ, D, o, ρ', D', S, ee, f⟩ => ?_
  obtain ⟨⟨q, D0⟩, e0, ee⟩ := Option.bind_eq_some_iff.mp (show (ev Φ ck ρ D).bind (fun q => (ev Φ c ρ q.2).bind fun r => (chgO (pInsAt q.1 r.1) i ρ r.2).map fun z => (Out.nx, z.1, z.2)) = some (o, ρ', D') from ee)
  obtain ⟨⟨v, D1⟩, e1, ee⟩ := Option.bind_eq_some_iff.mp ee
  obtain ⟨⟨ρ2, D2⟩, e2, ee⟩ := Option.map_eq_some_iff.mp ee
  cases ee
  obtain ⟨y, z, h1, h2, rfl, rfl⟩ := chgO_some e2
  obtain ⟨l, hl, ow⟩ := own_at S h1
  cases y with
  | lst xs =>
    cases q with
    | int j =>
      have h2' : (if 0 ≤ j ∧ j ≤ xs.length ∧ xs.length < LIM then some (PV.lst (xs.take j.toNat ++ v :: xs.drop j.toNat)) else none) = some z := h2
      split at h2'
      · rename_i hlim
        cases h2'
        obtain ⟨vs, hH, tv⟩ := id ow
        refine ⟨.ref l, hl, .inl ⟨rfl, vs, .of hH⟩, as, G, ρ, D, [.int j, v], _, S.w, S.r, ev2 e0 e1, fun ws G1 H1 st1 w1 t1 => ?_⟩
        have S1 := S.adv st1 w1
        cases t1 with
        | cons t1 t2 =>
          cases t1
          cases t2 with
          | cons t2 t3 =>
            cases t3
            obtain ⟨vs2, hH2, tv2⟩ := S1.pl i _ l h1 hl
            have hL : LIM = 1000000 := rfl
            refine ⟨l, vs2, j, _, rfl, rfl, hH2, by rw [tv2.len, sizeLine_eq]; omega, hlim.1, by omega, ?_⟩
            refine f as σ G1 _ (.same st1.le) (S1.mutO h1 hl ⟨_, upd_same, ?_⟩)
            rw [List.append_assoc]
            exact (tv2.take _).app (.cons t2 (tv2.drop _))
      · cases h2'
    | _ => cases h2
  | _ => cases h2
theorem ints_tr {as : List Addr} {K : PySem.W.Frag} {G : Hp} {vs : List V} {xs : List PV} {ns : List Int} (t : TrS as K G vs xs) (h : mapO intOf xs = some ns) : vs = ns.map V.int := by
  have := mapO_ints h
  subst this
  exact t.toInts
theorem erase_first {ns : List Int} {n : Int} (h : n ∈ ns) : ∃ j, ns[j]? = some n ∧ (∀ m : Nat, m < j → ns[m]? ≠ some n) ∧ ns.eraseIdx j = ns.erase n := by
  induction ns with
  | nil => cases h
  | cons a r ih =>
    by_cases e : a = n
    · subst e
      exact ⟨0, rfl, fun m hm => absurd hm (Nat.not_lt_zero m), by simp⟩
    · rcases List.mem_cons.mp h with z | z
      · exact absurd z.symm e
      · obtain ⟨j, h1, h2, h3⟩ := ih z
        refine ⟨j + 1, by simpa using h1, fun m hm => ?_, ?_⟩
        · cases m with
          | zero => simpa using e
          | succ m => simpa using h2 m (by omega)
        · rw [List.eraseIdx_cons_succ, h3, List.erase_cons_tail (by simpa using e)]
/-- xs.remove(e), ints -/
theorem s_rem (g : Gd T Φ N sc X) (hi : N[i]? = some x) (hv : Vis sc x) (he : PV_ Φ X e c)
    (hbase : attributeBase (.Name x np) "remove" X.env (eval (.Name x np) X.env) = eval (.Name x np) X.env := by rfl)
    (hfew : ((backTo cpos (starEach [e] X.env)).all (fun x => !x.1) && (backToKw cpos (keywordEach [] X.env)).all (fun x => x.1.isSome) && decide (([e] : List Expr).length + ([] : List Keyword).length + (if ([] : List Keyword).isEmpty then 0 else 1) < 30)) = true := by rfl)
    (hline : (apos.endLine == cpos.line) = true := by rfl) (hs : starEach [e] X.env = (false, eval e X.env) :: starEach [] X.env := by rfl) (hplain : (backTo cpos (starEach [] X.env)).any (·.1) = false := by rfl)
    (hsw : swapsWith (.Call (.Attribute (.Name x np) "remove" apos) [e] [] cpos) none pos.line X.env = pure false := by rfl)
    (hd : (x == ("__debug__" : Str)) = false := by decide) (hcd : (x == ("__classdict__" : Str)) = false := by decide) : PS_ Φ X (.Expr (.Call (.Attribute (.Name x np) "remove" apos) [e] [] cpos) pos) (.rem i c) := by
  have hA : PA_ Φ X [e] (.cons c .nil) := a_cons he a_nil hs
  refine ps_imp (ps_expr (pe_bm PySem.F.plainAttrs_list PySem.F.slot_list_remove PySem.F.type_list_remove mt_remove (pv_slot g hi hv hd hcd) hA hbase hfew hline hs hplain) hsw) fun E σ H ⟨as0, G0, H0, as, G, ρ, D, o, ρ', D', S, ee, f⟩ => ?_
  obtain ⟨⟨v, D1⟩, e1, ee⟩ := Option.bind_eq_some_iff.mp (show (ev Φ c ρ D).bind (fun r => (chgO (pRem r.1) i ρ r.2).map fun z => (Out.nx, z.1, z.2)) = some (o, ρ', D') from ee)
  obtain ⟨⟨ρ2, D2⟩, e2, ee⟩ := Option.map_eq_some_iff.mp ee
  cases ee
  obtain ⟨y, z, h1, h2, rfl, rfl⟩ := chgO_some e2
  obtain ⟨l, hl, ow⟩ := own_at S h1
  cases y with
  | lst xs =>
    cases v with
    | int n =>
      obtain ⟨ns, h3, h4⟩ := Option.bind_eq_some_iff.mp (show (mapO intOf xs).bind (fun ns => if n ∈ ns then some (PV.lst ((ns.erase n).map .int)) else none) = some z from h2)
      split at h4
      · rename_i hmem
        cases h4
        obtain ⟨vs, hH, tv⟩ := id ow
        refine ⟨.ref l, hl, .inl ⟨rfl, vs, .of hH⟩, as, G, ρ, D, _, _, S.w, S.r, ev1 e1, fun ws G1 H1 st1 w1 t1 => ?_⟩
        have S1 := S.adv st1 w1
        cases t1 with
        | cons t1 t2 =>
          cases t2
          cases t1
          obtain ⟨vs2, hH2, tv2⟩ := S1.pl i _ l h1 hl
          have := ints_tr tv2 h3
          subst this
          obtain ⟨j, q1, q2, q3⟩ := erase_first hmem
          refine ⟨l, ns, n, j, rfl, rfl, hH2, q1, q2, ?_⟩
          rw [q3]
          exact f as σ G1 _ (.same st1.le) (S1.mutO h1 hl ⟨_, upd_same, TrS.ints _⟩)
      · cases h4
    | _ => cases h2
  | _ => cases h2
/-- target = xs.pop(), target = xs.pop(0) -/
theorem dropLast_tr {as : List Addr} {K : PySem.W.Frag} {G : Hp} {vs : List V} {xs : List PV} (t : TrS as K G vs xs) : TrS as K G vs.dropLast xs.dropLast := by
  rw [List.dropLast_eq_take, List.dropLast_eq_take, t.len]
  exact t.take _
theorem s_pop {pt : Pat} (g : Gd T Φ N sc X) (hi : N[i]? = some x) (hv : Vis sc x) (hp : PP_ X tg pt)
    (hbase : attributeBase (.Name x np) "pop" X.env (eval (.Name x np) X.env) = eval (.Name x np) X.env := by rfl) (hline : (apos.endLine == cpos.line) = true := by rfl)
    (hs : swapsWithSole [tg] (.Call (.Attribute (.Name x np) "pop" apos) [] [] cpos) pos.line X.env = pure false := by rfl) (hw : swappedStores [tg] (.Call (.Attribute (.Name x np) "pop" apos) [] [] cpos) X.env = pure none := by rfl)
    (h1 : (assignEach [tg] X.env).map (·.2) = [assign tg X.env] := by rfl)
    (hd : (x == ("__debug__" : Str)) = false := by decide) (hcd : (x == ("__classdict__" : Str)) = false := by decide) : PS_ Φ X (.Assign [tg] (.Call (.Attribute (.Name x np) "pop" apos) [] [] cpos) pos) (.pop pt i) := by
  refine ps_imp (ps_asg (pe_bm0 PySem.F.plainAttrs_list PySem.F.slot_list_pop PySem.F.type_list_pop mt_pop (pv_slot g hi hv hd hcd) hbase hline) hp hs hw h1) fun E σ H ⟨as0, G0, H0, as, G, ρ, D, o, ρ', D', S, ee, f⟩ => ?_
  have ee : (match ρ[i]? with
    | some (some (true, .lst xs)) => (xs.getLast?).bind fun y => (bindP pt y (ρ.set i (some (true, .lst xs.dropLast)))).map fun ρ1 => (Out.nx, ρ1, D)
    | _ => none) = some (o, ρ', D') := ee
  split at ee
  · rename_i xs h1
    obtain ⟨y, h2, ee⟩ := Option.bind_eq_some_iff.mp ee
    obtain ⟨ρ1, h3, ee⟩ := Option.map_eq_some_iff.mp ee
    cases ee
    obtain ⟨l, hl, vs, hH, tv⟩ := own_at S h1
    have h4 : xs[xs.length - 1]? = some y := by rw [← List.getLast?_eq_getElem?]; exact h2
    obtain ⟨v, h5, t5⟩ := tv.get h4
    refine ⟨.ref l, hl, .inl ⟨rfl, vs, .of hH⟩, l, vs, v, rfl, rfl, hH, by rw [tv.len]; exact h5, ?_⟩
    have S1 := S.mutO (y := .lst xs.dropLast) (o := .lst vs.dropLast) h1 hl ⟨_, upd_same, dropLast_tr tv⟩
    exact ⟨as, G, _, _, y, _, S1.w, S1.r, t5, h3, fun σ' r' s' => f as σ' G _ (.refl _ _) (S1.bind h3 r' s')⟩
  · cases ee
theorem s_pop0 {pt : Pat} {j : Nat} {zp : Pos} (g : Gd T Φ N sc X) (hi : N[i]? = some x) (hv : Vis sc x) (hp : PP_ X tg pt)
    (hbase : attributeBase (.Name x np) "pop" X.env (eval (.Name x np) X.env) = eval (.Name x np) X.env := by rfl)
    (hfew : ((backTo cpos (starEach [.Constant (.int 0) j zp] X.env)).all (fun x => !x.1) && (backToKw cpos (keywordEach [] X.env)).all (fun x => x.1.isSome) && decide (([.Constant (.int 0) j zp] : List Expr).length + ([] : List Keyword).length + (if ([] : List Keyword).isEmpty then 0 else 1) < 30)) = true := by rfl)
    (hline : (apos.endLine == cpos.line) = true := by rfl) (hst : starEach [.Constant (.int 0) j zp] X.env = (false, eval (.Constant (.int 0) j zp) X.env) :: starEach [] X.env := by rfl) (hplain : (backTo cpos (starEach [] X.env)).any (·.1) = false := by rfl)
    (hs : swapsWithSole [tg] (.Call (.Attribute (.Name x np) "pop" apos) [.Constant (.int 0) j zp] [] cpos) pos.line X.env = pure false := by rfl) (hw : swappedStores [tg] (.Call (.Attribute (.Name x np) "pop" apos) [.Constant (.int 0) j zp] [] cpos) X.env = pure none := by rfl)
    (h1 : (assignEach [tg] X.env).map (·.2) = [assign tg X.env] := by rfl)
    (hd : (x == ("__debug__" : Str)) = false := by decide) (hcd : (x == ("__classdict__" : Str)) = false := by decide) : PS_ Φ X (.Assign [tg] (.Call (.Attribute (.Name x np) "pop" apos) [.Constant (.int 0) j zp] [] cpos) pos) (.pop0 pt i) := by
  refine ps_imp (ps_asg (pe_bm PySem.F.plainAttrs_list PySem.F.slot_list_pop PySem.F.type_list_pop mt_popAt (pv_slot g hi hv hd hcd) (pa_cons (pe_int (i := 0)) pa_nil hst) hbase hfew hline hst hplain) hp hs hw h1) fun E σ H ⟨as0, G0, H0, as, G, ρ, D, o, ρ', D', S, ee, f⟩ => ?_
  have ee : (match ρ[i]? with
    | some (some (true, .lst (y :: xs))) => (bindP pt y (ρ.set i (some (true, .lst xs)))).map fun ρ1 => (Out.nx, ρ1, D)
    | _ => none) = some (o, ρ', D') := ee
  split at ee
  · rename_i y xs h1
    obtain ⟨ρ1, h3, ee⟩ := Option.map_eq_some_iff.mp ee
    cases ee
    obtain ⟨l, hl, vs, hH, tv⟩ := own_at S h1
    cases tv with
    | cons t0 tv =>
      rename_i v ws
      refine ⟨.ref l, hl, .inl ⟨rfl, _, .of hH⟩, l, v :: ws, 0, 0, v, rfl, rfl, hH, by omega, by omega, ?_, rfl, ?_⟩
      · unfold seqIndex?
        simp
      · have S1 := S.mutO (y := .lst xs) (o := .lst ws) h1 hl ⟨_, upd_same, tv⟩
        exact ⟨as, G, _, _, y, _, S1.w, S1.r, t0, h3, fun σ' r' s' => f as σ' G _ (.refl _ _) (S1.bind h3 r' s')⟩
  · cases ee
end
/-- a target pattern = value -/
theorem s_asgP {pt : Pat} (he : PV_ Φ X e c) (hp : PP_ X tg pt) (hs : swapsWithSole [tg] e pos.line X.env = pure false := by rfl) (hw : swappedStores [tg] e X.env = pure none := by rfl)
    (h1 : (assignEach [tg] X.env).map (·.2) = [assign tg X.env] := by rfl) : PS_ Φ X (.Assign [tg] e pos) (.asgP pt c) := ps_imp (ps_asg he hp hs hw h1) fun E σ H ⟨as0, G0, H0, as, G, ρ, D, o, ρ', D', S, ee, f⟩ => by
  obtain ⟨⟨x, D1⟩, e1, ee⟩ := Option.bind_eq_some_iff.mp ee
  obtain ⟨ρ1, e2, ee⟩ := Option.map_eq_some_iff.mp ee
  cases ee
  refine ⟨as, G, ρ, D, x, D1, S.w, S.r, e1, fun v G1 H1 st1 w1 t1 => ?_⟩
  have S1 := S.adv st1 w1
  exact ⟨as, G1, D1, ρ, x, _, w1, S1.r, t1, e2, fun σ' r' s' => f as σ' G1 H1 (.same st1.le) (S1.bind e2 r' s')⟩
/-- name op= e, ints -/
def opIp : Bo → Operator := boT
def rIp (op : Bo) : TIp := fun x y H Q => ∃ i j z, x = .int i ∧ y = .int j ∧ pIp op (.int i) (.int j) = some (.int z) ∧ Q (.int z) H
theorem ip_M (op : Bo) : PIp X (boT op) (rIp op) := by
  intro pins s σ H x y v u Q I rx ry ⟨i, j, z, ex, ey, e, q⟩
  cases op <;> first | (cases e; done) | skip
  · cases e
    exact ip_add pins s σ H x y v u Q I rx ry ⟨i, j, ex, ey, q⟩
  · cases e
    exact ip_sub pins s σ H x y v u Q I rx ry ⟨i, j, ex, ey, q⟩
theorem pIp_ints {op : Bo} {x y z : PV} (h : pIp op x y = some z) : ∃ i j k, x = .int i ∧ y = .int j ∧ z = .int k := by
  unfold pIp at h
  split at h
  · cases h; exact ⟨_, _, _, rfl, rfl, rfl⟩
  · cases h; exact ⟨_, _, _, rfl, rfl, rfl⟩
  · cases h
theorem s_aug {i : Nat} {x : Str} {op : Bo} {o : Operator} {pos' : Pos} (g : Gd T Φ N sc X) (hi : N[i]? = some x) (hx : Loc sc x) (he : PV_ Φ X e c) (ho : o = boT op := by rfl)
    (hf : X.fn x = true ∨ sc.names.lookup x = some .local := by first | exact .inl rfl | exact .inr rfl | assumption) : PS_ Φ X (.AugAssign (.Name x pos') o e pos) (.aug i op c) := by
  subst ho
  refine ps_imp (ps_aug (i := i) (by rw [g.n]; exact g.nd) (by rw [g.n]; exact hi) (by rw [g.sc]; exact hx) he (ip_M op) (by rw [g.sc]; exact hf)) fun E σ H ⟨as0, G0, H0, as, G, ρ, D, o, ρ', D', S, ee, f⟩ => ?_
  obtain ⟨y, e1, ee⟩ := Option.bind_eq_some_iff.mp (show (getS ρ i).bind (fun x => (ev Φ c ρ D).bind fun r => (pIp op x r.1).map fun z => (Out.nx, ρ.set i (some (false, z)), r.2)) = some (o, ρ', D') from ee)
  obtain ⟨⟨w, D1⟩, e2, ee⟩ := Option.bind_eq_some_iff.mp ee
  obtain ⟨z, e3, ee⟩ := Option.map_eq_some_iff.mp ee
  cases ee
  obtain ⟨a, b, k, rfl, ew, rfl⟩ := pIp_ints e3
  have ew : w = .int b := ew
  subst ew
  unfold getS at e1
  split at e1
  · rename_i z' hz
    cases e1
    obtain ⟨v, e5, t⟩ := S.r.frz i _ hz
    cases t
    refine ⟨_, e5, as, G, ρ, D, _, _, S.w, S.r, e2, fun v G1 H1 st1 w1 t1 => ?_⟩
    cases t1
    exact ⟨a, b, k, rfl, rfl, e3, f as _ G1 H1 (.same st1.le) ((S.adv st1 w1).put i (.int k))⟩
  · cases e1
/-- an item stored -/
theorem set_M (hu : X.A.units + 1 < cLine) : PSet X (fun o i v H Q => rSetL o i v H Q ∨ rSetD o i v H Q) := by
  intro pins s σ H o i v ov iv u Q I ro ri rv h
  rcases h with h | h
  · exact set_list pins s σ H o i v ov iv u Q I ro ri rv h
  · exact set_dict hu pins s σ H o i v ov iv u Q I ro ri rv h
/-- the store, by trees: at the address a stands y, y with the item is z -/
theorem put_ok {as : List Addr} {K : PySem.W.Frag} {G H : Hp} {D : DS} (w : Wd as K G H D) {a : Addr} {y kx vx z : PV} {kv v : V} (ow : OwnO as K G H a y) (tk : Tr as K G kv kx) (tv : Tr as K G v vx) (h : pSet y kx vx = some z) :
    ∃ o, OwnO as K G (upd H a o) a z ∧ ∀ Q : Hp → Prop, Q (upd H a o) → (rSetL (.ref a) kv v H Q ∨ rSetD (.ref a) kv v H Q) := by
  have hL : LIM = 1000000 := rfl
  cases y with
  | lst xs =>
    cases kx with
    | int n =>
      obtain ⟨j, h1, h2⟩ := Option.map_eq_some_iff.mp (show (MP.ixN xs.length n).map (fun j => PV.lst (xs.set j vx)) = some z from h)
      subst h2
      cases tk
      obtain ⟨vs, hH, ts⟩ := ow
      refine ⟨.lst (vs.set j v), ⟨_, upd_same, ts.set j tv⟩, fun Q q => .inl ⟨a, vs, n, j, rfl, rfl, hH, by rw [ts.len]; exact h1, q⟩⟩
    | _ => cases h
  | dct t kvs =>
    have h' : (if (isKey t kx && decide (kvs.length < LIM)) = true then some (PV.dct t (dPut kx vx kvs)) else none) = some z := h
    split at h'
    · rename_i hk
      rw [Bool.and_eq_true, decide_eq_true_eq] at hk
      cases h'
      rcases ow with ⟨rfl, ks, hH, ts⟩ | ⟨rfl, ks, hH, ts⟩
      · obtain ⟨kk, rfl⟩ := isKey0 hk.1
        have ek := tk.key
        subst ek
        exact ⟨.dK (putK ks kk v), .inl ⟨rfl, _, upd_same, ts.put kk tv⟩, fun Q q => .inr ⟨a, _, rfl, .inl ⟨ks, kk, hH, rfl, by rw [ts.len, sizeLine_eq]; omega, rfl⟩, q⟩⟩
      · obtain ⟨kk, rfl⟩ := isKeyT hk.1
        exact absurd hk.1 (by simp [isKey])
    · cases h'
  | _ => cases h
theorem chg_ok {as0 as : List Addr} {K : PySem.W.Frag} {G0 H0 G H : Hp} {σ : L2.St} {ρ ρ' : Envi} {D D' : DS} {f : PV → Option PV} {i : Nat} (S : Sti as0 as K G0 H0 G H σ ρ D) (h : chg f i ρ D = some (ρ', D')) (hf : ∀ x, f (.lck x) = none) :
    ∃ a x y, σ[i]? = some (some (.ref a)) ∧ OwnO as K G H a x ∧ f x = some y ∧ ∀ o, OwnO as K G (upd H a o) a y → Sti as0 as K G0 H0 G (upd H a o) σ ρ' D' := by
  unfold chg at h
  split at h
  · rename_i x hx
    obtain ⟨y, h1, h2⟩ := Option.map_eq_some_iff.mp h
    cases h2
    obtain ⟨a, e, ow⟩ := own_at S hx
    exact ⟨a, x, y, e, ow, h1, fun o ow' => S.mutO hx e ow'⟩
  · rename_i j hx
    obtain ⟨x, h0, h1⟩ := Option.bind_eq_some_iff.mp h
    obtain ⟨y, h2, h3⟩ := Option.map_eq_some_iff.mp h1
    cases h3
    obtain ⟨v, e, t⟩ := S.r.frz i _ hx
    cases t with
    | shr ha =>
      have ow := S.w.sh j _ x ha h0
      refine ⟨_, x, y, e, ?_, h2, fun o ow' => S.mutS ha ow'⟩
      cases x with
      | lck z => rw [hf] at h2; cases h2
      | lst xs => exact ow
      | dct t kvs => exact ow
      | _ => exact absurd ow id
  · cases h
theorem pSet_lck (k v x : PV) : pSet (.lck x) k v = none := rfl
/-- xs[k] = e, d[k] = e -/
theorem s_setI {i : Nat} {x : Str} {np pos' : Pos} (g : Gd T Φ N sc X) (hi : N[i]? = some x) (hv : Vis sc x) (he : PV_ Φ X e c) (hk : PV_ Φ X k ck)
    (ha : ∀ v, assign (.Subscript (.Name x np) k pos') X.env v = (do
      let ov ← holding [v] (eval (.Name x np) X.env)
      let iv ← holding [v, ov] (eval k X.env)
      standAt pos'
      holding [v, ov, iv] (setItem ov iv v)
      release [v, ov, iv] []) := by intro _; rfl)
    (hs : swapsWithSole [.Subscript (.Name x np) k pos'] e pos.line X.env = pure false := by rfl) (hw : swappedStores [.Subscript (.Name x np) k pos'] e X.env = pure none := by rfl)
    (h1 : (assignEach [.Subscript (.Name x np) k pos'] X.env).map (·.2) = [assign (.Subscript (.Name x np) k pos') X.env] := by rfl)
    (hd : (x == ("__debug__" : Str)) = false := by decide) (hcd : (x == ("__classdict__" : Str)) = false := by decide) : PS_ Φ X (.Assign [.Subscript (.Name x np) k pos'] e pos) (.setI i ck c) := by
  refine ps_imp (ps_asg he (pg_sub (pv_slot g hi hv hd hcd) hk (set_M (by have := g.un; omega)) ha) hs hw h1) fun E σ H ⟨as0, G0, H0, as, G, ρ, D, o, ρ', D', S, ee, f⟩ => ?_
  obtain ⟨⟨vx, D1⟩, e1, ee⟩ := Option.bind_eq_some_iff.mp (show (ev Φ c ρ D).bind (fun r => (ev Φ ck ρ r.2).bind fun q => (chg (fun y => pSet y q.1 r.1) i ρ q.2).map fun z => (Out.nx, z.1, z.2)) = some (o, ρ', D') from ee)
  obtain ⟨⟨kx, D2⟩, e2, ee⟩ := Option.bind_eq_some_iff.mp ee
  obtain ⟨⟨ρ2, D3⟩, e3, ee⟩ := Option.map_eq_some_iff.mp ee
  cases ee
  refine ⟨as, G, ρ, D, vx, D1, S.w, S.r, e1, fun v G1 H1 st1 w1 t1 => ?_⟩
  have S1 := S.adv st1 w1
  have slot : ∃ a, σ[i]? = some (some (.ref a)) := by
    unfold chg at e3
    split at e3
    · rename_i y hy
      obtain ⟨a, e, _⟩ := S.r.own i y hy
      exact ⟨a, e⟩
    · rename_i j hy
      obtain ⟨w, e, t⟩ := S.r.frz i _ hy
      cases t
      exact ⟨_, e⟩
    · cases e3
  obtain ⟨a, ea⟩ := slot
  refine ⟨_, ea, as, G1, ρ, D1, kx, D2, w1, S1.r, e2, fun kv G2 H2 st2 w2 t2 => ?_⟩
  have S2 := S1.adv st2 w2
  obtain ⟨a', y, z, ea', ow, hz, fin⟩ := chg_ok S2 e3 (fun x => pSet_lck _ _ x)
  rw [ea] at ea'
  cases ea'
  obtain ⟨o, ow', q⟩ := put_ok w2 ow t2 (t1.up st2.le) hz
  exact q _ (f as σ G2 _ (.same (st1.le.trans st2.le)) (fin o ow'))
/-! ### several targets -/
inductive TrXs (as : List Addr) (K : PySem.W.Frag) (G H : Hp) : List Bool → List V → List PV → List Addr → Prop
  | nil : TrXs as K G H [] [] [] []
  | val {v : V} {x : PV} {os : List Bool} {vs : List V} {xs : List PV} {ps : List Addr} : Tr as K G v x → TrXs as K G H os vs xs ps → TrXs as K G H (false :: os) (v :: vs) (x :: xs) ps
  | own {p : Addr} {x : PV} {os : List Bool} {vs : List V} {xs : List PV} {ps : List Addr} : G p = none → p ∉ as → OwnO as K G H p x → p ∉ ps → TrXs as K G H os vs xs ps → TrXs as K G H (true :: os) (.ref p :: vs) (x :: xs) (p :: ps)
theorem own_up {as : List Addr} {K : PySem.W.Frag} {G H G' H' : Hp} (st : Stp as G H G' H') {p : Addr} {x : PV} (hG : G p = none) (ha : p ∉ as) (ow : OwnO as K G H p x) : G' p = none ∧ OwnO as K G' H' p x := by
  have hs := ow.some
  refine ⟨?_, ?_⟩
  · cases q : G' p with
    | none => rfl
    | some u =>
      rcases st.nw p (by rw [q]; exact fun z => nomatch z) with z | z
      · exact absurd hG z
      · exact absurd z hs
  · cases q : H p with
    | none => exact absurd q hs
    | some u =>
      have := ow.up (G' := G') (H' := H') st.le ((st.kp p u ha q).trans q.symm) []
      simpa using this
theorem TrXs.up {as : List Addr} {K : PySem.W.Frag} {G H G' H' : Hp} (st : Stp as G H G' H') : ∀ {os : List Bool} {vs : List V} {xs : List PV} {ps : List Addr}, TrXs as K G H os vs xs ps → TrXs as K G' H' os vs xs ps
  | _, _, _, _, .nil => .nil
  | _, _, _, _, .val t r => .val (t.up st.le) (TrXs.up st r)
  | _, _, _, _, .own hG ha ow n r => .own (own_up st hG ha ow).1 ha (own_up st hG ha ow).2 n (TrXs.up st r)
theorem TrXs.some {as : List Addr} {K : PySem.W.Frag} {G H : Hp} : ∀ {os : List Bool} {vs : List V} {xs : List PV} {ps : List Addr}, TrXs as K G H os vs xs ps → ∀ p ∈ ps, H p ≠ none
  | _, _, _, _, .nil, _, h => absurd h (by simp)
  | _, _, _, _, .val _ r, p, h => TrXs.some r p h
  | _, _, _, _, .own _ _ ow _ r, p, h => by
    rcases List.mem_cons.mp h with e | h
    · rw [e]; exact ow.some
    · exact TrXs.some r p h
theorem TrXs.len {as : List Addr} {K : PySem.W.Frag} {G H : Hp} : ∀ {os : List Bool} {vs : List V} {xs : List PV} {ps : List Addr}, TrXs as K G H os vs xs ps → vs.length = xs.length
  | _, _, _, _, .nil => rfl
  | _, _, _, _, .val _ r => congrArg Nat.succ (TrXs.len r)
  | _, _, _, _, .own _ _ _ _ r => congrArg Nat.succ (TrXs.len r)
def tX (K : PySem.W.Frag) (Φ : Fns) (os : List Bool) (c : CEs) : TA := fun σ H Q => ∃ as G ρ D xs D', Wd as K G H D ∧ Rp as K G H σ ρ ∧ evs Φ c ρ D = some (xs, D') ∧ ∀ vs ps G' H', Stp as G H G' H' → Wd as K G' H' D' → TrXs as K G' H' os vs xs ps → (∀ p ∈ ps, H p = none) → Q vs H'
abbrev PX_ (Φ : Fns) (X : Cx) (e : List Expr) (os : List Bool) (c : CEs) : Prop := PA X e (tX X.K Φ os c)
theorem x_nil : PX_ Φ X [] [] .nil := pa_imp pa_nil fun σ H Q ⟨as, G, ρ, D, y, D', w, r, ee, f⟩ => by
  cases ee
  exact f [] [] G H (Stp.refl _ _ _) w .nil (fun p h => absurd h (by simp))
theorem x_val {es : List Expr} {os : List Bool} {c : CE} {cs : CEs} (ha : PV_ Φ X e c) (hr : PX_ Φ X es os cs) (hs : starEach (e :: es) X.env = (false, eval e X.env) :: starEach es X.env := by rfl) : PX_ Φ X (e :: es) (false :: os) (.cons c cs) :=
  pa_imp (pa_cons ha hr hs) fun σ H Q ⟨as, G, ρ, D, y, D', w, r, ee, f⟩ => by
    obtain ⟨⟨x, D1⟩, e1, ee⟩ := Option.bind_eq_some_iff.mp ee
    obtain ⟨⟨xs, D2⟩, e2, ee⟩ := Option.map_eq_some_iff.mp ee
    cases ee
    exact ⟨as, G, ρ, D, x, D1, w, r, e1, fun v1 G1 H1 st1 w1 t1 => ⟨as, G1, ρ, D1, xs, _, w1, r.up st1, e2, fun v2 ps G2 H2 st2 w2 t2 hn => f _ ps G2 H2 (st1.trans st2) w2 (.val (t1.up st2.le) t2) fun p hp => none_back st1 (hn p hp)⟩⟩
theorem x_own {es : List Expr} {os : List Bool} {c : CE} {cs : CEs} (ha : PF_ Φ X e c) (hr : PX_ Φ X es os cs) (hs : starEach (e :: es) X.env = (false, eval e X.env) :: starEach es X.env := by rfl) : PX_ Φ X (e :: es) (true :: os) (.cons c cs) :=
  pa_imp (pa_cons ha hr hs) fun σ H Q ⟨as, G, ρ, D, y, D', w, r, ee, f⟩ => by
    obtain ⟨⟨x, D1⟩, e1, ee⟩ := Option.bind_eq_some_iff.mp ee
    obtain ⟨⟨xs, D2⟩, e2, ee⟩ := Option.map_eq_some_iff.mp ee
    cases ee
    refine ⟨as, G, ρ, D, x, D1, w, r, e1, fun p1 G1 H1 st1 w1 hp1 hG1 ow1 => ⟨as, G1, ρ, D1, xs, _, w1, r.up st1, e2, fun v2 ps G2 H2 st2 w2 t2 hn => ?_⟩⟩
    have ha1 : p1 ∉ as := fun m => w.some m hp1
    obtain ⟨g2, o2⟩ := own_up st2 hG1 ha1 ow1
    refine f _ (p1 :: ps) G2 H2 (st1.trans st2) w2 (.own g2 ha1 o2 (fun m => ow1.some (hn p1 m)) t2) fun p hp => ?_
    rcases List.mem_cons.mp hp with e | hp
    · rw [e]; exact hp1
    · exact none_back st1 (hn p hp)
def setN (σ : L2.St) : List Nat → List V → L2.St
  | i :: is, v :: vs => setN (σ.set i (some v)) is vs
  | _, _ => σ
def nms : List Nat → List Tg
  | [] => []
  | i :: r => .nm i :: nms r
theorem Av.set {p : Addr} {σ : L2.St} {ρ : Envi} (av : Av p σ ρ) (i : Nat) {v : V} {o : Bool} {x : PV} (h : o = true → v ≠ .ref p) : Av p (σ.set i (some v)) (ρ.set i (some (o, x))) := fun j y h1 h2 => by
  rcases set_get h1 with ⟨e, e2, hl⟩ | ⟨ne, h1⟩
  · subst e
    cases e2
    rcases set_get h2 with ⟨_, e3, _⟩ | ⟨ne, _⟩
    · cases e3
      exact h rfl rfl
    · exact ne rfl
  · rw [List.getElem?_set_ne ne] at h2
    exact av j y h1 h2
/-- the values stored in their slots -/
theorem Sti.putN {as0 as : List Addr} {K : PySem.W.Frag} {G0 H0 G H : Hp} {D : DS} : ∀ {is : List Nat} {os : List Bool} {vs : List V} {xs : List PV} {ps : List Addr} {σ : L2.St} {ρ ρ' : Envi} {D' : DS}, Sti as0 as K G0 H0 G H σ ρ D → TrXs as K G H os vs xs ps → (∀ p ∈ ps, Av p σ ρ ∧ H0 p = none) →
    storeT Φ (nms is) os xs ρ D = some (ρ', D') → D' = D ∧ Sti as0 as K G0 H0 G H (setN σ is vs) ρ' D
  | [], _, _, _, _, σ, ρ, ρ', D', S, .nil, _, h => by
    have h' : some (ρ, D) = some (ρ', D') := h
    cases h'
    exact ⟨rfl, S⟩
  | [], _, _, _, _, σ, ρ, ρ', D', S, .val _ _, _, h => by cases h
  | [], _, _, _, _, σ, ρ, ρ', D', S, .own _ _ _ _ _, _, h => by cases h
  | _ :: _, _, _, _, _, σ, ρ, ρ', D', S, .nil, _, h => by cases h
  | i :: is, _, _, _, _, σ, ρ, ρ', D', S, .val (v := v) (x := x) (os := os) (xs := xs) t r, ha, h => by
    have h' : storeT Φ (nms is) os xs (ρ.set i (some (false, x))) D = some (ρ', D') := h
    have r2 := Sti.putN (is := is) (σ := σ.set i (some v)) (ρ := ρ.set i (some (false, x))) (S.put i t) r (fun p hp => ⟨(ha p hp).1.set i (o := false) (x := x) (fun z => absurd z (by decide)), (ha p hp).2⟩) h'
    exact r2
  | i :: is, _, _, _, _, σ, ρ, ρ', D', S, .own (p := p) (x := x) (os := os) (xs := xs) hG hm ow n r, ha, h => by
    have h' : storeT Φ (nms is) os xs (ρ.set i (some (true, x))) D = some (ρ', D') := h
    have hp := ha p List.mem_cons_self
    have r2 := Sti.putN (is := is) (σ := σ.set i (some (.ref p))) (ρ := ρ.set i (some (true, x))) (S.putO i hp.2 hG hm ow hp.1) r (fun q hq => ⟨(ha q (List.mem_cons_of_mem _ hq)).1.set i (fun _ z => n (by have e := V.ref.inj z; rw [e]; exact hq)), (ha q (List.mem_cons_of_mem _ hq)).2⟩) h'
    exact r2
theorem par_ok {K : PySem.W.Frag} {is : List Nat} {os : List Bool} {cs : CEs} {E : Ends} {σ : L2.St} {H : Hp} {R : List V → Hp → Prop} (h : sS K Φ (.par (nms is) os cs) E σ H)
    (hR : ∀ as0 as as' G0 H0 G1 H1 ρ xs vs ps D1, Sti as0 as K G0 H0 G1 H1 σ ρ D1 → TrXs as K G1 H1 os vs xs ps → vs.length = cs.len → (∀ p ∈ ps, Av p σ ρ ∧ H0 p = none) → (∀ G2 H2, Le G1 G2 → Sti as0 as K G0 H0 G2 H2 σ ρ D1 → TrXs as K G2 H2 os vs xs ps → E.nx (setN σ is vs) H2) → as' = as → R vs H1) : tX K Φ os cs σ H R := by
  obtain ⟨as0, G0, H0, as, G, ρ, D, o, ρ', D', S, ee, f⟩ := h
  obtain ⟨⟨xs, D1⟩, e1, ee⟩ := Option.bind_eq_some_iff.mp (show (evs Φ cs ρ D).bind (fun r => (storeT Φ (nms is) os r.1 ρ r.2).map fun q => (Out.nx, q.1, q.2)) = some (o, ρ', D') from ee)
  obtain ⟨⟨ρ2, D2⟩, e2, ee⟩ := Option.map_eq_some_iff.mp ee
  cases ee
  refine ⟨as, G, ρ, D, xs, D1, S.w, S.r, e1, fun vs ps G1 H1 st1 w1 t1 hn => ?_⟩
  have S1 := S.adv st1 w1
  have ha : ∀ p ∈ ps, Av p σ ρ ∧ H0 p = none := fun p hp => ⟨S.r.av (hn p hp), S.none0 (hn p hp)⟩
  refine hR as0 as as G0 H0 G1 H1 ρ xs vs ps D1 S1 t1 (by rw [t1.len, evs_len e1]) ha (fun G2 H2 l S2 t2 => ?_) rfl
  obtain ⟨e3, S3⟩ := Sti.putN S2 t2 ha e2
  subst e3
  exact f as _ G2 H2 (.same (st1.le.trans l)) S3
section
variable {i j l : Nat} {x y z : Str} {px py pz pt pt2 : Pos} {kt k2 : Nat} {d : Expr} {cs : CEs} {os : List Bool}
theorem s_par2 (g : Gd T Φ N sc X) (hi : N[i]? = some x) (hj : N[j]? = some y) (hx : sc.names.lookup x = some .local) (hy : sc.names.lookup y = some .local) (ha : PX_ Φ X [a, b] os cs)
    (hw : swappedStores [.Tuple [.Name x px, .Name y py] kt pt] (.Tuple [a, b] k2 pt2) X.env = pure (some [x, y]))
    (hij : i ≠ j := by decide) (hl : cs.len = 2 := by rfl) (hs : swapsWithSole [.Tuple [.Name x px, .Name y py] kt pt] (.Tuple [a, b] k2 pt2) pos.line X.env = pure false := by rfl) :
    PS_ Φ X (.Assign [.Tuple [.Name x px, .Name y py] kt pt] (.Tuple [a, b] k2 pt2) pos) (.par (nms [i, j]) os cs) :=
  ps_imp (ps_par g.calm (by rw [g.n]; exact g.nd) (by rw [g.n]; exact hi) (by rw [g.n]; exact hj) hij (by rw [g.sc]; exact hx) (by rw [g.sc]; exact hy) ha hw hs) fun E σ H h => by
    refine par_ok h fun as0 as as' G0 H0 G1 H1 ρ xs vs ps D1 S t hlen hav fin _ => ?_
    rw [hl] at hlen
    match vs, hlen with
    | [v, w], _ => exact ⟨v, w, rfl, fin G1 H1 (Le.refl _) S t⟩
theorem s_par3 (g : Gd T Φ N sc X) (hi : N[i]? = some x) (hj : N[j]? = some y) (hl' : N[l]? = some z) (hx : sc.names.lookup x = some .local) (hy : sc.names.lookup y = some .local) (hz : sc.names.lookup z = some .local) (ha : PX_ Φ X [a, b, d] os cs)
    (hw : swappedStores [.Tuple [.Name x px, .Name y py, .Name z pz] kt pt] (.Tuple [a, b, d] k2 pt2) X.env = pure (some [x, y, z]))
    (hij : i ≠ j := by decide) (hil : i ≠ l := by decide) (hjl : j ≠ l := by decide) (hl : cs.len = 3 := by rfl) (hs : swapsWithSole [.Tuple [.Name x px, .Name y py, .Name z pz] kt pt] (.Tuple [a, b, d] k2 pt2) pos.line X.env = pure false := by rfl) :
    PS_ Φ X (.Assign [.Tuple [.Name x px, .Name y py, .Name z pz] kt pt] (.Tuple [a, b, d] k2 pt2) pos) (.par (nms [i, j, l]) os cs) :=
  ps_imp (ps_par3 g.calm (by rw [g.n]; exact g.nd) (by rw [g.n]; exact hi) (by rw [g.n]; exact hj) (by rw [g.n]; exact hl') hij hil hjl (by rw [g.sc]; exact hx) (by rw [g.sc]; exact hy) (by rw [g.sc]; exact hz) ha hw hs) fun E σ H h => by
    refine par_ok h fun as0 as as' G0 H0 G1 H1 ρ xs vs ps D1 S t hlen hav fin _ => ?_
    rw [hl] at hlen
    match vs, hlen with
    | [v, w, u], _ => exact ⟨v, w, u, rfl, fin G1 H1 (Le.refl _) S t⟩
/-! the tuple built, then taken apart -/
def gNames : List Nat → TGs
  | [] => gNil
  | i :: r => gCons (gName i) (gNames r)
abbrev PN_ (X : Cx) (es : List Expr) (is : List Nat) : Prop := PGs X es (gNames is)
theorem n_nil : PN_ X [] [] := pgs_nil
theorem n_cons {es : List Expr} {is : List Nat} (g : Gd T Φ N sc X) (hi : N[i]? = some x) (hx : Loc sc x) (h2 : PN_ X es is) (hf : X.fn x = true ∨ sc.names.lookup x = some .local := by first | exact .inl rfl | exact .inr rfl | assumption)
    (hs : (assignEach (.Name x px :: es) X.env).map (·.2) = assign (.Name x px) X.env :: (assignEach es X.env).map (·.2) := by rfl) : PN_ X (.Name x px :: es) (i :: is) :=
  pgs_cons (pg_name (by rw [g.n]; exact g.nd) (by rw [g.n]; exact hi) (by rw [g.sc]; exact hx) (by rw [g.sc]; exact hf)) h2 hs
theorem gNames_ok : ∀ {is : List Nat} {vs : List V} {σ : L2.St} {H : Hp} {Q : L2.St → Hp → Prop}, vs.length = is.length → Q (setN σ is vs) H → gNames is vs σ H Q
  | [], [], σ, H, Q, _, q => ⟨rfl, q⟩
  | [], _ :: _, _, _, _, h, _ => by cases h
  | _ :: _, [], _, _, _, h, _ => by cases h
  | i :: is, v :: vs, σ, H, Q, h, q => ⟨v, vs, rfl, gNames_ok (Nat.succ.inj h) q⟩
theorem s_parN {es ts : List Expr} {is : List Nat} (g : Gd T Φ N sc X) (ht : PN_ X ts is) (ha : PX_ Φ X es os cs)
    (hlen : cs.len = is.length := by rfl) (hlim : cs.len ≤ LIM := by decide) (hn : (assignEach ts X.env).length = is.length := by rfl) (hst : (assignEach ts X.env).findIdx? (·.1) = none := by rfl)
    (hs : swapsWithSole [.Tuple ts kt pt] (.Tuple es k2 pt2) pos.line X.env = pure false := by rfl) (hw : swappedStores [.Tuple ts kt pt] (.Tuple es k2 pt2) X.env = pure none := by rfl)
    (h1 : (assignEach [.Tuple ts kt pt] X.env).map (·.2) = [assign (.Tuple ts kt pt) X.env] := by rfl) :
    PS_ Φ X (.Assign [.Tuple ts kt pt] (.Tuple es k2 pt2) pos) (.par (nms is) os cs) :=
  ps_imp (ps_asg (pe_tup ha) (pg_tup (n := is.length) g.calm ht hn hst) hs hw h1) fun E σ H h => by
    refine par_ok h fun as0 as as' G0 H0 G1 H1 ρ xs vs ps D1 S t hl2 hav fin _ => ?_
    refine ⟨by rw [hl2]; exact line_lim hlim, fun p hp => ?_⟩
    have st2 : Stp as G1 H1 G1 (upd H1 p (.tup vs)) := Stp.own hp
    refine ⟨p, vs, rfl, .of upd_same, by rw [hl2, hlen], gNames_ok (by rw [hl2, hlen]) (fin G1 _ (Le.refl _) (S.adv st2 (S.w.ownp hp)) (t.up st2))⟩
end
/-! ### name = [..] on one line -/
section
variable {i : Nat} {y : Str} {py spos : Pos} {elt iter : Expr} {ifs : List Expr} {scope : Scope} {own : List (Str × Nat)} {ce : CE} {pt : Pat} {ci : CI} {ct : CEs}
theorem s_lc1 (g : Gd T Φ N sc X) (hi0 : N[i]? = some y) (hyl : sc.names.lookup y = some .local)
    (hb : blkC N sc scope own = true) (hi : PJ_ Φ X tg iter ci) (hsl : ∀ i ∈ pt.slots, i ∈ own.map (·.2))
    (hp : ∀ (s : Shared) (H : Hp) (C : Addr) (cl : List (Str × Addr)) (fp : List Addr), PP_ (X.blk s H scope (compEnvC scope cl C X.env) fp) tg pt)
    (ht : ∀ (s : Shared) (H : Hp) (C : Addr) (cl : List (Str × Addr)) (fp : List Addr), PTs_ Φ (X.blk s H scope (compEnvC scope cl C X.env) fp) ifs ct)
    (he : ∀ (s : Shared) (H : Hp) (C : Addr) (cl : List (Str × Addr)) (fp : List Addr), PV_ Φ (X.blk s H scope (compEnvC scope cl C X.env) fp) elt ce)
    (hk : X.env.scope.kind = .function) (hl : (py.line == pos.line) = true := by rfl)
    (hna : (scope.names.any fun (n, k) => n == y && (k == .local || k == .cell)) = false := by decide +kernel) (hs : ∀ x, foldedSetIterable iter X.env x = pure x := by intro _; rfl) :
    PS X (.Assign [.Name y py] (.ListComp elt [⟨tg, iter, ifs, 0⟩] scope pos) spos) (tAsg (tF X.K Φ (.lc1 (own.map (·.2)) ce pt ci ct)) (gName i)) := by
  refine ps_imp (ps_setLc (i := i) (wi := tJ X.K Φ ci) (g := tP X.K pt) (tt := tTs X.K Φ ct) (te := tE X.K Φ ce) g.calm (by rw [g.n]; exact g.nd) (by rw [g.n]; exact hi0) (by rw [g.sc]; exact hyl)
    (sw_true hk (by rw [g.sc]; exact hyl) hl hna) hi (by rw [g.n, g.sc]; exact blkOk_by hb) hp ht he hs) fun E σ H h => lc1_imp hsl h
theorem s_lc2 {tg2 iter2 : Expr} {ifs2 : List Expr} {pt2 : Pat} {ci2 : CI} {ct2 : CEs} {own2 : List Nat} (g : Gd T Φ N sc X) (hi0 : N[i]? = some y) (hyl : sc.names.lookup y = some .local)
    (hb : blkC N sc scope own = true) (hi : PJ_ Φ X tg iter ci) (hsl : ∀ i ∈ pt.slots, i ∈ own.map (·.2)) (hsl2 : ∀ i ∈ pt2.slots, i ∈ own2) (ho2 : ∀ i ∈ own2, i ∈ own.map (·.2))
    (hp : ∀ (s : Shared) (H : Hp) (C : Addr) (cl : List (Str × Addr)) (fp : List Addr), PP_ (X.blk s H scope (compEnvC scope cl C X.env) fp) tg pt)
    (ht : ∀ (s : Shared) (H : Hp) (C : Addr) (cl : List (Str × Addr)) (fp : List Addr), PTs_ Φ (X.blk s H scope (compEnvC scope cl C X.env) fp) ifs ct)
    (hi2 : ∀ (s : Shared) (H : Hp) (C : Addr) (cl : List (Str × Addr)) (fp : List Addr), PI_ Φ (X.blk s H scope (compEnvC scope cl C X.env) fp) tg2 iter2 ci2)
    (hp2 : ∀ (s : Shared) (H : Hp) (C : Addr) (cl : List (Str × Addr)) (fp : List Addr), PP_ (X.blk s H scope (compEnvC scope cl C X.env) fp) tg2 pt2)
    (ht2 : ∀ (s : Shared) (H : Hp) (C : Addr) (cl : List (Str × Addr)) (fp : List Addr), PTs_ Φ (X.blk s H scope (compEnvC scope cl C X.env) fp) ifs2 ct2)
    (he : ∀ (s : Shared) (H : Hp) (C : Addr) (cl : List (Str × Addr)) (fp : List Addr), PV_ Φ (X.blk s H scope (compEnvC scope cl C X.env) fp) elt ce)
    (hk : X.env.scope.kind = .function) (hl : (py.line == pos.line) = true := by rfl)
    (hna : (scope.names.any fun (n, k) => n == y && (k == .local || k == .cell)) = false := by decide +kernel) (hs : ∀ x, foldedSetIterable iter X.env x = pure x := by intro _; rfl) (hs1 : ∀ env x, foldedSetIterable iter2 env x = pure x := by intro _ _; rfl) :
    PS X (.Assign [.Name y py] (.ListComp elt [⟨tg, iter, ifs, 0⟩, ⟨tg2, iter2, ifs2, 0⟩] scope pos) spos) (tAsg (tF X.K Φ (.lc2 (own.map (·.2)) ce pt ci ct own2 pt2 ci2 ct2)) (gName i)) := by
  refine ps_imp (ps_setLc2 (i := i) (wi := tJ X.K Φ ci) (g := tP X.K pt) (tt := tTs X.K Φ ct) (wi1 := tI X.K Φ ci2) (g1 := tP X.K pt2) (tt1 := tTs X.K Φ ct2) (te := tE X.K Φ ce) (vs1 := own2) g.calm (by rw [g.n]; exact g.nd) (by rw [g.n]; exact hi0) (by rw [g.sc]; exact hyl)
    (sw_true hk (by rw [g.sc]; exact hyl) hl hna) hi (by rw [g.n, g.sc]; exact blkOk_by hb) ho2 hp ht hi2 hp2 ht2 he hs hs1) fun E σ H h => lc2_imp hsl hsl2 h
/-- .. kept by the slot; told at once -/
theorem s_ofF {st : Stmt} {i : Nat} {c : CE} (h : PS X st (tAsg (tF X.K Φ c) (gName i))) : PS_ Φ X st (.asg true i c) := ps_imp h fun _ _ _ h => asg_f h
theorem s_ofS {st : Stmt} {i : Nat} {c : CE} (h : PS X st (tAsg (tF X.K Φ c) (gName i))) : PS_ Φ X st (.asgS i c) := ps_imp h fun _ _ _ h => asg_s h
theorem asg_told {K : PySem.W.Frag} {i : Nat} {c : CE} {E : Ends} {σ : L2.St} {H : Hp} (h : sS K Φ (.asg false i c) E σ H) : tAsg (tF K Φ c) (gName i) E σ H := by
  obtain ⟨as0, G0, H0, as, G, ρ, D, o, ρ', D', S, ee, f⟩ := h
  obtain ⟨⟨x, D1⟩, e1, ee⟩ := Option.map_eq_some_iff.mp (show (ev Φ c ρ D).map (fun r => (Out.nx, ρ.set i (some (false, r.1)), r.2)) = some (o, ρ', D') from ee)
  cases ee
  refine ⟨as, G, ρ, D, x, D1, S.w, S.r, e1, fun p G' H' st w' hp hG ow => ?_⟩
  obtain ⟨G2, l, tw, w2, t⟩ := tell_own w' hG (fun m => S.w.some m hp) ow
  have st2 : Stp as G H G2 H' := ⟨st.le.trans l, fun b hb => by
    rcases tw b hb with z | z
    · exact st.nw b z
    · subst z; exact .inr hp, st.kp, st.sm⟩
  exact f as _ G2 H' (.same st2.le) ((S.adv st2 w2).put i t)
theorem s_ofV {st : Stmt} {i : Nat} {c : CE} (h : PS X st (tAsg (tF X.K Φ c) (gName i))) : PS_ Φ X st (.asg false i c) := ps_imp h fun _ _ _ h => asg_told h
end
end
end MP

/-! MP fn: every def keeps its evaluator's promise. -/
namespace MP
open PySem PySem.Spec PyProof.Rows L2

section
variable {as : List Addr} {K : PySem.W.Frag} {G H : Hp}
theorem noShr_shr {n j : Nat} : noShr n (.shr j) = false := by cases n <;> rfl
theorem noShr_lck {n : Nat} {x : PV} : noShr n (.lck x) = false := by cases n <;> rfl
mutual
theorem Tr.less {more : List Addr} : ∀ {n : Nat} {v : V} {x : PV}, Tr (as ++ more) K G v x → noShr n x = true → Tr as K G v x
  | _, _, _, .non, _ => .non
  | _, _, _, .bl b, _ => .bl b
  | _, _, _, .int i, _ => .int i
  | _, _, _, .str s, _ => .str s
  | 0, _, _, .tupR _ _, h => by cases h
  | _, _, _, .tupX _ _ _, h => by rw [noShr_lck] at h; cases h
  | 0, _, _, .lst _ _, h => by cases h
  | 0, _, _, .dK _ _, h => by cases h
  | 0, _, _, .dT _ _, h => by cases h
  | n + 1, _, _, .tupR (xs := xs) g t, h => .tupR g (TrS.less t (show xs.all (noShr n) = true from h))
  | n + 1, _, _, .lst (xs := xs) g t, h => .lst g (TrS.less t (show xs.all (noShr n) = true from h))
  | n + 1, _, _, .dK (kvs := kvs) g t, h => .dK g (TrK.less t (show (kvs.all fun p => noShr n p.1 && noShr n p.2) = true from h))
  | n + 1, _, _, .dT (kvs := kvs) g t, h => .dT g (TrT.less t (show (kvs.all fun p => noShr n p.1 && noShr n p.2) = true from h))
  | _, _, _, .shr _, h => by rw [noShr_shr] at h; cases h
  | _, _, _, .scr g, _ => .scr g
theorem TrS.less {more : List Addr} : ∀ {n : Nat} {v : List V} {x : List PV}, TrS (as ++ more) K G v x → x.all (noShr n) = true → TrS as K G v x
  | _, _, _, .nil, _ => .nil
  | n, _, _, .cons h t, s => by
    rw [List.all_cons, Bool.and_eq_true] at s
    exact .cons (Tr.less h s.1) (TrS.less t s.2)
theorem TrK.less {more : List Addr} : ∀ {n : Nat} {v : List (Key × V)} {x : List (PV × PV)}, TrK (as ++ more) K G v x → (x.all fun p => noShr n p.1 && noShr n p.2) = true → TrK as K G v x
  | _, _, _, .nil, _ => .nil
  | n, _, _, .cons h t, s => by
    rw [List.all_cons, Bool.and_eq_true, Bool.and_eq_true] at s
    exact .cons (Tr.less h s.1.2) (TrK.less t s.2)
theorem TrT.less {more : List Addr} : ∀ {n : Nat} {v : List (List Key × V)} {x : List (PV × PV)}, TrT (as ++ more) K G v x → (x.all fun p => noShr n p.1 && noShr n p.2) = true → TrT as K G v x
  | _, _, _, .nil, _ => .nil
  | n, _, _, .cons h t, s => by
    rw [List.all_cons, Bool.and_eq_true, Bool.and_eq_true] at s
    exact .cons (Tr.less h s.1.2) (TrT.less t s.2)
end
theorem OwnS.less {more : List Addr} {a : Addr} {x : PV} (h : OwnS (as ++ more) K G H a x) (hn : noShr DEP x = true) : OwnS as K G H a x := by
  have e : DEP = 19 + 1 := rfl
  rw [e] at hn
  cases x with
  | lck y => rw [noShr_lck] at hn; cases hn
  | lst xs =>
    obtain ⟨vs, h1, h2⟩ := h
    exact ⟨vs, h1, h2.less (show xs.all (noShr 19) = true from hn)⟩
  | dct t kvs =>
    rcases h with ⟨e, ks, h1, h2⟩ | ⟨e, ks, h1, h2⟩
    · exact .inl ⟨e, ks, h1, h2.less (show (kvs.all fun p => noShr 19 p.1 && noShr 19 p.2) = true from hn)⟩
    · exact .inr ⟨e, ks, h1, h2.less (show (kvs.all fun p => noShr 19 p.1 && noShr 19 p.2) = true from hn)⟩
  | _ => exact absurd h id
theorem Wd.less {more : List Addr} {D D0 : DS} (w : Wd (as ++ more) K G H D) (hl : as.length = D0.length) (hn : (D.take D0.length).all (noShr DEP) = true) : Wd as K G H (D.take D0.length) where
  sub := w.sub
  nd := (List.nodup_append.mp w.nd).1
  len := by
    have := w.len
    rw [List.length_append] at this
    rw [List.length_take]
    omega
  off := fun a h => w.off a (List.mem_append_left _ h)
  sh := fun j a x h1 h2 => by
    have hj : j < as.length := (List.getElem?_eq_some_iff.mp h1).1
    have h3 : D[j]? = Option.some x := by
      rw [List.getElem?_take] at h2
      split at h2
      · exact h2
      · cases h2
    exact (w.sh j a x (by rw [List.getElem?_append_left hj]; exact h1) h3).less (List.all_eq_true.mp hn x (List.mem_of_getElem? h2))
end
/-- a def of the text, and its core -/
structure DefOk (T : Tb) (defs : List Def) (K : PySem.W.Frag) (mg : Str → Option Value) (g : Nat) (x : Str) (m : Nat) : Prop where
  ex : ∃ (f : Addr) (fd : FuncData) (ps N : List Str) (qual : Str) (params : Arguments) (body : List Stmt) (scope : Scope) (kws : List (Str × V)) (cs : CSs),
    mg x = some (.ref f) ∧ FunD K x qual params body scope [] kws f fd ∧ Binds K fd ps [] ∧ FnScope N ps scope ∧ ps.length = m ∧ defs[g]? = some ⟨N.length, m, cs⟩ ∧ ∀ (Φ : Fns) (X : Cx), Gd T Φ N scope X → (∀ x, X.fn x = true) → PSs_ Φ X body cs
def Alls (T : Tb) (defs : List Def) (P : Program) (w : World) (K : PySem.W.Frag) (mg : Str → Option Value) (base : Heap) (n : Nat) : Prop :=
  ∀ (g : Nat) (x : Str) (m : Nat), T.fns[g]? = some (x, m) → ∃ (f : Addr) (fd : FuncData) (ps : List Str), mg x = some (.ref f) ∧ PySem.W.keepIn K (.ref f) = true ∧ Binds K fd ps [] ∧ FnOk P w K mg base CX0 n f fd ps (spOf K (sem defs n g) m)
theorem start_get {N : List Str} {vs : List V} {i : Nat} {v : V} (h : vs[i]? = some v) : (L2.start N vs)[i]? = some (some v) := by
  unfold L2.start
  have hl : i < vs.length := (List.getElem?_eq_some_iff.mp h).1
  rw [List.getElem?_append_left (by simpa using hl), List.getElem?_map, h]
  rfl
theorem run_ok {T : Tb} {Φ : Fns} {K : PySem.W.Frag} {N ps : List Str} {cs : CSs} {H : Hp} {Q : VK} {vs : List V} (hN : ps.length ≤ N.length) {as : List Addr} {G : Hp} {D D' : DS} {xs : List PV} {r : PV} (w : Wd as K G H D) (t : TrS as K G vs xs) (hl : vs.length = ps.length)
    (e : (Def.mk N.length ps.length cs).run Φ xs D = some (r, D')) (f : ∀ v G' H', Stp as G H G' H' → Wd as K G' H' D' → Tr as K G' v r → Q v H') : sSs K Φ cs { nx := fun _ H' => Q .non H', rt := Q } (L2.start N vs) H := by
  have hx : xs.length = ps.length := by rw [← t.len]; exact hl
  unfold Def.run at e
  rw [if_pos hx] at e
  obtain ⟨⟨o, ρ', D1⟩, e1, e⟩ := Option.bind_eq_some_iff.mp e
  obtain ⟨x, e2, e⟩ := Option.bind_eq_some_iff.mp e
  have none_own : ∀ {i : Nat} {y : PV}, (xs.map (fun x => some (false, x)) ++ List.replicate (N.length - ps.length) (none : Option (Bool × PV)))[i]? ≠ some (some (true, y)) := fun {i y} h => by
    have hm := List.mem_of_getElem? h
    rcases List.mem_append.mp hm with hm | hm
    · obtain ⟨z, _, e⟩ := List.mem_map.mp hm
      cases e
    · cases (List.mem_replicate.mp hm).2
  refine ⟨as, G, H, as, G, _, D, o, ρ', D1, ⟨⟨[], by simp⟩, fun a h => .inl h, w, ⟨?_, fun i y h => ?_, fun i y h => absurd h none_own, fun i j y z a h _ _ _ => absurd h none_own⟩, fun i y a h _ => absurd h none_own, Stp.refl _ _ _, fun i y a h _ => absurd h none_own⟩, e1, fun as' σ' G' H' n S => ?_⟩
  · unfold L2.start
    simp only [List.length_append, List.length_map, List.length_replicate]
    rw [t.len, hx]
  · have hi : i < xs.length := by
      by_cases hi : i < xs.length
      · exact hi
      · rw [List.getElem?_append_right (by simpa using hi)] at h
        have := List.mem_of_getElem? h
        cases (List.mem_replicate.mp this).2
    rw [List.getElem?_append_left (by simpa using hi), List.getElem?_map] at h
    obtain ⟨z, hz, ez⟩ := Option.map_eq_some_iff.mp h
    cases ez
    obtain ⟨v, hv, tv⟩ := t.get hz
    exact ⟨v, start_get hv, tv⟩
  · obtain ⟨⟨more, em⟩, l⟩ := n
    subst em
    have fin : ∀ v, Tr (as ++ more) K G' v x → Q v H' := fun v tv => by
      have e : (if D1.length = D.length then some (x, D1) else if (noShr DEP x && (D1.take D.length).all (noShr DEP)) = true then some (x, D1.take D.length) else none) = some (r, D') := e
      split at e
      · rename_i hlen
        cases e
        have : more = [] := by
          have h1 := S.w.len
          have h2 := w.len
          rw [List.length_append] at h1
          exact List.length_eq_zero_iff.mp (by omega)
        subst this
        have w' := S.w
        rw [List.append_nil] at w' tv
        exact f v G' H' S.st w' tv
      · split at e
        · rename_i hn
          rw [Bool.and_eq_true] at hn
          cases e
          exact f v G' H' S.st (S.w.less w.len hn.2) (tv.less hn.1)
        · cases e
    cases o with
    | nx =>
      cases e2
      exact fin .non .non
    | rt y =>
      cases e2
      exact fin
    | bk => cases e2
    | ct => cases e2
theorem all_fn {T : Tb} {defs : List Def} {P : Program} {w : World} {K : PySem.W.Frag} {mg : Str → Option Value} {base : Heap}
    (hd : ∀ (g : Nat) (x : Str) (m : Nat), T.fns[g]? = some (x, m) → DefOk T defs K mg g x m) (hfr : ∀ (j : Nat) (x : Str), T.fr[j]? = some x → mg x = none)
    (hcs : ∀ (j : Nat) (x s : Str), T.cs[j]? = some (x, s) → ∃ t, mg x = some (.str s t)) : ∀ n, Alls T defs P w K mg base n
  | 0 => fun g x m h => by
    obtain ⟨f, fd, ps, N, qual, params, body, scope, kws, cs, h1, F, b, S, hm, _, _⟩ := (hd g x m h).ex
    exact ⟨f, fd, ps, h1, F.kp, b, ⟨fun vs H Q E q => by rw [q.1, hm], fun A outer s H args us vs Q E hr e0 hb hv ⟨_, as, G, D, xs, r, D', _, _, z, _⟩ => by cases z⟩⟩
  | n + 1 => fun g x m h => by
    have ih := all_fn hd hfr hcs n (P := P) (w := w) (base := base)
    obtain ⟨f, fd, ps, N, qual, params, body, scope, kws, cs, h1, F, b, S, hm, e, hb⟩ := (hd g x m h).ex
    refine ⟨f, fd, ps, h1, F.kp, b, F.ok S (fun vs H Q E q => by rw [q.1, hm]) fun cdv A outer s H vs Q E hr ⟨hlen, as, G, D, xs, r, D', wd, t, er, fin⟩ => ⟨sSs K (sem defs n) cs, PSs.nox (hb _ _ ?_ fun _ => rfl), ?_⟩⟩
    · exact ⟨rfl, rfl, S.nd, rfl, rfl, by have := hr.un; show (A.deeper _).units + 65 < cLine; omega, fun g' x' m' h' => by
        obtain ⟨f', fd', ps', q1, q2, q3, q4⟩ := ih g' x' m' h'
        exact ⟨n, f', fd', ps', q1, q2, q3, hr, q4⟩, hfr, hcs⟩
    · have er' : (defs[g]?).bind (fun d => d.run (sem defs n) xs D) = some (r, D') := er
      rw [e] at er'
      subst hm
      have hpl : ps.length ≤ N.length := by have := congrArg List.length S.pre; rw [List.length_take] at this; omega
      exact run_ok (T := T) hpl wd t hlen er' fin
end MP

/-! MP me: isinstance, slices, d.get, displays of dicts, stores with an operator. -/
namespace MP
open PySem PySem.Spec PyProof.Rows L2

/-! ### isinstance -/
def tyS : Ty → String
  | .tint => "int" | .tbool => "bool" | .ttup => "tuple" | .tstr => "str" | .tlst => "list" | .tdct => "dict"
def tyN : PV → String
  | .non => "NoneType" | .bl _ => "bool" | .int _ => "int" | .str _ => "str" | .tup _ => "tuple" | .lst _ => "list" | .dct _ _ => "dict" | _ => ""
theorem kit_M {K : PySem.W.Frag} {t : Ty} {x : PV} {b : Bool} (h : pIs t x = some b) : PySem.W.kitOne K (.type (tyN x)) (.type (tyS t)) = some b := by
  cases t <;> cases x <;> first | (cases h; done) | (cases h; exact kit_ty (by dsimp only [tyN, tyS]; decide +kernel))
section
variable {X : Cx}
theorem kit_tr {pins : List (Addr × Obj)} {s : Shared} {σ : L2.St} {H : Hp} {as : List Addr} {G : Hp} {D : DS} {v : V} {u : Value} {x : PV} {t : Ty} {b : Bool} (I : Inv X pins σ H s) (w : Wd as X.K G H D) (r : TrR as X.K G H v x) (ru : RelV v u) (h : pIs t x = some b) :
    ∃ P : Heap → Prop, PySem.W.KitX X.K u (.type (tyN x)) P ∧ P s.heap ∧ u ≠ .builtin "__main__.__loader__#opaque" := by
  cases x with
  | non => have := r.non; subst this; cases (show u = Value.none from ru); exact ⟨_, PySem.W.kitx_none, True.intro, fun z => nomatch z⟩
  | bl y => have := r.bl; subst this; cases (show u = Value.bool y from ru); exact ⟨_, PySem.W.kitx_bool, True.intro, fun z => nomatch z⟩
  | int i => have := r.int; subst this; obtain ⟨t, q⟩ := (show ∃ t, u = Value.int i t from ru); cases q; exact ⟨_, PySem.W.kitx_int, True.intro, fun z => nomatch z⟩
  | str y => have := r.str; subst this; obtain ⟨t, q⟩ := (show ∃ t, u = Value.str y t from ru); cases q; exact ⟨_, PySem.W.kitx_str, True.intro, fun z => nomatch z⟩
  | tup xs =>
    obtain ⟨a, vs, rfl, h1, _, _⟩ := r.tup w
    cases (show u = Value.ref a from ru)
    obtain ⟨_, _, pl, _⟩ := I.tuple (show SqT X.K H a vs from .inl h1)
    obtain ⟨o, h1, h2, _⟩ := id pl
    exact ⟨_, PySem.W.kitx_tuple, ⟨o, h1, h2⟩, fun z => nomatch z⟩
  | lst xs =>
    obtain ⟨a, vs, rfl, h1, _⟩ := r.lst w
    cases (show u = Value.ref a from ru)
    obtain ⟨_, _, n, _, h1⟩ := (show ObjOk X.prog X.w H s.heap a (.lst vs) from I.hok a _ h1)
    exact ⟨_, PySem.W.kitx_list, ⟨_, h1, rfl⟩, fun z => nomatch z⟩
  | dct n kvs =>
    rcases r.dct w with ⟨_, a, ks, rfl, h1, _⟩ | ⟨_, a, ks, rfl, h1, _⟩
    · cases (show u = Value.ref a from ru)
      obtain ⟨_, _, vs, _, o, es, ep, h1, h2, _⟩ := (show ObjOk X.prog X.w H s.heap a (.dK ks) from h1.ok I.hok)
      exact ⟨_, PySem.W.kitx_dict, ⟨o, h1, h2.1⟩, fun z => nomatch z⟩
    · cases (show u = Value.ref a from ru)
      obtain ⟨_, _, xs, _, o, es, ep, h1, h2, _⟩ := (show ObjOk X.prog X.w H s.heap a (.dT ks) from h1.ok I.hok)
      exact ⟨_, PySem.W.kitx_dict, ⟨o, h1, h2.1⟩, fun z => nomatch z⟩
  | shr j => cases t <;> cases h
  | scr j => cases t <;> cases h
  | lck j => cases t <;> cases h
def rIsiM (K : PySem.W.Frag) (t : Ty) : List V → Hp → VK → Prop := fun vs H Q => ∃ as G D v x b, vs = [v, .ty (tyS t)] ∧ Wd as K G H D ∧ TrR as K G H v x ∧ pIs t x = some b ∧ Q (.bl b) H
theorem call_isiM (t : Ty) : CallR X (.builtin "isinstance") (rIsiM X.K t) := by
  intro pins s σ H xs us Q I r ⟨as, G, D, v, x, b, e, w, tr, hb, q⟩
  subst e
  obtain ⟨u1, u2, rfl, r1, r2⟩ := vals2 r
  cases (show u2 = Value.type (tyS t) from r2)
  obtain ⟨P, Z, p, hx⟩ := kit_tr I w tr r1 hb
  exact PySem.W.kia_one Z I.kIn p (kit_M hb) hx fun tk => ⟨.bl b, H, I.tok tk, rfl, q⟩
end
section
variable {T : Tb} {Φ : Fns} {N : List Str} {sc : Scope} {X : Cx} {e a b tg k : Expr} {pos p p2 : Pos} {c ck ca cb : CE} {j j2 : Nat}
theorem v_isi {t : Ty} {y : Str} (g : Gd T Φ N sc X) (hg : sc.names.lookup ("isinstance" : Str) = some .globalImplicit) (hm : T.fr[j]? = some ("isinstance" : Str)) (hg2 : sc.names.lookup y = some .globalImplicit) (hm2 : T.fr[j2]? = some y) (hv : bootBuiltins y = some (.type (tyS t)))
    (ha : PO_ Φ X a ca) (hn : y ≠ "__name__" := by decide) (hd : (y == ("__debug__" : Str)) = false := by decide)
    (he : starEach [a, .Name y p2] X.env = (false, eval a X.env) :: starEach [.Name y p2] X.env := by rfl) (he2 : starEach [.Name y p2] X.env = (false, eval (.Name y p2) X.env) :: starEach [] X.env := by rfl) (hpl : (backTo pos (starEach [.Name y p2] X.env)).any (·.1) = false := by rfl) :
    PV_ Φ X (.Call (.Name "isinstance" p) [a, .Name y p2] [] pos) (.isi t ca) :=
  pe_imp (pe_callB (call_isiM t) (gl_of g hg) (g.fr j _ hm) boot_isinstance (pa_cons ha (pa_cons (pe_bltn (v := .ty (tyS t)) (gl_of g hg2) (g.fr j2 y hm2) hv rfl hn hd) pa_nil he2) he) (by decide) (by decide) he hpl) fun σ H Q ⟨as, G, ρ, D, y, D', w, r, ee, f⟩ => by
    obtain ⟨⟨x, D1⟩, e1, ee⟩ := Option.bind_eq_some_iff.mp ee
    obtain ⟨z, e2, ee⟩ := Option.map_eq_some_iff.mp ee
    cases ee
    exact ⟨as, G, ρ, D, x, _, w, r, e1, fun v G' H' st w' t1 => ⟨as, G', _, v, x, z, rfl, w', t1.r, e2, f _ G' H' st w' (.bl z)⟩⟩
/-! ### slices -/
def tPt (K : PySem.W.Frag) (Φ : Fns) (c : CEs) : TO := fun σ H Q => ∃ as G ρ D x D', Wd as K G H D ∧ Rp as K G H σ ρ ∧ evo Φ c ρ D = some (x, D') ∧ ∀ G' H', Stp as G H G' H' → Wd as K G' H' D' → Q x H'
abbrev PPt_ (Φ : Fns) (X : Cx) (e : Option Expr) (c : CEs) : Prop := PO X e (tPt X.K Φ c)
theorem po_imp {e : Option Expr} {t u : TO} (h : PO X e t) (i : ∀ σ H Q, u σ H Q → t σ H Q) : PO X e u := ⟨fun pins s σ H Q I q => h.run pins s σ H Q I (i _ _ _ q)⟩
theorem pt_none : PPt_ Φ X none .nil := po_imp po_none fun σ H Q ⟨as, G, ρ, D, y, D', w, r, ee, f⟩ => by
  have ee' : some (none, D) = some (y, D') := ee
  cases ee'
  exact f G H (Stp.refl _ _ _) w
theorem pt_some (h : PV_ Φ X e c) : PPt_ Φ X (some e) (.cons c .nil) := po_imp (po_some h) fun σ H Q ⟨as, G, ρ, D, y, D', w, r, ee, f⟩ => by
  obtain ⟨⟨x, D1⟩, e1, ee⟩ := Option.bind_eq_some_iff.mp (show (ev Φ c ρ D).bind (fun r => (intOf r.1).map fun i => (some i, r.2)) = some (y, D') from ee)
  obtain ⟨i, e2, ee⟩ := Option.map_eq_some_iff.mp ee
  cases ee
  have ex : x = .int i := by
    cases x <;> first | (cases e2; rfl) | cases e2
  subst ex
  refine ⟨as, G, ρ, D, _, _, w, r, e1, fun v G' H' st w' t => ?_⟩
  cases t
  exact ⟨i, rfl, f G' H' st w'⟩
theorem cutN_eq (n d : Nat) (o : Option Int) : cutN n d o = HT.sIx n d o := by
  cases o with
  | none => rfl
  | some i => simp only [cutN, HT.sIx]
theorem cutL_eq (xs : List V) (lo hi : Option Int) : cutL xs lo hi = cutV xs lo hi := by
  unfold cutL cutV
  rw [cutN_eq, cutN_eq]
def rSlM (K : PySem.W.Frag) : V → Option Int → Option Int → Hp → VK → Prop := fun x lo hi H Q => ∃ as G D px z, Wd as K G H D ∧ TrR as K G H x px ∧ pCut px lo hi = some z ∧ Fin_ as K G H D z Q
theorem sl_M : SlR X (rSlM X.K) := by
  intro pins s σ H x v vl vu lo hi sl Q I rx hs pl pu ⟨as, G, D, px, z, w, tx, e, f⟩
  cases px <;> try (cases e; done)
  case lst xs =>
    cases e
    obtain ⟨a, vs, rfl, h1, t1⟩ := tx.lst w
    refine sl_list pins s σ H _ v vl vu lo hi sl Q I rx hs pl pu ⟨a, vs, rfl, .of h1, fun p hp => ?_⟩
    rw [← cutL_eq]
    exact f.new w hp (.lst upd_same ((t1.cut lo hi).up (le_new (w.free hp))))
  case tup xs =>
    cases e
    obtain ⟨a, vs, rfl, h1, g1, t1⟩ := tx.tup w
    refine sl_tupA pins s σ H _ v vl vu lo hi sl Q I rx hs pl pu ⟨a, vs, rfl, .inl h1, fun hw => ?_, fun _ p hp => ?_⟩
    · have e : cutL xs lo hi = xs := by
        unfold cutL
        rw [cutN_eq, cutN_eq, ← t1.len, hw.1, hw.2]
        rw [t1.len]
        simp
      rw [e] at f
      exact f.same w (.tupR g1 t1)
    · rw [← cutL_eq]
      exact f.new w hp (.tup upd_same ((t1.cut lo hi).up (le_new (w.free hp))))
  case str y =>
    have e' : (if y.length ≤ LIM then some (PV.str ⟨(cutL y.cps.toList lo hi).toArray⟩) else none) = some z := e
    split at e'
    · rename_i hl
      cases e'
      have := tx.str
      subst this
      refine sl_str pins s σ H _ v vl vu lo hi sl Q I rx hs pl pu ⟨y, rfl, line_lim hl, ?_⟩
      have e2 : cutS y lo hi = ⟨(cutL y.cps.toList lo hi).toArray⟩ := by
        unfold cutS cutL
        rw [cutN_eq, cutN_eq]
        simp [Str.length]
      rw [e2]
      exact f.same w (.str _)
    · cases e'
theorem v_cut {lo hi : Option Expr} {cl cu : CEs} (ha : PO_ Φ X a ca) (hl : PPt_ Φ X lo cl) (hu : PPt_ Φ X hi cu) : PV_ Φ X (.Subscript a (.Slice lo hi none p2) pos) (.cut ca cl cu) :=
  pe_imp (pe_slice sl_M ha hl hu) fun σ H Q ⟨as, G, ρ, D, y, D', w, r, ee, f⟩ => by
    obtain ⟨⟨x, D1⟩, e1, ee⟩ := Option.bind_eq_some_iff.mp ee
    obtain ⟨⟨l, D2⟩, e2, ee⟩ := Option.bind_eq_some_iff.mp ee
    obtain ⟨⟨h, D3⟩, e3, ee⟩ := Option.bind_eq_some_iff.mp ee
    obtain ⟨z, e4, ee⟩ := Option.map_eq_some_iff.mp ee
    cases ee
    exact ⟨as, G, ρ, D, x, D1, w, r, e1, fun v1 G1 H1 st1 w1 t1 => ⟨as, G1, ρ, D1, l, D2, w1, r.up st1, e2, fun G2 H2 st2 w2 => ⟨as, G2, ρ, D2, h, _, w2, (r.up st1).up st2, e3, fun G3 H3 st3 w3 =>
      ⟨as, G3, _, x, _, w3, ((t1.up st2).up st3).r, e4, fun v G' H' st w' t => f v G' H' (((st1.trans st2).trans st3).trans st) w' t⟩⟩⟩⟩
/-- xs[::-1] of a list -/
theorem v_rev {q1 q2 q3 : Pos} {kk : Nat} (ha : PO_ Φ X a ca) (hl : True := True.intro) : PV_ Φ X (.Subscript a (.Slice none none (some (.UnaryOp .USub (.Constant (.int 1) kk q1) q2)) q3) pos) (.rev ca) :=
  pe_imp (pe_orT (pe_revL ha) (pe_revT ha)) fun σ H Q ⟨as, G, ρ, D, y, D', w, r, ee, f⟩ => by
    obtain ⟨⟨x, D1⟩, e1, ee⟩ := Option.bind_eq_some_iff.mp ee
    obtain ⟨z, e4, ee⟩ := Option.map_eq_some_iff.mp ee
    cases ee
    cases x with
    | lst xs =>
      cases e4
      refine .inl ⟨as, G, ρ, D, _, _, w, r, e1, fun v1 G1 H1 st1 w1 t1 => ?_⟩
      obtain ⟨l, vs, rfl, h1, t2⟩ := t1.r.lst w1
      exact ⟨l, vs, rfl, .of h1, fun p hp => f _ _ _ (st1.trans (Stp.new hp (w1.free hp))) (w1.new hp) (.lst upd_same (t2.rev.up (le_new (w1.free hp))))⟩
    | tup xs =>
      cases e4
      refine .inr ⟨as, G, ρ, D, _, _, w, r, e1, fun v1 G1 H1 st1 w1 t1 => ?_⟩
      obtain ⟨l, vs, rfl, h1, g1, t2⟩ := t1.r.tup w1
      exact ⟨l, vs, rfl, .inl h1, fun p hp => f _ _ _ (st1.trans (Stp.new hp (w1.free hp))) (w1.new hp) (.tup upd_same (t2.rev.up (le_new (w1.free hp))))⟩
    | _ => cases e4
/-! ### d.get -/
theorem isD_of {as : List Addr} {K : PySem.W.Frag} {G H : Hp} {D : DS} (w : Wd as K G H D) {v : V} {t : Nat} {kvs : List (PV × PV)} (h : TrR as K G H v (.dct t kvs)) : ∃ a, v = .ref a ∧ IsD H a := by
  rcases h.dct w with ⟨_, a, ks, rfl, h1, _⟩ | ⟨_, a, ks, rfl, h1, _⟩
  · exact ⟨a, rfl, .inl ⟨ks, h1⟩⟩
  · exact ⟨a, rfl, .inr ⟨ks, h1⟩⟩
theorem Stp.isD {as : List Addr} {K : PySem.W.Frag} {G H G' H' : Hp} {D : DS} : True := True.intro
/-- d.get(k, x): d a tree or a slot's own -/
theorem v_get2 {f : Expr} {cf : CE} {apos cpos : Pos} (g : Gd T Φ N sc X) (ha : PO_ Φ X a ca) (hk : PV_ Φ X k ck) (hf : PV_ Φ X f cf) (m : M2 X a "get" apos k f cpos) : PV_ Φ X (.Call (.Attribute a "get" apos) [k, f] [] cpos) (.met .get2 ca (.cons ck (.cons cf .nil))) :=
  pe_imp (pe_dget2 (by have := g.un; omega) ha hk hf m) fun σ H Q ⟨as, G, ρ, D, y, D', w, r, ee, fin⟩ => by
    obtain ⟨⟨x, D1⟩, e1, ee⟩ := Option.bind_eq_some_iff.mp ee
    obtain ⟨⟨xs, D2⟩, e2, ee⟩ := Option.bind_eq_some_iff.mp ee
    obtain ⟨z, e4, ee⟩ := Option.map_eq_some_iff.mp ee
    cases ee
    obtain ⟨⟨kx, D3⟩, e5, e6⟩ := Option.bind_eq_some_iff.mp (show (ev Φ ck ρ D1).bind (fun r => (evs Φ (.cons cf .nil) ρ r.2).map fun q => (r.1 :: q.1, q.2)) = some (xs, _) from e2)
    obtain ⟨⟨ys, D4⟩, e7, e8⟩ := Option.map_eq_some_iff.mp e6
    cases e8
    obtain ⟨⟨fx, D5⟩, e9, e10⟩ := Option.bind_eq_some_iff.mp (show (ev Φ cf ρ D3).bind (fun r => (evs Φ .nil ρ r.2).map fun q => (r.1 :: q.1, q.2)) = some (ys, _) from e7)
    obtain ⟨⟨zs, D6⟩, e11, e12⟩ := Option.map_eq_some_iff.mp e10
    have e11 : some (([] : List PV), D5) = some (zs, D6) := e11
    cases e11
    cases e12
    cases x with
    | dct t kvs =>
      have e4' : (if isKey t kx then some ((dGet kx kvs).getD fx) else none) = some _ := e4
      split at e4'
      · rename_i hkey
        cases e4'
        refine ⟨as, G, ρ, D, _, D1, w, r, e1, fun v1 G1 H1 st1 w1 t1 => ?_⟩
        obtain ⟨p, rfl, hd⟩ := isD_of w1 t1.r
        refine ⟨p, rfl, hd, as, G1, ρ, D1, kx, D3, w1, r.up st1, e5, fun v2 G2 H2 st2 w2 t2 => ⟨as, G2, ρ, D3, fx, _, w2, (r.up st1).up st2, e9, fun v3 G3 H3 st3 w3 t3 => ?_⟩⟩
        obtain ⟨q, o, eq, g', ho⟩ := dget_of w3 ((t1.up st2).up st3).r (.inl (t2.up st3.le)) hkey
        cases eq
        refine ⟨o, g', ?_⟩
        have st := (st1.trans st2).trans st3
        rcases ho with ⟨h1, h2⟩ | ⟨vv, zz, h1, h2, h3⟩
        · subst h1
          rw [h2] at fin
          exact fin _ G3 H3 st w3 t3
        · subst h1
          rw [h2] at fin
          exact fin _ G3 H3 st w3 h3
      · cases e4'
    | _ => cases e4
end
end MP

/-! set(a list of ints), with the table's order. -/
namespace L2
open PySem PySem.Spec PyProof.Rows
section
variable {P : Program} {w : World} {A : Around} {E : Value → Shared → Prop} {s : Shared}
/-- set(a list of ints), its table known (the tuple's is in the layer) -/
theorem set_of_list {l : Addr} {items : Array Value} (ns : List Int) {Q : Value → Shared → Prop} (hh : A.handled = none) (hl : s.heap.IsList l items) (hit : IntsAre items.toList ns) (hb : ns.length + 1 < scanBound)
    (h : ∀ (h' : Heap) (tk c : Nat), SetR w h' s.heap.objs.size (fun j => decide (j ∈ ns)) c → c ≤ ns.length → (∀ b o, s.heap.get? b = some o → h'.get? b = some o) → Q (.ref s.heap.objs.size) { s with heap := h', toks := tk }) :
    wpAny (model P w) A (call (.type "set") [.ref l]) Q E s := by
  have hisz : items.size = ns.length := by
    have q := IntsAre.length hit
    rw [Array.length_toList] at q
    exact q
  obtain ⟨c, tl, hmro⟩ := F.called_set.mro
  have hmade := F.called_set.made
  have hsub := F.called_set.sub
  refine wpAny_call (codeAny_of_tree ?_)
  show wpAny _ _ (callAny (.type "set") _) _ _ _
  refine wpAny_pure ⟨Code.quiet_builtin _ (by decide +kernel), codeAny_builtin F.entry_type_call ?_⟩
  rw [Around.under_plain (weight_type_call_type "set" [.ref l] []) rfl]
  have h1 := F.called_set.notType
  have h2 := F.called_set.canCreate
  have hct := F.typeCall_set_1 (.ref l)
  repeat (any_goals (first | assumption | wp_step))

  refine codeAny_mono (code_set_led1 (.ref l) (E := E) (Q₁ := fun obj s₁ => obj = .ref s.heap.objs.size ∧ s₁ = { s with heap := s.heap.push { cls := .type "set", dict := none, data := .set #[] 0 (.fresh 0 0 (!w.params.followText "set-order")) } }) ⟨rfl, rfl⟩) fun r s₁ hr => ?_
  cases r with
  | error e => exact hr
  | ok fl =>
    cases fl with
    | ret obj =>
      obtain ⟨rfl, rfl⟩ := hr
      have hS : (s.heap.push { cls := .type "set", dict := none, data := .set #[] 0 (.fresh 0 0 (!w.params.followText "set-order")) }).get? s.heap.objs.size = some { cls := .type "set", dict := none, data := .set #[] 0 (.fresh 0 0 (!w.params.followText "set-order")) } := Heap.get?_push_size _ rfl
      have hT : Shared.TypeIs { s with heap := s.heap.push { cls := .type "set", dict := none, data := .set #[] 0 (.fresh 0 0 (!w.params.followText "set-order")) } } (.ref s.heap.objs.size) "set" := ⟨_, hS, rfl⟩
      have hli := F.called_set.init.lookup
      have hbi := F.called_set.init.bind (.ref s.heap.objs.size)
      repeat (any_goals (first | assumption | wp_step))

      refine codeAny_mono (codeAny_call_builtin (R := wants (fun r s₂ => r = .none ∧ ∃ h' tk c, s₂ = { s with heap := h', toks := tk } ∧ SetR w h' s.heap.objs.size (fun j => decide (j ∈ ns)) c ∧ c ≤ ns.length ∧
          (∀ b o, s.heap.get? b = some o → h'.get? b = some o)) E) F.called_set.init.plain F.entry_set_init (check_set_init_1 hT ?_)) fun r₂ s₂ hr₂ => ?_
      · obtain ⟨ol, hol, hcl, nl, hdl⟩ := hl
        obtain ⟨ocls, odict, odata, oslots⟩ := ol
        simp only at hcl hdl
        subst hcl; subst hdl
        have hol' : (s.heap.push { cls := .type "set", dict := none, data := .set #[] 0 (.fresh 0 0 (!w.params.followText "set-order")) }).get? l = some { cls := .type "list", dict := odict, data := .seq items nl, slots := oslots } := Heap.get?_push_of_some _ hol
        have hsls := F.sub_list_set
        have hslf := F.sub_list_frozenset
        have hne : (Value.type "list" == Value.type "dict") = false := by decide
        have hl1 : (s.heap.push { cls := .type "set", dict := none, data := .set #[] 0 (.fresh 0 0 (!w.params.followText "set-order")) }).IsList l items := ⟨_, hol', rfl, nl, rfl⟩
        unfold Builtin.«set.__init__» noKeywords Builtin.Frozenset.updateFrom
        generalize hPI : pyIter = PI
        wp_walk
        subst hPI

        refine wpAny_pyIter_list hl1 ?_
        refine wpAny_bind (wpAny_runValue ?_)
        have hlS : l < s.heap.objs.size := Heap.lt_size hol
        have hh3 : A.in1.in1.in1.handled = none := by simp [hh]
        have hz1 : (s.heap.push { cls := .type "set", dict := none, data := .set #[] 0 (.fresh 0 0 (!w.params.followText "set-order")) }).objs.size = s.heap.objs.size + 1 := Heap.size_push ..
        have hneI : l ≠ (s.heap.push { cls := .type "set", dict := none, data := .set #[] 0 (.fresh 0 0 (!w.params.followText "set-order")) }).objs.size := by
          rw [Heap.size_push]; exact Nat.ne_of_lt (Nat.lt_succ_of_lt hlS)
        have hSf : s.heap.objs.size ∉ [(s.heap.push { cls := .type "set", dict := none, data := .set #[] 0 (.fresh 0 0 (!w.params.followText "set-order")) }).objs.size, l] := by
          rw [Heap.size_push]; simp only [List.mem_cons, List.mem_singleton, List.not_mem_nil, or_false, not_or]
          exact ⟨Nat.ne_of_lt (Nat.lt_succ_self _), Nat.ne_of_gt hlS⟩
        have hval : ∀ (i : Nat) (v : Value), items[i]? = some v → ∃ k t, ns[i]? = some k ∧ v = .int k t := fun i v hv => by
          have hi : i < ns.length := by rw [← hisz]; exact (Array.getElem?_eq_some_iff.mp hv).1
          obtain ⟨t, e⟩ := PyProof.Rows.IntsAre.int_at hit i v (by rw [Array.getElem?_toList]; exact hv)
          refine ⟨ns[i], t, List.getElem?_eq_getElem hi, ?_⟩
          rw [e, List.getD_eq_getElem?_getD, List.getElem?_eq_getElem hi] <;> rfl
        refine set_update_ints ((Walks.list hh3 _ l hneI items).toS) s.heap.objs.size
          hSf ns hisz hb hval (items.size - 0) 0 _ (by omega) (Nat.zero_le _)
          ⟨⟨_, Heap.get?_push_size _ rfl, rfl, rfl⟩, (hl1.push _)⟩ ?hS0 ?hR
        case hS0 =>
          have hget : ((s.heap.push { cls := .type "set", dict := none, data := .set #[] 0 (.fresh 0 0 (!w.params.followText "set-order")) }).push { cls := .type "list_iterator", data := .fields #[.ref l, .int 0 0] }).get? s.heap.objs.size
              = some { cls := .type "set", dict := none, data := .set #[] 0 (.fresh 0 0 (!w.params.followText "set-order")) } := Heap.get?_push_of_some _ hS
          exact ⟨0, Nat.le_refl 0, setR_new_at hget⟩
        case hR =>
          intro s' c' hm hc' hS'
          obtain ⟨h', g2, d', tk', os'⟩ := s'
          have eg : g2 = s.gens := hm.gens
          have ed : d' = s.drawn := hm.drawn
          have eo : os' = s.os := hm.os
          subst eg; subst ed; subst eo
          show wpAny _ _ _ _ _ _
          refine wpAny_pure ?_
          show wpAny _ _ (ret Value.none) _ _ _
          rw [hisz] at hc'
          refine wpAny_pure ⟨rfl, h', tk', c', rfl, hS', hc', fun b o e => ?_⟩
          have hb0 : b < s.heap.objs.size := Heap.lt_size e
          have hb1 : b ≠ s.heap.objs.size := Nat.ne_of_lt hb0
          have hb2 : b ≠ (s.heap.push { cls := .type "set", dict := none, data := .set #[] 0 (.fresh 0 0 (!w.params.followText "set-order")) }).objs.size := by
            rw [Heap.size_push]; exact Nat.ne_of_lt (Nat.lt_succ_of_lt hb0)
          exact hm.heap b o (by simp only [List.mem_cons, List.mem_singleton, List.not_mem_nil, or_false, not_or]; exact ⟨hb1, hb2⟩) (Heap.get?_push_of_some _ (Heap.get?_push_of_some _ e))

      · cases r₂ with
        | error e => exact hr₂
        | ok fl₂ =>
          cases fl₂ with
          | ret r =>
            obtain ⟨rfl, h', tk, c', rfl, hS', hc', hk'⟩ := hr₂
            repeat (any_goals (first | assumption | wp_step))
            exact h _ _ _ hS' hc' hk'
          | _ => exact hr₂.elim
    | _ => exact hr.elim

end
end L2

/-! MP set: sorted(set(..)) of ints. -/
namespace MP
open PySem PySem.Spec PyProof.Rows L2
theorem sorted_uniq : ∀ {xs ys : List Int}, xs.Pairwise (· < ·) → ys.Pairwise (· < ·) → (∀ k, k ∈ xs ↔ k ∈ ys) → xs = ys
  | [], [], _, _, _ => rfl
  | [], y :: ys, _, _, h => absurd ((h y).mpr List.mem_cons_self) (by simp)
  | x :: xs, [], _, _, h => absurd ((h x).mp List.mem_cons_self) (by simp)
  | x :: xs, y :: ys, hx, hy, h => by
    obtain ⟨x1, x2⟩ := List.pairwise_cons.mp hx
    obtain ⟨y1, y2⟩ := List.pairwise_cons.mp hy
    have e : x = y := by
      rcases List.mem_cons.mp ((h x).mp List.mem_cons_self) with e | m
      · exact e
      · rcases List.mem_cons.mp ((h y).mpr List.mem_cons_self) with e | m2
        · exact e.symm
        · have := y1 x m
          have := x1 y m2
          omega
    subst e
    rw [sorted_uniq x2 y2 fun k => ⟨fun m => by
      rcases List.mem_cons.mp ((h k).mp (List.mem_cons_of_mem _ m)) with e | m2
      · subst e; exact absurd (x1 k m) (Int.lt_irrefl _)
      · exact m2, fun m => by
      rcases List.mem_cons.mp ((h k).mpr (List.mem_cons_of_mem _ m)) with e | m2
      · subst e; exact absurd (y1 k m) (Int.lt_irrefl _)
      · exact m2⟩]
theorem insU_mem {x k : Int} : ∀ {r : List Int}, k ∈ insU x r ↔ k = x ∨ k ∈ r
  | [] => by simp [insU]
  | y :: r => by
    unfold insU
    split
    · simp
    · split
      · rename_i e; subst e; simp
      · rw [List.mem_cons, insU_mem, List.mem_cons]
        constructor
        · rintro (h | h | h)
          · exact .inr (.inl h)
          · exact .inl h
          · exact .inr (.inr h)
        · rintro (h | h | h)
          · exact .inr (.inl h)
          · exact .inl h
          · exact .inr (.inr h)
theorem insU_lt {x : Int} : ∀ {r : List Int}, r.Pairwise (· < ·) → (insU x r).Pairwise (· < ·)
  | [], _ => by simp [insU]
  | y :: r, h => by
    obtain ⟨h1, h2⟩ := List.pairwise_cons.mp h
    unfold insU
    split
    · rename_i hl
      refine List.pairwise_cons.mpr ⟨fun z hz => ?_, h⟩
      rcases List.mem_cons.mp hz with e | hz
      · rw [e]; exact hl
      · have := h1 z hz; omega
    · split
      · exact h
      · rename_i h3 h4
        refine List.pairwise_cons.mpr ⟨fun z hz => ?_, insU_lt h2⟩
        rcases insU_mem.mp hz with e | hz
        · rw [e]; omega
        · exact h1 z hz
theorem sset_mem {k : Int} : ∀ {ns : List Int}, k ∈ sset ns ↔ k ∈ ns
  | [] => by simp [sset]
  | n :: r => by
    show k ∈ insU n (sset r) ↔ _
    rw [insU_mem, sset_mem, List.mem_cons]
theorem sset_lt : ∀ ns : List Int, (sset ns).Pairwise (· < ·)
  | [] => List.Pairwise.nil
  | _ :: r => insU_lt (sset_lt r)
section
variable {T : Tb} {Φ : Fns} {N : List Str} {sc : Scope} {X : Cx} {a : Expr} {pos p p2 q : Pos} {ca : CE} {j j2 : Nat}
/-- the set, then what is done with it -/
theorem set_of {pins : List (Addr × Obj)} {s : Shared} {σ : L2.St} {H : Hp} {as : List Addr} {G : Hp} {D : DS} {v : V} {u : Value} {x : PV} {xs : List PV} {ns : List Int} {E : Value → Shared → Prop} {Q : Value → Shared → Prop} (hc : X.calm = true) (I : Inv X pins σ H s) (w : Wd as X.K G H D) (r : TrR as X.K G H v x) (ru : RelV v u)
    (e1 : seqOf x = some xs) (e2 : mapO intOf xs = some ns) (hb : ns.length ≤ 4000)
    (h : ∀ (h' : Heap) (tk c : Nat), SetR X.w h' s.heap.objs.size (fun j => decide (j ∈ ns)) c → Inv X pins σ H { s with heap := h', toks := tk } → Q (.ref s.heap.objs.size) { s with heap := h', toks := tk }) :
    wpAny (model X.prog X.w) X.A (call (.type "set") [u]) Q E s := by
  obtain ⟨l, vs, rfl, h1, t1⟩ := r.seq w e1
  have := ints_tr t1 e2
  subst this
  cases ru
  rcases h1 with h1 | ⟨h1, _, _⟩
  · obtain ⟨its, rv, pl, hz⟩ := I.list (.of h1)
    exact set_of_list (P := X.prog) ns (I.ok.hd hc) pl.isList (by simpa using rv.ints) (by unfold scanBound; omega) fun h' tk c hS _ hk => h h' tk c hS (I.kept hk)
  · obtain ⟨its, rv, pl, hz⟩ := I.tuple (.inl h1)
    exact call_set_tupI (P := X.prog) ns (I.ok.hd hc) pl (by simpa using rv.ints) (by unfold scanBound; omega) fun h' tk c hS _ hk => h h' tk c hS (I.kept hk)
theorem f_sset (g : Gd T Φ N sc X) (hg : sc.names.lookup ("sorted" : Str) = some .globalImplicit) (hm : T.fr[j]? = some ("sorted" : Str)) (hg2 : sc.names.lookup ("set" : Str) = some .globalImplicit) (hm2 : T.fr[j2]? = some ("set" : Str)) (ha : PO_ Φ X a ca)
    (na : starEach [a] X.env = (false, eval a X.env) :: starEach [] X.env := by rfl) : PF_ Φ X (.Call (.Name "sorted" p) [.Call (.Name "set" p2) [a] [] q] [] pos) (.bi .sortedSet (.cons ca .nil)) := by
  refine ⟨fun pins s σ H Q I ⟨as, G, ρ, D, y, D', w, r, ee, f⟩ => ?_⟩
  obtain ⟨⟨ws, D1⟩, e1, ee⟩ := Option.bind_eq_some_iff.mp ee
  obtain ⟨ys, e2, ee⟩ := Option.bind_eq_some_iff.mp ee
  obtain ⟨z, e3, ee⟩ := Option.map_eq_some_iff.mp ee
  cases ee
  obtain ⟨⟨x, D2⟩, e4, e5⟩ := Option.bind_eq_some_iff.mp (show (ev Φ ca ρ D).bind (fun r => (evs Φ .nil ρ r.2).map fun q => (r.1 :: q.1, q.2)) = some (ws, _) from e1)
  obtain ⟨⟨zs, D3⟩, e6, e7⟩ := Option.map_eq_some_iff.mp e5
  have e6 : some (([] : List PV), D2) = some (zs, D3) := e6
  cases e6
  cases e7
  obtain ⟨x', e8, e9⟩ := Option.bind_eq_some_iff.mp (show (opd _ x).bind (fun y => (mapO (opd _) []).bind fun ys => some (y :: ys)) = some ys from e2)
  have e9 : some [x'] = some ys := e9
  cases e9
  obtain ⟨xs, e10, e11⟩ := Option.bind_eq_some_iff.mp (show (seqOf x').bind (fun xs => (mapO intOf xs).bind fun ns => if ns.length ≤ 4000 ∧ (sset ns).length < 64 then some (PV.lst ((sset ns).map .int)) else none) = some y from e3)
  obtain ⟨ns, e12, e13⟩ := Option.bind_eq_some_iff.mp e11
  split at e13
  case isFalse => cases e13
  rename_i hlim
  cases e13
  refine Call_ (ld_blt I (gl_of g hg) (g.fr j _ hm) (show bootBuiltins "sorted" = some (.builtin "sorted") by decide +kernel) ?_)
  refine PyProof.Rows.callWith_builtin1 (PyProof.Rows.args_cons ?_ rfl) rfl rfl
  refine Call_ (ld_blt I (gl_of g hg2) (g.fr j2 _ hm2) PyProof.Rows.boot_set ?_)
  refine PyProof.Rows.callWith_type1 (PyProof.Rows.args_cons (thn (ha.run pins s σ H (fun v H1 => ∃ G1, Stp as G H G1 H1 ∧ Wd as X.K G1 H1 _ ∧ TrO as X.K G1 H1 v x) I ⟨as, G, ρ, D, x, _, w, r, e4, fun v G1 H1 st w1 t => ⟨G1, st, w1, t⟩⟩) fun v s1 ⟨x1, H1, I1, r1, G1, st1, w1, t1⟩ => PyProof.Rows.args_nil ?_) na) na rfl
  refine set_of g.calm I1 w1 (t1.opd w1 e8) r1 e10 e12 hlim.1 fun h' tk c hS I2 => ?_
  refine PyProof.Rows.args_nil ?_
  have hc : c = (sset ns).length := by
    obtain ⟨o, es, ep, t, ho, hex, hd, hg, hnd, hmm, hb, hf, hn, hr, hl⟩ := hS
    have p1 : (es.toList.map keyOf).Perm (sset ns) := by
      refine (List.perm_ext_iff_of_nodup hnd ((sset_lt ns).imp fun {a b} h e => absurd h (by rw [e]; exact Int.lt_irrefl _))).mpr fun k => ?_
      rw [sset_mem, ← hmm k]
      exact decide_eq_true_iff
    have := p1.length_eq
    rw [List.length_map, Array.length_toList] at this
    omega
  refine sorted_set (P := X.prog) hS (I2.ok.hd g.calm) (by omega) fun s' p out c' ns' k gg oo hp hgg hi hs hmm hl => ?_
  have en : ns' = sset ns := sorted_uniq hs (sset_lt ns) fun k => by rw [hmm k, sset_mem]; exact decide_eq_true_iff
  subst en
  have hlen : ((sset ns).map V.int).length ≤ sizeLine := by rw [List.length_map, sizeLine_eq]; omega
  have hn : H1 p = none := I2.hok.fresh hp
  have J : Inv X pins σ (upd H1 p (.lst ((sset ns).map V.int))) { s1 with heap := s'.heap, gens := s'.gens, drawn := s'.drawn, toks := s'.toks } :=
    Inv.call (s := { s1 with heap := h', toks := tk }) (ch := []) I2 (Un.laid k hp hn) (I2.hok.laid k hp ⟨hlen, out.toList, c', vals_of_ints hi, hgg⟩) (by rw [gg]; exact I2.bare) (fun _ z => nomatch z)
  have e : s' = { s1 with heap := s'.heap, gens := s'.gens, drawn := s'.drawn, toks := s'.toks } := by
    cases s'
    cases s1
    cases oo
    rfl
  rw [e]
  exact ⟨.ref p, _, J, rfl, f p G1 _ (st1.trans (Stp.own hn)) (w1.ownp hn) (none_back st1 hn) (w1.free hn) ⟨_, upd_same, TrS.ints _⟩⟩
end
end MP

/-! MP mf: displays of dicts, stores with an operator. -/
namespace MP
open PySem PySem.Spec PyProof.Rows L2

section
variable {T : Tb} {Φ : Fns} {N : List Str} {sc : Scope} {X : Cx} {e a b tg k : Expr} {pos p p2 : Pos} {c ck ca cb : CE} {j j2 : Nat}
/-! ### {k: v, ..} -/
def trsOf (K : PySem.W.Frag) (Φ : Fns) : CPs → List (TE × TE)
  | .nil => []
  | .cons k v r => (tE K Φ k, tE K Φ v) :: trsOf K Φ r
abbrev PD_ (Φ : Fns) (X : Cx) (pos : Pos) (ks : List (Option Expr)) (vs : List Expr) (c : CPs) : Prop := PPs X pos ks vs (trsOf X.K Φ c)
theorem d_nil : PD_ Φ X pos [] [] .nil := pps_nil
theorem d_cons {ks : List (Option Expr)} {vs : List Expr} {cs : CPs} (hk : PV_ Φ X k ck) (hv : PV_ Φ X e c) (hr : PD_ Φ X pos ks vs cs) : PD_ Φ X pos (some k :: ks) (e :: vs) (.cons ck c cs) := pps_cons hk hv hr
def CPs.len : CPs → Nat
  | .nil => 0
  | .cons _ _ r => r.len + 1
theorem pairs_ok {K : PySem.W.Frag} : ∀ {cs : CPs} {as : List Addr} {G H : Hp} {ρ : Envi} {D D' : DS} {kvs : List (PV × PV)} {σ : L2.St} {Q : List (V × V) → Hp → Prop}, Wd as K G H D → Rp as K G H σ ρ → evd Φ cs ρ D = some (kvs, D') → (kvs.all fun p => isKey 0 p.1) = true →
    (∀ (ks : List (Key × V)) (G' H' : Hp), Stp as G H G' H' → Wd as K G' H' D' → TrK as K G' ks kvs → ks.length = cs.len → Q (ks.map fun kv => (kV kv.1, kv.2)) H') → tPairs (trsOf K Φ cs) σ H Q
  | .nil, as, G, H, ρ, D, D', kvs, σ, Q, w, r, e, _, f => by
    have e' : some (([] : List (PV × PV)), D) = some (kvs, D') := e
    cases e'
    exact f [] G H (Stp.refl _ _ _) w .nil rfl
  | .cons ck cv cs, as, G, H, ρ, D, D', kvs, σ, Q, w, r, e, hk, f => by
    obtain ⟨⟨kx, D1⟩, e1, e⟩ := Option.bind_eq_some_iff.mp (show (ev Φ ck ρ D).bind (fun x => (ev Φ cv ρ x.2).bind fun q => (evd Φ cs ρ q.2).map fun z => ((x.1, q.1) :: z.1, z.2)) = some (kvs, D') from e)
    obtain ⟨⟨vx, D2⟩, e2, e⟩ := Option.bind_eq_some_iff.mp e
    obtain ⟨⟨r2, D3⟩, e3, e⟩ := Option.map_eq_some_iff.mp e
    cases e
    rw [List.all_cons, Bool.and_eq_true] at hk
    refine ⟨as, G, ρ, D, kx, D1, w, r, e1, fun kv G1 H1 st1 w1 t1 => ⟨as, G1, ρ, D1, vx, D2, w1, r.up st1, e2, fun v G2 H2 st2 w2 t2 => ?_⟩⟩
    refine pairs_ok w2 ((r.up st1).up st2) e3 hk.2 fun ks G' H' st w' t hl => ?_
    obtain ⟨kk, ek⟩ := isKey0 hk.1
    have ek : kx = kPV kk := ek
    subst ek
    have := t1.key
    subst this
    exact f ((kk, v) :: ks) G' H' ((st1.trans st2).trans st) w' (.cons (t2.up st.le) t) (by rw [List.length_cons, hl]; rfl)
theorem f_dsp {ks : List (Option Expr)} {vs : List Expr} {cs : CPs} (h : PD_ Φ X pos ks vs cs) (hall : ks.all (·.isSome) = true := by rfl) (hl : ks.length = vs.length := by rfl) (h0 : ks ≠ [] := by exact fun z => nomatch z) (h15 : ks.length ≤ 15 := by decide) (hcl : cs.len ≤ 15 := by decide) :
    PF_ Φ X (.Dict ks vs pos) (.dsp 0 cs) :=
  pe_imp (pe_disp h hall hl h0 h15) fun σ H Q ⟨as, G, ρ, D, y, D', w, r, ee, f⟩ => by
    obtain ⟨⟨kvs, D1⟩, e1, ee⟩ := Option.bind_eq_some_iff.mp ee
    split at ee
    case isFalse => cases ee
    rename_i hk
    cases ee
    intro p hp
    have st0 : Stp as G H G (upd H p (.dK [])) := Stp.own hp
    have hna : p ∉ as := w.offp hp
    refine pairs_ok (w.ownp hp) (r.up st0) e1 hk fun ks' G' H' st w' t hl' => ?_
    have hH' : H' p = some (.dK []) := st.kp _ _ hna upd_same
    have hG' : G' p = none := by
      cases q : G' p with
      | none => rfl
      | some o =>
        rcases st.nw p (by rw [q]; exact fun z => nomatch z) with z | z
        · exact absurd (w.free hp) z
        · rw [upd_same] at z; cases z
    refine ⟨hH', ks', rfl, by rw [hl']; exact hcl, ?_⟩
    exact f p G' _ ((st0.trans st).mut hp) (w'.mut hG' hna) hp hG' (.inl ⟨rfl, _, upd_same, TrK.merge .nil t⟩)
theorem f_dnewK : PF_ Φ X (.Dict [] [] pos) (.dsp 0 .nil) :=
  pe_imp pe_dnewK fun σ H Q ⟨as, G, ρ, D, y, D', w, r, ee, f⟩ => by
    cases ee
    exact fun p hp => f p G _ (Stp.own hp) (w.ownp hp) hp (w.free hp) (.inl ⟨rfl, _, upd_same, .nil⟩)
theorem f_dnewT : PF_ Φ X (.Dict [] [] pos) (.dsp 1 .nil) :=
  pe_imp pe_dnewT fun σ H Q ⟨as, G, ρ, D, y, D', w, r, ee, f⟩ => by
    cases ee
    exact fun p hp => f p G _ (Stp.own hp) (w.ownp hp) hp (w.free hp) (.inr ⟨rfl, _, upd_same, .nil⟩)
/-! ### xs[k] op= e -/
def rGetM (K : PySem.W.Frag) : V → V → Hp → VK → Prop := fun x y H Q => ∃ as G D px py z, Wd as K G H D ∧ TrR as K G H x px ∧ isLD px = true ∧ TrR as K G H y py ∧ pIdx px py = some z ∧ ∀ v, Tr as K G v z → Q v H
theorem get_M (hu : X.A.units + 65 < cLine) : PGet X (rGetM X.K) := by
  intro pins s σ H o i ov iv Q I ro ri ⟨as, G, D, px, py, z, w, to, hld, ti, e, q⟩
  cases px with
  | lst xs =>
    cases py with
    | int n =>
      obtain ⟨jj, e1, e2⟩ := Option.bind_eq_some_iff.mp (show (MP.ixN xs.length n).bind (fun j => xs[j]?) = some z from e)
      obtain ⟨p, vs, rfl, h1, t1⟩ := to.lst w
      have := ti.int
      subst this
      cases ro
      obtain ⟨t, rfl⟩ := ri
      obtain ⟨vj, g1, g2⟩ := t1.get e2
      obtain ⟨its, r, pl, hz⟩ := I.list (.of h1)
      have he : atI vs n = some vj := by
        unfold atI
        rw [t1.len, ← ixN_eq, e1]
        exact g1
      obtain ⟨j, q1, q2, q3, q4, q5⟩ := atI_get he
      obtain ⟨w', ew, rw'⟩ := r.get q2
      have hl := r.length
      have hn := line63
      have fin : EP X pins σ Q w' s := ⟨vj, H, I, rw', q vj g2⟩
      by_cases h0 : 0 ≤ n
      · have hj : n.toNat = j := by
          rw [seqIndex_of h0 q5] at q1
          exact Option.some.inj q1
        exact wpAny_getItem_list pl.isList h0 (by omega) (by rw [hj]; simpa using ew) fin
      · have hj : (n + (its.toArray.size : Int)).toNat = j := by
          rw [seqIndex_neg (by omega) q4] at q1
          rw [List.size_toArray, ← hl]
          exact Option.some.inj q1
        exact wpAny_getItem_list_neg pl.isList (by omega) (by rw [List.size_toArray] <;> omega) (by omega) (by rw [hj]; simpa using ew) fin
    | _ => cases e
  | dct t kvs =>
    have e' : (if isKey t py then dGet py kvs else none) = some z := e
    split at e'
    · rename_i hk
      obtain ⟨p, oo, rfl, g, ho⟩ := dget_of w to ti hk
      rcases ho with ⟨h1, h2⟩ | ⟨vv, zz, h1, h2, h3⟩
      · rw [h2] at e'; cases e'
      · rw [h2] at e'
        cases e'
        subst h1
        cases ro
        exact d_getItem (by omega) I g ri fun w' s' I' rw' => ⟨vv, H, I', rw', q vv h3⟩
    · cases e'
  | _ => cases hld
theorem slot_of {as0 as : List Addr} {K : PySem.W.Frag} {G0 H0 G H : Hp} {σ : L2.St} {ρ ρ' : Envi} {D D' D0 : DS} {f : PV → Option PV} {i : Nat} (S : Sti as0 as K G0 H0 G H σ ρ D0) (h : chg f i ρ D = some (ρ', D')) :
    ∃ a x, σ[i]? = some (some (.ref a)) ∧ borS ρ i = some x ∧ TrO as K G H (.ref a) x := by
  unfold chg at h
  split at h
  · rename_i y hy
    obtain ⟨a, e, hG, ha, ow⟩ := S.r.own i y hy
    exact ⟨a, y, e, by unfold borS; rw [hy], .inr ⟨a, rfl, hG, ha, ow⟩⟩
  · rename_i jj hy
    obtain ⟨w, e, t⟩ := S.r.frz i _ hy
    cases t with
    | shr hq => exact ⟨_, _, e, by unfold borS; rw [hy], .inl (.shr hq)⟩
  · cases h
theorem s_augI {i : Nat} {x : Str} {np tpos : Pos} {op : Bo} {o : Operator} (g : Gd T Φ N sc X) (hi : N[i]? = some x) (hv : Vis sc x) (hk : PV_ Φ X k ck) (he : PV_ Φ X e c) (ho : o = boT op := by rfl)
    (ha : ∀ ov iv new, augStore k ov iv new = (do holding [new, ov, iv] (setItem ov iv new); release [new, ov, iv] []; pure .next) := by intros; rfl)
    (hd : (x == ("__debug__" : Str)) = false := by decide) (hcd : (x == ("__classdict__" : Str)) = false := by decide) : PS_ Φ X (.AugAssign (.Subscript (.Name x np) k tpos) o e pos) (.augI i ck op c) := by
  subst ho
  refine ps_imp (ps_augS (pv_slot g hi hv hd hcd) hk (get_M g.un) he (ip_M op) (set_M (by have := g.un; omega)) ha) fun E σ H ⟨as0, G0, H0, as, G, ρ, D, o, ρ', D', S, ee, f⟩ => ?_
  obtain ⟨⟨kx, D1⟩, e1, ee⟩ := Option.bind_eq_some_iff.mp (show (ev Φ ck ρ D).bind (fun q => (borS ρ i).bind fun c' => (opd q.2 c').bind fun o => (if isLD o then pIdx o q.1 else none).bind fun old => (ev Φ c ρ q.2).bind fun r => (pIp op old r.1).bind fun z =>
      (chg (fun y => pSet y q.1 z) i ρ r.2).map fun t => (Out.nx, t.1, t.2)) = some (o, ρ', D') from ee)
  obtain ⟨cx, e2, ee⟩ := Option.bind_eq_some_iff.mp ee
  obtain ⟨ox, e3, ee⟩ := Option.bind_eq_some_iff.mp ee
  obtain ⟨old, e4', ee⟩ := Option.bind_eq_some_iff.mp ee
  obtain ⟨hld, e4⟩ : isLD ox = true ∧ pIdx ox kx = some old := by
    have e : (if isLD ox = true then pIdx ox kx else none) = some old := e4'
    split at e
    · exact ⟨by assumption, e⟩
    · cases e
  obtain ⟨⟨vx, D2⟩, e5, ee⟩ := Option.bind_eq_some_iff.mp ee
  obtain ⟨z, e6, ee⟩ := Option.bind_eq_some_iff.mp ee
  obtain ⟨⟨ρ2, D3⟩, e7, ee⟩ := Option.map_eq_some_iff.mp ee
  cases ee
  obtain ⟨q, cx', ea, eb, tq⟩ := slot_of S e7
  rw [e2] at eb
  cases eb
  obtain ⟨m, n, kk, rfl, rfl', rfl⟩ := pIp_ints e6
  have rfl' : vx = .int n := rfl'
  subst rfl'
  refine ⟨_, ea, as, G, ρ, D, kx, D1, S.w, S.r, e1, fun kv G1 H1 st1 w1 t1 => ?_⟩
  have S1 := S.adv st1 w1
  refine ⟨as, G1, D1, ox, kx, .int m, w1, (tq.up st1).opd w1 e3, hld, .inl t1, e4, fun v0 t0 => ?_⟩
  cases t0
  refine ⟨as, G1, ρ, D1, .int n, D2, w1, S1.r, e5, fun v2 G2 H2 st2 w2 t2 => ?_⟩
  cases t2
  have S2 := S1.adv st2 w2
  refine ⟨m, n, kk, rfl, rfl, e6, ?_⟩
  obtain ⟨a', y, z', ea', ow, hz, fin⟩ := chg_ok S2 e7 (fun x => pSet_lck _ _ x)
  rw [ea] at ea'
  cases ea'
  obtain ⟨o, ow', q⟩ := put_ok w2 ow (t1.up st2.le) (.int kk) hz
  exact q _ (f as σ G2 _ (.same (st1.le.trans st2.le)) (fin o ow'))
end
end MP

/-! MP go: the rules as the printer takes them. -/
namespace MP
open PySem PySem.Spec PyProof.Rows L2

def visB (sc : Scope) (x : Str) : Bool := match sc.names.lookup x with
  | some .local => true
  | some .cell => true
  | some .free => true
  | _ => false
def locB (sc : Scope) (x : Str) : Bool := match sc.names.lookup x with
  | some .local => true
  | some .cell => true
  | _ => false
def isLoc (sc : Scope) (x : Str) : Bool := match sc.names.lookup x with
  | some .local => true
  | _ => false
def isGlo (sc : Scope) (x : Str) : Bool := match sc.names.lookup x with
  | some .globalImplicit => true
  | _ => false
def okN (x : Str) : Bool := !(x == ("__debug__" : Str)) && !(x == ("__classdict__" : Str)) && !decide (x = "__name__")
theorem vis_of {sc : Scope} {x : Str} (h : visB sc x = true) : Vis sc x := by
  unfold visB at h
  split at h
  · exact .inl (by assumption)
  · exact .inr (.inl (by assumption))
  · exact .inr (.inr (by assumption))
  · cases h
theorem loc_of {sc : Scope} {x : Str} (h : locB sc x = true) : Loc sc x := by
  unfold locB at h
  split at h
  · exact .inl (by assumption)
  · exact .inr (by assumption)
  · cases h
theorem isLoc_of {sc : Scope} {x : Str} (h : isLoc sc x = true) : sc.names.lookup x = some .local := by
  unfold isLoc at h
  split at h
  · assumption
  · cases h
theorem isGlo_of {sc : Scope} {x : Str} (h : isGlo sc x = true) : sc.names.lookup x = some .globalImplicit := by
  unfold isGlo at h
  split at h
  · assumption
  · cases h
theorem okN_of {x : Str} (h : okN x = true) : (x == ("__debug__" : Str)) = false ∧ (x == ("__classdict__" : Str)) = false ∧ x ≠ "__name__" := by
  unfold okN at h
  simp only [Bool.and_eq_true, Bool.not_eq_true', decide_eq_false_iff_not] at h
  exact ⟨h.1.1, h.1.2, h.2⟩
def varB (N : List Str) (sc : Scope) (i : Nat) (x : Str) : Bool := decide (N[i]? = some x) && visB sc x && okN x
def stoB (N : List Str) (sc : Scope) (i : Nat) (x : Str) : Bool := decide (N[i]? = some x) && locB sc x
def lstB (N : List Str) (sc : Scope) (i : Nat) (x : Str) : Bool := decide (N[i]? = some x) && isLoc sc x
def gloB (T : Tb) (sc : Scope) (j : Nat) (x : Str) : Bool := decide (T.fr[j]? = some x) && isGlo sc x && okN x
def fnB (T : Tb) (sc : Scope) (j m : Nat) (x : Str) : Bool := decide (T.fns[j]? = some (x, m)) && isGlo sc x && okN x
def cstB (T : Tb) (sc : Scope) (j : Nat) (x s : Str) : Bool := decide (T.cs[j]? = some (x, s)) && isGlo sc x && okN x
section
variable {T : Tb} {Φ : Fns} {N : List Str} {sc : Scope} {X : Cx} {e a b tg k f : Expr} {es : List Expr} {pos p p2 q np : Pos} {c ck ca cb cf : CE} {cs : CEs} {i j j2 : Nat} {x y : Str}
theorem varB_of (h : varB N sc i x = true) : N[i]? = some x ∧ Vis sc x ∧ (x == ("__debug__" : Str)) = false ∧ (x == ("__classdict__" : Str)) = false := by
  unfold varB at h
  simp only [Bool.and_eq_true, decide_eq_true_eq] at h
  exact ⟨h.1.1, vis_of h.1.2, (okN_of h.2).1, (okN_of h.2).2.1⟩
theorem stoB_of (h : stoB N sc i x = true) : N[i]? = some x ∧ Loc sc x := by
  unfold stoB at h
  simp only [Bool.and_eq_true, decide_eq_true_eq] at h
  exact ⟨h.1, loc_of h.2⟩
theorem lstB_of (h : lstB N sc i x = true) : N[i]? = some x ∧ sc.names.lookup x = some .local := by
  unfold lstB at h
  simp only [Bool.and_eq_true, decide_eq_true_eq] at h
  exact ⟨h.1, isLoc_of h.2⟩
theorem gloB_of (h : gloB T sc j x = true) : T.fr[j]? = some x ∧ sc.names.lookup x = some .globalImplicit ∧ (x == ("__debug__" : Str)) = false ∧ x ≠ "__name__" := by
  unfold gloB at h
  simp only [Bool.and_eq_true, decide_eq_true_eq] at h
  exact ⟨h.1.1, isGlo_of h.1.2, (okN_of h.2).1, (okN_of h.2).2.2⟩
theorem fnB_of {m : Nat} (h : fnB T sc j m x = true) : T.fns[j]? = some (x, m) ∧ sc.names.lookup x = some .globalImplicit ∧ (x == ("__debug__" : Str)) = false := by
  unfold fnB at h
  simp only [Bool.and_eq_true, decide_eq_true_eq] at h
  exact ⟨h.1.1, isGlo_of h.1.2, (okN_of h.2).1⟩
theorem cstB_of {s : Str} (h : cstB T sc j x s = true) : T.cs[j]? = some (x, s) ∧ sc.names.lookup x = some .globalImplicit ∧ (x == ("__debug__" : Str)) = false := by
  unfold cstB at h
  simp only [Bool.and_eq_true, decide_eq_true_eq] at h
  exact ⟨h.1.1, isGlo_of h.1.2, (okN_of h.2).1⟩
theorem gv (g : Gd T Φ N sc X) (h : varB N sc i x = true := by decide +kernel) : PV_ Φ X (.Name x pos) (.var i) := let ⟨h1, h2, h3, h4⟩ := varB_of h; v_var g h1 h2 h3 h4
theorem gb (g : Gd T Φ N sc X) (h : varB N sc i x = true := by decide +kernel) : PO_ Φ X (.Name x pos) (.bor i) := let ⟨h1, h2, h3, h4⟩ := varB_of h; o_bor g h1 h2 h3 h4
theorem gc {s : Str} (g : Gd T Φ N sc X) (j : Nat) (h : cstB T sc j x s = true := by decide +kernel) : PV_ Φ X (.Name x pos) (.cst x s) := let ⟨h1, h2, h3⟩ := cstB_of h; v_cst g h1 h2 h3
/-- one operand as a list -/
theorem b1 (ha : PO_ Φ X e c) (hs : starEach [e] X.env = (false, eval e X.env) :: starEach [] X.env := by rfl) : PB_ Φ X [e] (.cons c .nil) := b_cons ha b_nil hs
theorem g_len (g : Gd T Φ N sc X) (j : Nat) (ha : PO_ Φ X e c) (h : gloB T sc j "len" = true := by decide +kernel) (he : starEach [e] X.env = (false, eval e X.env) :: starEach [] X.env := by rfl) : PV_ Φ X (.Call (.Name "len" p) [e] [] pos) (.bi .len (.cons c .nil)) :=
  let ⟨h1, h2, h3, h4⟩ := gloB_of h; v_biB g bi_len h2 h1 (by decide +kernel) (b1 ha he) h4 h3 he rfl
theorem g_abs (g : Gd T Φ N sc X) (j : Nat) (ha : PO_ Φ X e c) (h : gloB T sc j "abs" = true := by decide +kernel) (he : starEach [e] X.env = (false, eval e X.env) :: starEach [] X.env := by rfl) : PV_ Φ X (.Call (.Name "abs" p) [e] [] pos) (.bi .abs (.cons c .nil)) :=
  let ⟨h1, h2, h3, h4⟩ := gloB_of h; v_biB g bi_abs h2 h1 (by decide +kernel) (b1 ha he) h4 h3 he rfl
theorem g_all (g : Gd T Φ N sc X) (j : Nat) (ha : PO_ Φ X e c) (h : gloB T sc j "all" = true := by decide +kernel) (he : starEach [e] X.env = (false, eval e X.env) :: starEach [] X.env := by rfl) : PV_ Φ X (.Call (.Name "all" p) [e] [] pos) (.bi .all (.cons c .nil)) :=
  let ⟨h1, h2, h3, h4⟩ := gloB_of h; v_biB g (bi_all g.calm) h2 h1 (by decide +kernel) (b1 ha he) h4 h3 he rfl
theorem g_any (g : Gd T Φ N sc X) (j : Nat) (ha : PO_ Φ X e c) (h : gloB T sc j "any" = true := by decide +kernel) (he : starEach [e] X.env = (false, eval e X.env) :: starEach [] X.env := by rfl) : PV_ Φ X (.Call (.Name "any" p) [e] [] pos) (.bi .any (.cons c .nil)) :=
  let ⟨h1, h2, h3, h4⟩ := gloB_of h; v_biB g (bi_any g.calm) h2 h1 (by decide +kernel) (b1 ha he) h4 h3 he rfl
theorem g_sum (g : Gd T Φ N sc X) (j : Nat) (ha : PO_ Φ X e c) (h : gloB T sc j "sum" = true := by decide +kernel) (he : starEach [e] X.env = (false, eval e X.env) :: starEach [] X.env := by rfl) : PV_ Φ X (.Call (.Name "sum" p) [e] [] pos) (.bi .sum (.cons c .nil)) :=
  let ⟨h1, h2, h3, h4⟩ := gloB_of h; v_biB g (bi_sum g.calm) h2 h1 (by decide +kernel) (b1 ha he) h4 h3 he rfl
theorem g_min (g : Gd T Φ N sc X) (j : Nat) (ha : PO_ Φ X e c) (h : gloB T sc j "min" = true := by decide +kernel) (he : starEach [e] X.env = (false, eval e X.env) :: starEach [] X.env := by rfl) : PV_ Φ X (.Call (.Name "min" p) [e] [] pos) (.bi .min (.cons c .nil)) :=
  let ⟨h1, h2, h3, h4⟩ := gloB_of h; v_biB g (bi_min g.un g.calm) h2 h1 (by decide +kernel) (b1 ha he) h4 h3 he rfl
theorem g_max (g : Gd T Φ N sc X) (j : Nat) (ha : PO_ Φ X e c) (h : gloB T sc j "max" = true := by decide +kernel) (he : starEach [e] X.env = (false, eval e X.env) :: starEach [] X.env := by rfl) : PV_ Φ X (.Call (.Name "max" p) [e] [] pos) (.bi .max (.cons c .nil)) :=
  let ⟨h1, h2, h3, h4⟩ := gloB_of h; v_biB g (bi_max g.un g.calm) h2 h1 (by decide +kernel) (b1 ha he) h4 h3 he rfl
theorem g_min2 (g : Gd T Φ N sc X) (j : Nat) (ha : PO_ Φ X a ca) (hb : PO_ Φ X b cb) (h : gloB T sc j "min" = true := by decide +kernel) (he : starEach [a, b] X.env = (false, eval a X.env) :: starEach [b] X.env := by rfl) (he2 : starEach [b] X.env = (false, eval b X.env) :: starEach [] X.env := by rfl) (hpl : (backTo pos (starEach [b] X.env)).any (·.1) = false := by rfl) :
    PV_ Φ X (.Call (.Name "min" p) [a, b] [] pos) (.bi .min (.cons ca (.cons cb .nil))) :=
  let ⟨h1, h2, h3, h4⟩ := gloB_of h; v_biB g (bi_min g.un g.calm) h2 h1 (by decide +kernel) (b_cons ha (b1 hb he2) he) h4 h3 he hpl
theorem g_max2 (g : Gd T Φ N sc X) (j : Nat) (ha : PO_ Φ X a ca) (hb : PO_ Φ X b cb) (h : gloB T sc j "max" = true := by decide +kernel) (he : starEach [a, b] X.env = (false, eval a X.env) :: starEach [b] X.env := by rfl) (he2 : starEach [b] X.env = (false, eval b X.env) :: starEach [] X.env := by rfl) (hpl : (backTo pos (starEach [b] X.env)).any (·.1) = false := by rfl) :
    PV_ Φ X (.Call (.Name "max" p) [a, b] [] pos) (.bi .max (.cons ca (.cons cb .nil))) :=
  let ⟨h1, h2, h3, h4⟩ := gloB_of h; v_biB g (bi_max g.un g.calm) h2 h1 (by decide +kernel) (b_cons ha (b1 hb he2) he) h4 h3 he hpl
theorem g_int (g : Gd T Φ N sc X) (j : Nat) (ha : PO_ Φ X e c) (h : gloB T sc j "int" = true := by decide +kernel) (he : starEach [e] X.env = (false, eval e X.env) :: starEach [] X.env := by rfl) : PV_ Φ X (.Call (.Name "int" p) [e] [] pos) (.bi .int (.cons c .nil)) :=
  let ⟨h1, h2, h3, h4⟩ := gloB_of h; v_biT g bi_int h2 h1 (by decide +kernel) (b1 ha he) h4 h3 he rfl
theorem g_tuple (g : Gd T Φ N sc X) (j : Nat) (ha : PO_ Φ X e c) (h : gloB T sc j "tuple" = true := by decide +kernel) (he : starEach [e] X.env = (false, eval e X.env) :: starEach [] X.env := by rfl) : PV_ Φ X (.Call (.Name "tuple" p) [e] [] pos) (.bi .tuple (.cons c .nil)) :=
  let ⟨h1, h2, h3, h4⟩ := gloB_of h; v_biT g bi_tuple h2 h1 (by decide +kernel) (b1 ha he) h4 h3 he rfl
theorem g_list (g : Gd T Φ N sc X) (j : Nat) (ha : PO_ Φ X e c) (h : gloB T sc j "list" = true := by decide +kernel) (he : starEach [e] X.env = (false, eval e X.env) :: starEach [] X.env := by rfl) : PF_ Φ X (.Call (.Name "list" p) [e] [] pos) (.bi .list (.cons c .nil)) :=
  let ⟨h1, h2, h3, h4⟩ := gloB_of h; f_biT g (bi_list g.calm) h2 h1 (by decide +kernel) (b1 ha he) h4 h3 he rfl
theorem g_dict (g : Gd T Φ N sc X) (j : Nat) (ha : PO_ Φ X e c) (h : gloB T sc j "dict" = true := by decide +kernel) (he : starEach [e] X.env = (false, eval e X.env) :: starEach [] X.env := by rfl) : PF_ Φ X (.Call (.Name "dict" p) [e] [] pos) (.bi .dict (.cons c .nil)) :=
  let ⟨h1, h2, h3, h4⟩ := gloB_of h; f_biT g (bi_dict g.calm) h2 h1 (by decide +kernel) (b1 ha he) h4 h3 he rfl
theorem g_sorted (g : Gd T Φ N sc X) (j : Nat) (ha : PO_ Φ X e c) (h : gloB T sc j "sorted" = true := by decide +kernel) (he : starEach [e] X.env = (false, eval e X.env) :: starEach [] X.env := by rfl) : PF_ Φ X (.Call (.Name "sorted" p) [e] [] pos) (.bi .sorted (.cons c .nil)) :=
  let ⟨h1, h2, h3, h4⟩ := gloB_of h; f_biB g (bi_sorted g.un g.calm) h2 h1 (by decide +kernel) (b1 ha he) h4 h3 he rfl
theorem g_sset (g : Gd T Φ N sc X) (j j2 : Nat) (ha : PO_ Φ X a ca) (h : gloB T sc j "sorted" = true := by decide +kernel) (h' : gloB T sc j2 "set" = true := by decide +kernel) (na : starEach [a] X.env = (false, eval a X.env) :: starEach [] X.env := by rfl) :
    PF_ Φ X (.Call (.Name "sorted" p) [.Call (.Name "set" p2) [a] [] q] [] pos) (.bi .sortedSet (.cons ca .nil)) :=
  let ⟨h1, h2, _, _⟩ := gloB_of h; let ⟨k1, k2, _, _⟩ := gloB_of h'; f_sset g h2 h1 k2 k1 ha na
theorem g_isi (t : Ty) (g : Gd T Φ N sc X) (j j2 : Nat) (ha : PO_ Φ X a ca) (hy : y = Str.ofString (tyS t) := by rfl) (h : gloB T sc j "isinstance" = true := by decide +kernel) (h' : gloB T sc j2 y = true := by decide +kernel)
    (he : starEach [a, .Name y p2] X.env = (false, eval a X.env) :: starEach [.Name y p2] X.env := by rfl) : PV_ Φ X (.Call (.Name "isinstance" p) [a, .Name y p2] [] pos) (.isi t ca) := by
  obtain ⟨h1, h2, h3, h4⟩ := gloB_of h
  obtain ⟨k1, k2, k3, k4⟩ := gloB_of h'
  have hv : bootBuiltins y = some (.type (tyS t)) := by
    subst hy
    cases t <;> decide +kernel
  exact v_isi g h2 h1 k2 k1 hv ha k4 k3 he rfl rfl
theorem g_call {m : Nat} (g : Gd T Φ N sc X) (i : Nat) (ha : PA_ Φ X (e :: es) cs) (hl : cs.len = m := by rfl) (h : fnB T sc i m x = true := by decide +kernel)
    (he : starEach (e :: es) X.env = (false, eval e X.env) :: starEach es X.env := by rfl) (hpl : (backTo pos (starEach es X.env)).any (·.1) = false := by rfl) : PV_ Φ X (.Call (.Name x p) (e :: es) [] pos) (.call i cs) :=
  let ⟨h1, h2, h3⟩ := fnB_of h; v_call g h1 h2 ha hl h3 he hpl
theorem g_get2 {apos cpos : Pos} (g : Gd T Φ N sc X) (ha : PO_ Φ X a ca) (hk : PV_ Φ X k ck) (hf : PV_ Φ X f cf)
    (base : attributeBase a "get" X.env (eval a X.env) = eval a X.env := by rfl)
    (few : ((backTo cpos (starEach [k, f] X.env)).all (fun x => !x.1) && (backToKw cpos (keywordEach [] X.env)).all (fun x => x.1.isSome) && decide (([k, f] : List Expr).length + ([] : List Keyword).length + (if ([] : List Keyword).isEmpty then 0 else 1) < 30)) = true := by rfl)
    (line : (apos.endLine == cpos.line) = true := by rfl) (trees : backTo cpos (starEach [k, f] X.env) = [(false, eval k X.env), (false, eval f X.env)] := by rfl) :
    PV_ Φ X (.Call (.Attribute a "get" apos) [k, f] [] cpos) (.met .get2 ca (.cons ck (.cons cf .nil))) := v_get2 g ha hk hf ⟨base, few, line, trees⟩
theorem gi1 (g : Gd T Φ N sc X) (j : Nat) (ha : PV_ Φ X a ca) (h : gloB T sc j "range" = true := by decide +kernel) (hs : starEach [a] X.env = [(false, eval a X.env)] := by rfl) : PI_ Φ X tg (.Call (.Name "range" p) [a] [] pos) (.rng1 ca) :=
  let ⟨h1, h2, _, _⟩ := gloB_of h; i_rng1 g h2 h1 ha hs
theorem gi2 (g : Gd T Φ N sc X) (j : Nat) (ha : PV_ Φ X a ca) (hb : PV_ Φ X b cb) (h : gloB T sc j "range" = true := by decide +kernel) (hs : starEach [a, b] X.env = [(false, eval a X.env), (false, eval b X.env)] := by rfl) (hs2 : starEach [b] X.env = [(false, eval b X.env)] := by rfl) :
    PI_ Φ X tg (.Call (.Name "range" p) [a, b] [] pos) (.rng2 ca cb) :=
  let ⟨h1, h2, _, _⟩ := gloB_of h; i_rng2 g h2 h1 ha hb hs hs2
/-- a name as a target; fn: every name's cell is its own -/
theorem gp (g : Gd T Φ N sc X) (h : stoB N sc i x = true := by decide +kernel) (hf : X.fn x = true ∨ isLoc sc x = true := by first | exact .inr (by decide +kernel) | exact .inl (by rfl)) : PP_ X (.Name x pos) (.nm i) :=
  let ⟨h1, h2⟩ := stoB_of h; p_nm g h1 h2 (hf.imp id isLoc_of)
/-! the order of the stores leans on the scope alone -/
def dE (sc : Scope) : Env := { scope := sc, locals := 0, globals := 0, cells := [] }
theorem sws_dE {ts : List Expr} {v : Expr} {env : Env} (h : env.scope = sc) : swappedStores ts v env = swappedStores ts v (dE sc) := by
  cases env
  cases h
  unfold swappedStores Env.blockKind Env.kindOf
  rfl
theorem sw_dE {v : Expr} {t : Option Expr} {l : Nat} {env : Env} (h : env.scope = sc) : swapsWith v t l env = swapsWith v t l (dE sc) := by
  cases env
  cases h
  unfold swapsWith Env.blockKind Env.kindOf
  rfl
theorem gs_asg (g : Gd T Φ N sc X) (hF : ∀ x, X.fn x = true) (he : PV_ Φ X e c) (h : stoB N sc i x = true := by decide +kernel) (hs : swapsWith e (some (.Name x np)) pos.line X.env = pure false := by rfl) : PS_ Φ X (.Assign [.Name x np] e pos) (.asg false i c) :=
  let ⟨h1, h2⟩ := stoB_of h; s_asg g h1 h2 he hs (.inl (hF x))
theorem gs_asgF (g : Gd T Φ N sc X) (hF : ∀ x, X.fn x = true) (he : PF_ Φ X e c) (h : stoB N sc i x = true := by decide +kernel) (hs : swapsWith e (some (.Name x np)) pos.line X.env = pure false := by rfl) : PS_ Φ X (.Assign [.Name x np] e pos) (.asg true i c) :=
  let ⟨h1, h2⟩ := stoB_of h; s_asgF g h1 h2 he hs (.inl (hF x))
theorem gs_asgS (g : Gd T Φ N sc X) (hF : ∀ x, X.fn x = true) (he : PF_ Φ X e c) (h : stoB N sc i x = true := by decide +kernel) (hs : swapsWith e (some (.Name x np)) pos.line X.env = pure false := by rfl) : PS_ Φ X (.Assign [.Name x np] e pos) (.asgS i c) :=
  let ⟨h1, h2⟩ := stoB_of h; s_asgS g h1 h2 he hs (.inl (hF x))
theorem gs_aug {op : Bo} {o : Operator} (g : Gd T Φ N sc X) (hF : ∀ x, X.fn x = true) (he : PV_ Φ X e c) (h : stoB N sc i x = true := by decide +kernel) (ho : o = boT op := by rfl) : PS_ Φ X (.AugAssign (.Name x np) o e pos) (.aug i op c) :=
  let ⟨h1, h2⟩ := stoB_of h; s_aug g h1 h2 he ho (.inl (hF x))
theorem gs_app {apos cpos : Pos} (g : Gd T Φ N sc X) (he : PV_ Φ X e c) (h : varB N sc i x = true := by decide +kernel)
    (hbase : attributeBase (.Name x np) "append" X.env (eval (.Name x np) X.env) = eval (.Name x np) X.env := by rfl)
    (hfew : ((backTo cpos (starEach [e] X.env)).all (fun x => !x.1) && (backToKw cpos (keywordEach [] X.env)).all (fun x => x.1.isSome) && decide (([e] : List Expr).length + ([] : List Keyword).length + (if ([] : List Keyword).isEmpty then 0 else 1) < 30)) = true := by rfl)
    (hline : (apos.endLine == cpos.line) = true := by rfl) (hs : starEach [e] X.env = (false, eval e X.env) :: starEach [] X.env := by rfl) : PS_ Φ X (.Expr (.Call (.Attribute (.Name x np) "append" apos) [e] [] cpos) pos) (.app i c) :=
  let ⟨h1, h2, h3, h4⟩ := varB_of h; s_app g h1 h2 he hbase hfew hline hs rfl rfl h3 h4
theorem gs_augI {tpos : Pos} {op : Bo} {o : Operator} (g : Gd T Φ N sc X) (hk : PV_ Φ X k ck) (he : PV_ Φ X e c) (h : varB N sc i x = true := by decide +kernel) (ho : o = boT op := by rfl)
    (ha : ∀ ov iv new, augStore k ov iv new = (do holding [new, ov, iv] (setItem ov iv new); release [new, ov, iv] []; pure .next) := by intros; rfl) : PS_ Φ X (.AugAssign (.Subscript (.Name x np) k tpos) o e pos) (.augI i ck op c) :=
  let ⟨h1, h2, h3, h4⟩ := varB_of h; s_augI g h1 h2 hk he ho ha h3 h4
theorem gs_setI {pos' : Pos} (g : Gd T Φ N sc X) (he : PV_ Φ X e c) (hk : PV_ Φ X k ck) (h : varB N sc i x = true := by decide +kernel)
    (ha : ∀ v, assign (.Subscript (.Name x np) k pos') X.env v = (do
      let ov ← holding [v] (eval (.Name x np) X.env)
      let iv ← holding [v, ov] (eval k X.env)
      standAt pos'
      holding [v, ov, iv] (setItem ov iv v)
      release [v, ov, iv] []) := by intro _; rfl)
    (hs : swapsWithSole [.Subscript (.Name x np) k pos'] e pos.line X.env = pure false := by rfl) (hw : swappedStores [.Subscript (.Name x np) k pos'] e X.env = pure none := by rfl)
    (ht : (assignEach [.Subscript (.Name x np) k pos'] X.env).map (·.2) = [assign (.Subscript (.Name x np) k pos') X.env] := by rfl) : PS_ Φ X (.Assign [.Subscript (.Name x np) k pos'] e pos) (.setI i ck c) :=
  let ⟨h1, h2, h3, h4⟩ := varB_of h; s_setI g h1 h2 he hk ha hs hw ht h3 h4
section
variable {d : Expr} {px py pz pt pt2 : Pos} {kt k2 l : Nat} {z : Str} {os : List Bool}
theorem gs_par2 (g : Gd T Φ N sc X) (ha : PX_ Φ X [a, b] os cs) (h1 : lstB N sc i x = true := by decide +kernel) (h2 : lstB N sc j y = true := by decide +kernel) (hij : i ≠ j := by decide) (hl : cs.len = 2 := by rfl)
    (hw : swappedStores [.Tuple [.Name x px, .Name y py] kt pt] (.Tuple [a, b] k2 pt2) (dE sc) = pure (some [x, y]) := by rfl)
    (hs : swapsWithSole [.Tuple [.Name x px, .Name y py] kt pt] (.Tuple [a, b] k2 pt2) pos.line X.env = pure false := by rfl) :
    PS_ Φ X (.Assign [.Tuple [.Name x px, .Name y py] kt pt] (.Tuple [a, b] k2 pt2) pos) (.par (nms [i, j]) os cs) :=
  let ⟨p1, p2⟩ := lstB_of h1; let ⟨q1, q2⟩ := lstB_of h2; s_par2 g p1 q1 p2 q2 ha (by rw [sws_dE g.sc]; exact hw) hij hl hs
theorem gs_par3 (g : Gd T Φ N sc X) (ha : PX_ Φ X [a, b, d] os cs) (h1 : lstB N sc i x = true := by decide +kernel) (h2 : lstB N sc j y = true := by decide +kernel) (h3 : lstB N sc l z = true := by decide +kernel) (hij : i ≠ j := by decide) (hil : i ≠ l := by decide) (hjl : j ≠ l := by decide) (hl : cs.len = 3 := by rfl)
    (hw : swappedStores [.Tuple [.Name x px, .Name y py, .Name z pz] kt pt] (.Tuple [a, b, d] k2 pt2) (dE sc) = pure (some [x, y, z]) := by rfl)
    (hs : swapsWithSole [.Tuple [.Name x px, .Name y py, .Name z pz] kt pt] (.Tuple [a, b, d] k2 pt2) pos.line X.env = pure false := by rfl) :
    PS_ Φ X (.Assign [.Tuple [.Name x px, .Name y py, .Name z pz] kt pt] (.Tuple [a, b, d] k2 pt2) pos) (.par (nms [i, j, l]) os cs) :=
  let ⟨p1, p2⟩ := lstB_of h1; let ⟨q1, q2⟩ := lstB_of h2; let ⟨r1, r2⟩ := lstB_of h3; s_par3 g p1 q1 r1 p2 q2 r2 ha (by rw [sws_dE g.sc]; exact hw) hij hil hjl hl hs
theorem gn {ts : List Expr} {is : List Nat} (g : Gd T Φ N sc X) (hF : ∀ x, X.fn x = true) (h2 : PN_ X ts is) (h : stoB N sc i x = true := by decide +kernel)
    (hs : (assignEach (.Name x px :: ts) X.env).map (·.2) = assign (.Name x px) X.env :: (assignEach ts X.env).map (·.2) := by rfl) : PN_ X (.Name x px :: ts) (i :: is) :=
  let ⟨h3, h4⟩ := stoB_of h; n_cons g h3 h4 h2 (.inl (hF x)) hs
theorem gs_parN {ts es : List Expr} {is : List Nat} (g : Gd T Φ N sc X) (ht : PN_ X ts is) (ha : PX_ Φ X es os cs)
    (hlen : cs.len = is.length := by rfl) (hlim : cs.len ≤ LIM := by decide) (hn : (assignEach ts X.env).length = is.length := by rfl) (hst : (assignEach ts X.env).findIdx? (·.1) = none := by rfl)
    (hs : swapsWithSole [.Tuple ts kt pt] (.Tuple es k2 pt2) pos.line X.env = pure false := by rfl) (hw : swappedStores [.Tuple ts kt pt] (.Tuple es k2 pt2) (dE sc) = pure none := by rfl)
    (h1 : (assignEach [.Tuple ts kt pt] X.env).map (·.2) = [assign (.Tuple ts kt pt) X.env] := by rfl) :
    PS_ Φ X (.Assign [.Tuple ts kt pt] (.Tuple es k2 pt2) pos) (.par (nms is) os cs) := s_parN g ht ha hlen hlim hn hst hs (by rw [sws_dE g.sc]; exact hw) h1
end
section
variable {py spos : Pos} {elt iter : Expr} {ifs : List Expr} {scope : Scope} {own : List (Str × Nat)} {ce : CE} {pt : Pat} {ci : CI} {ct : CEs}
/-- a comprehension of one clause, as an expression -/
theorem g_lc1 (own : List (Str × Nat)) (g : Gd T Φ N sc X) (hi : PJ_ Φ X tg iter ci)
    (hp : ∀ (s : Shared) (H : Hp) (C : Addr) (cl : List (Str × Addr)) (fp : List Addr), PP_ (X.blk s H scope (compEnvC scope cl C X.env) fp) tg pt)
    (ht : ∀ (s : Shared) (H : Hp) (C : Addr) (cl : List (Str × Addr)) (fp : List Addr), PTs_ Φ (X.blk s H scope (compEnvC scope cl C X.env) fp) ifs ct)
    (he : ∀ (s : Shared) (H : Hp) (C : Addr) (cl : List (Str × Addr)) (fp : List Addr), PV_ Φ (X.blk s H scope (compEnvC scope cl C X.env) fp) elt ce)
    (hb : blkC N sc scope own = true := by decide +kernel) (hsl : (pt.slots.all fun i => (own.map (·.2)).contains i) = true := by rfl) (hs : ∀ x, foldedSetIterable iter X.env x = pure x := by intro _; rfl) :
    PF_ Φ X (.ListComp elt [⟨tg, iter, ifs, 0⟩] scope pos) (.lc1 (own.map (·.2)) ce pt ci ct) :=
  f_lc1 g hb hi (fun i hi => by have := List.all_eq_true.mp hsl i hi; simpa using this) hp ht he hs
theorem g_lc1S (own : List (Str × Nat)) (g : Gd T Φ N sc X) (hi : PJ_ Φ X tg iter ci)
    (hp : ∀ (s : Shared) (H : Hp) (C : Addr) (cl : List (Str × Addr)) (fp : List Addr), PP_ (X.blk s H scope (compEnvC scope cl C X.env) fp) tg pt)
    (ht : ∀ (s : Shared) (H : Hp) (C : Addr) (cl : List (Str × Addr)) (fp : List Addr), PTs_ Φ (X.blk s H scope (compEnvC scope cl C X.env) fp) ifs ct)
    (he : ∀ (s : Shared) (H : Hp) (C : Addr) (cl : List (Str × Addr)) (fp : List Addr), PV_ Φ (X.blk s H scope (compEnvC scope cl C X.env) fp) elt ce)
    (h : lstB N sc i y = true := by decide +kernel) (hb : blkC N sc scope own = true := by decide +kernel) (hsl : (pt.slots.all fun i => (own.map (·.2)).contains i) = true := by rfl) (hk : sc.kind = .function := by rfl) (hl : (py.line == pos.line) = true := by rfl)
    (hna : (scope.names.any fun (n, k) => n == y && (k == .local || k == .cell)) = false := by decide +kernel) (hs : ∀ x, foldedSetIterable iter X.env x = pure x := by intro _; rfl) :
    PS X (.Assign [.Name y py] (.ListComp elt [⟨tg, iter, ifs, 0⟩] scope pos) spos) (tAsg (tF X.K Φ (.lc1 (own.map (·.2)) ce pt ci ct)) (gName i)) :=
  let ⟨h1, h2⟩ := lstB_of h; s_lc1 g h1 h2 hb hi (fun i hi => by have := List.all_eq_true.mp hsl i hi; simpa using this) hp ht he (by rw [g.sc]; exact hk) hl hna hs
theorem g_lc2 {tg2 iter2 : Expr} {ifs2 : List Expr} {pt2 : Pat} {ci2 : CI} {ct2 : CEs} (own : List (Str × Nat)) (own2 : List Nat) (g : Gd T Φ N sc X) (hi : PJ_ Φ X tg iter ci)
    (hp : ∀ (s : Shared) (H : Hp) (C : Addr) (cl : List (Str × Addr)) (fp : List Addr), PP_ (X.blk s H scope (compEnvC scope cl C X.env) fp) tg pt)
    (ht : ∀ (s : Shared) (H : Hp) (C : Addr) (cl : List (Str × Addr)) (fp : List Addr), PTs_ Φ (X.blk s H scope (compEnvC scope cl C X.env) fp) ifs ct)
    (hi2 : ∀ (s : Shared) (H : Hp) (C : Addr) (cl : List (Str × Addr)) (fp : List Addr), PI_ Φ (X.blk s H scope (compEnvC scope cl C X.env) fp) tg2 iter2 ci2)
    (hp2 : ∀ (s : Shared) (H : Hp) (C : Addr) (cl : List (Str × Addr)) (fp : List Addr), PP_ (X.blk s H scope (compEnvC scope cl C X.env) fp) tg2 pt2)
    (ht2 : ∀ (s : Shared) (H : Hp) (C : Addr) (cl : List (Str × Addr)) (fp : List Addr), PTs_ Φ (X.blk s H scope (compEnvC scope cl C X.env) fp) ifs2 ct2)
    (he : ∀ (s : Shared) (H : Hp) (C : Addr) (cl : List (Str × Addr)) (fp : List Addr), PV_ Φ (X.blk s H scope (compEnvC scope cl C X.env) fp) elt ce)
    (hb : blkC N sc scope own = true := by decide +kernel) (hsl : (pt.slots.all fun i => (own.map (·.2)).contains i) = true := by rfl) (hsl2 : (pt2.slots.all fun i => own2.contains i) = true := by rfl) (ho2 : (own2.all fun i => (own.map (·.2)).contains i) = true := by rfl)
    (hs : ∀ x, foldedSetIterable iter X.env x = pure x := by intro _; rfl) (hs1 : ∀ env x, foldedSetIterable iter2 env x = pure x := by intro _ _; rfl) :
    PF_ Φ X (.ListComp elt [⟨tg, iter, ifs, 0⟩, ⟨tg2, iter2, ifs2, 0⟩] scope pos) (.lc2 (own.map (·.2)) ce pt ci ct own2 pt2 ci2 ct2) :=
  f_lc2 g hb hi (fun i hi => by have := List.all_eq_true.mp hsl i hi; simpa using this) (fun i hi => by have := List.all_eq_true.mp hsl2 i hi; simpa using this) (fun i hi => by have := List.all_eq_true.mp ho2 i hi; simpa using this) hp ht hi2 hp2 ht2 he hs hs1
theorem g_lc2S {tg2 iter2 : Expr} {ifs2 : List Expr} {pt2 : Pat} {ci2 : CI} {ct2 : CEs} (own : List (Str × Nat)) (own2 : List Nat) (g : Gd T Φ N sc X) (hi : PJ_ Φ X tg iter ci)
    (hp : ∀ (s : Shared) (H : Hp) (C : Addr) (cl : List (Str × Addr)) (fp : List Addr), PP_ (X.blk s H scope (compEnvC scope cl C X.env) fp) tg pt)
    (ht : ∀ (s : Shared) (H : Hp) (C : Addr) (cl : List (Str × Addr)) (fp : List Addr), PTs_ Φ (X.blk s H scope (compEnvC scope cl C X.env) fp) ifs ct)
    (hi2 : ∀ (s : Shared) (H : Hp) (C : Addr) (cl : List (Str × Addr)) (fp : List Addr), PI_ Φ (X.blk s H scope (compEnvC scope cl C X.env) fp) tg2 iter2 ci2)
    (hp2 : ∀ (s : Shared) (H : Hp) (C : Addr) (cl : List (Str × Addr)) (fp : List Addr), PP_ (X.blk s H scope (compEnvC scope cl C X.env) fp) tg2 pt2)
    (ht2 : ∀ (s : Shared) (H : Hp) (C : Addr) (cl : List (Str × Addr)) (fp : List Addr), PTs_ Φ (X.blk s H scope (compEnvC scope cl C X.env) fp) ifs2 ct2)
    (he : ∀ (s : Shared) (H : Hp) (C : Addr) (cl : List (Str × Addr)) (fp : List Addr), PV_ Φ (X.blk s H scope (compEnvC scope cl C X.env) fp) elt ce)
    (h : lstB N sc i y = true := by decide +kernel) (hb : blkC N sc scope own = true := by decide +kernel) (hsl : (pt.slots.all fun i => (own.map (·.2)).contains i) = true := by rfl) (hsl2 : (pt2.slots.all fun i => own2.contains i) = true := by rfl) (ho2 : (own2.all fun i => (own.map (·.2)).contains i) = true := by rfl)
    (hk : sc.kind = .function := by rfl) (hl : (py.line == pos.line) = true := by rfl) (hna : (scope.names.any fun (n, k) => n == y && (k == .local || k == .cell)) = false := by decide +kernel)
    (hs : ∀ x, foldedSetIterable iter X.env x = pure x := by intro _; rfl) (hs1 : ∀ env x, foldedSetIterable iter2 env x = pure x := by intro _ _; rfl) :
    PS X (.Assign [.Name y py] (.ListComp elt [⟨tg, iter, ifs, 0⟩, ⟨tg2, iter2, ifs2, 0⟩] scope pos) spos) (tAsg (tF X.K Φ (.lc2 (own.map (·.2)) ce pt ci ct own2 pt2 ci2 ct2)) (gName i)) :=
  let ⟨h1, h2⟩ := lstB_of h
  s_lc2 g h1 h2 hb hi (fun i hi => by have := List.all_eq_true.mp hsl i hi; simpa using this) (fun i hi => by have := List.all_eq_true.mp hsl2 i hi; simpa using this) (fun i hi => by have := List.all_eq_true.mp ho2 i hi; simpa using this) hp ht hi2 hp2 ht2 he (by rw [g.sc]; exact hk) hl hna hs hs1
end
end
end MP

/-! MP ky: comprehensions over a dict's keys: the dict is locked meanwhile. -/
namespace MP
open PySem PySem.Spec PyProof.Rows L2
def LkK (σ : L2.St) (H : Hp) (i : Nat) : Prop := ∃ a od ks, σ[i]? = some (some (.ref a)) ∧ H a = some (.frz od (.dK ks))
def tJK (K : PySem.W.Frag) (Φ : Fns) (i : Nat) : TI := fun σ H R => LkK σ H i ∧ tJ K Φ (.keys i) σ H R
def reP (G : Hp) (a : Addr) (o : HO) : Hp := fun b => if b = a then (G a).map (fun _ => o) else G b
theorem reP_ne {G : Hp} {a b : Addr} {o : HO} (h : b ≠ a) : reP G a o b = G b := if_neg h
theorem reP_eq {G : Hp} {a : Addr} {o : HO} : reP G a o a = (G a).map fun _ => o := if_pos rfl
theorem kPV_tr {as : List Addr} {K : PySem.W.Frag} {G : Hp} (k : Key) : Tr as K G (kV k) (kPV k) := by
  cases k with
  | inl i => exact .int i
  | inr s => exact .str s
theorem trK_get {as : List Addr} {K : PySem.W.Frag} {G : Hp} : ∀ {ks : List (Key × V)} {kvs : List (PV × PV)}, TrK as K G ks kvs → kvs.map (·.1) = ks.map fun p => kPV p.1
  | _, _, .nil => rfl
  | _, _, .cons _ t => by rw [List.map_cons, List.map_cons, trK_get t]
section
variable {as : List Addr} {K : PySem.W.Frag} {G H G' H' : Hp} {D D' : DS} {a : Addr} {ks : List (Key × V)} {od : Obj} {σ : L2.St} {ρ : Envi}
/-- what G tells of a: nothing, or the dict -/
def Ga (G : Hp) (a : Addr) (o : HO) : Prop := G a = none ∨ G a = some o
theorem le_lock (h : Ga G a (.dK ks)) : Le G (reP G a (.frz od (.dK ks))) where
  pl := fun b o h1 h2 h3 hb => by
    have : b ≠ a := fun e => by
      subst e
      rcases h with h | h
      · rw [h] at hb; cases hb
      · rw [h] at hb; cases hb; exact h2 _ rfl
    rw [reP_ne this]; exact hb
  rd' := fun b u hn r => by
    by_cases e : b = a
    · subst e
      rcases h with h | h
      · rcases r with r | ⟨o, r⟩ <;> rw [h] at r <;> cases r
      · right
        refine ⟨od, ?_⟩
        rw [reP_eq, h]
        rcases r with r | ⟨o, r⟩ <;> rw [h] at r <;> cases r
        rfl
    · rcases r with r | ⟨o, r⟩
      · left; rw [reP_ne e]; exact r
      · right; exact ⟨o, by rw [reP_ne e]; exact r⟩
  fz := fun b c vs hb => by
    have : b ≠ a := fun e => by
      subst e
      rcases h with h | h <;> rw [h] at hb <;> cases hb
    rw [reP_ne this]; exact hb
theorem le_unlock (h : Ga G a (.frz od (.dK ks))) : Le G (reP G a (.dK ks)) where
  pl := fun b o h1 h2 h3 hb => by
    have : b ≠ a := fun e => by
      subst e
      rcases h with h | h
      · rw [h] at hb; cases hb
      · rw [h] at hb; cases hb; exact h1 _ _ rfl
    rw [reP_ne this]; exact hb
  rd' := fun b u hn r => by
    by_cases e : b = a
    · subst e
      rcases h with h | h
      · rcases r with r | ⟨o, r⟩ <;> rw [h] at r <;> cases r
      · left
        rw [reP_eq, h]
        rcases r with r | ⟨o, r⟩ <;> rw [h] at r <;> cases r
        · exact absurd rfl (hn _ _)
        · rfl
    · rcases r with r | ⟨o, r⟩
      · left; rw [reP_ne e]; exact r
      · right; exact ⟨o, by rw [reP_ne e]; exact r⟩
  fz := fun b c vs hb => by
    have : b ≠ a := fun e => by
      subst e
      rcases h with h | h <;> rw [h] at hb <;> cases hb
    rw [reP_ne this]; exact hb
theorem wd_re {o : HO} (w : Wd as K G H D) (ha : a ∉ as) (l : Le G (reP G a o)) : Wd as K (reP G a o) (upd H a o) D where
  sub := fun b x hb => by
    by_cases e : b = a
    · subst e
      rw [reP_eq] at hb
      obtain ⟨_, _, rfl⟩ := Option.map_eq_some_iff.mp hb
      exact upd_same
    · rw [reP_ne e] at hb
      rw [upd_ne e]; exact w.sub b x hb
  nd := w.nd
  len := w.len
  off := fun b hb => by
    have : b ≠ a := fun e => ha (by rw [← e]; exact hb)
    rw [reP_ne this]; exact w.off b hb
  sh := fun j b x h1 h2 => by
    have hne : b ≠ a := fun e => ha (by rw [← e]; exact List.mem_of_getElem? h1)
    have := (w.sh j b x h1 h2).up l (H' := upd H a o) (upd_ne hne) []
    simpa using this
theorem ownR_lock (o : OwnR as K G H a x) (hH : H a = some (.dK ks)) (l : Le G G') : OwnR as K G' (upd H a (.frz od (.dK ks))) a x := by
  cases x with
  | lst xs =>
    obtain ⟨vs, h, _⟩ := o
    rw [hH] at h; cases h
  | dct t kvs =>
    rcases o with ⟨h0, k2, h, t2⟩ | ⟨h0, k2, h, t2⟩
    · refine .inl ⟨h0, k2, .inr ⟨od, ?_⟩, t2.up l⟩
      rcases h with h | ⟨o, h⟩ <;> rw [hH] at h <;> cases h
      exact upd_same
    · rcases h with h | ⟨o, h⟩ <;> rw [hH] at h <;> cases h
  | _ => exact o
theorem rp_lock (r : Rp as K G H σ ρ) (hH : H a = some (.dK ks)) (hG : Ga G a (.dK ks)) : Rp as K (reP G a (.frz od (.dK ks))) (upd H a (.frz od (.dK ks))) σ ρ where
  len := r.len
  frz := fun i x h => by
    obtain ⟨v, e, t⟩ := r.frz i x h
    exact ⟨v, e, t.up (le_lock hG)⟩
  own := fun i x h => by
    obtain ⟨b, e, g, n, o⟩ := r.own i x h
    refine ⟨b, e, ?_, n, ?_⟩
    · by_cases e : b = a
      · subst e; rw [reP_eq, g]; rfl
      · rw [reP_ne e]; exact g
    · by_cases e : b = a
      · subst e; exact ownR_lock o hH (le_lock hG)
      · have := o.up (le_lock (od := od) hG) (H' := upd H a (.frz od (.dK ks))) (upd_ne e) []
        simpa using this
  dis := r.dis
theorem ga_back (st : Stp as (reP G a (.frz od (.dK ks))) (upd H a (.frz od (.dK ks))) G' H') (hH : H a = some (.dK ks)) (w : Wd as K G' H' D') (ha : a ∉ as) (hG : Ga G a (.dK ks)) : H' a = some (.frz od (.dK ks)) ∧ Ga G' a (.frz od (.dK ks)) := by
  have e := st.kp a _ ha upd_same
  refine ⟨e, ?_⟩
  cases q : G' a with
  | none => exact .inl q
  | some o =>
    have := w.sub a o q
    rw [e] at this
    cases this
    exact .inr q
theorem stp_unlock (st : Stp as (reP G a (.frz od (.dK ks))) (upd H a (.frz od (.dK ks))) G' H') (hH : H a = some (.dK ks)) (w : Wd as K G' H' D') (ha : a ∉ as) (hG : Ga G a (.dK ks)) : Stp as G H (reP G' a (.dK ks)) (upd H' a (.dK ks)) := by
  obtain ⟨e1, e2⟩ := ga_back st hH w ha hG
  refine ⟨((le_lock hG).trans st.le).trans (le_unlock e2), fun b hb => ?_, fun b o hb h => ?_, fun b h => ?_⟩
  · by_cases e : b = a
    · subst e
      have hb' : G' b ≠ none := fun z => hb (by rw [reP_eq, z]; rfl)
      rcases st.nw b hb' with z | z
      · left
        intro q
        exact z (by rw [reP_eq, q]; rfl)
      · rw [upd_same] at z; cases z
    · rw [reP_ne e] at hb
      rcases st.nw b hb with z | z
      · left; rw [reP_ne e] at z; exact z
      · right; rw [upd_ne e] at z; exact z
  · by_cases e : b = a
    · subst e
      rw [hH] at h; cases h; exact upd_same
    · rw [upd_ne e]
      exact st.kp b o hb (by rw [upd_ne e]; exact h)
  · by_cases e : b = a
    · subst e; rw [upd_same]; exact fun z => nomatch z
    · rw [upd_ne e]; exact st.sm b (by rw [upd_ne e]; exact h)
end
section
variable {T : Tb} {Φ : Fns} {N : List Str} {sc : Scope} {X : Cx} {e tg : Expr} {pos p np : Pos} {i : Nat} {x : Str}
theorem por {t u : TE} (h : PE X e t) (h2 : PE X e u) : PE X e (fun σ H Q => t σ H Q ∨ u σ H Q) := ⟨fun pins s σ H Q I q => by
  rcases q with q | q
  · exact h.run pins s σ H Q I q
  · exact h2.run pins s σ H Q I q⟩
/-- the dict that slot i holds -/
theorem slot_dict {as : List Addr} {K : PySem.W.Frag} {G H : Hp} {D : DS} {σ : L2.St} {ρ : Envi} {y : PV} {xs : List PV} (w : Wd as K G H D) (r : Rp as K G H σ ρ) (hy : borS ρ i = some y) (hk : keysOf y = some xs) :
    ∃ a ks kvs, y = .dct 0 kvs ∧ kvs.length ≤ LIM ∧ xs = ks.map (fun p => kPV p.1) ∧ ks.length = kvs.length ∧ σ[i]? = some (some (.ref a)) ∧ a ∉ as ∧ Rd H a (.dK ks) ∧ (G a = none ∨ G a = H a) := by
  have key : ∃ kvs, y = .dct 0 kvs ∧ kvs.length ≤ LIM ∧ xs = kvs.map (·.1) := by
    cases y with
    | dct t kvs =>
      cases t with
      | zero =>
        have h : (if kvs.length ≤ LIM then some (kvs.map (·.1)) else none) = some xs := hk
        split at h
        · rename_i hl
          exact ⟨kvs, rfl, hl, (Option.some.inj h).symm⟩
        · cases h
      | succ t => cases hk
    | _ => cases hk
  obtain ⟨kvs, rfl, hl, rfl⟩ := key
  unfold borS at hy
  cases q : ρ[i]? with
  | none => rw [q] at hy; cases hy
  | some z =>
    cases z with
    | none => rw [q] at hy; cases hy
    | some z =>
      obtain ⟨o, y'⟩ := z
      rw [q] at hy
      obtain rfl : y' = .dct 0 kvs := Option.some.inj hy
      cases o with
      | false =>
        obtain ⟨v, e, t⟩ := r.frz i _ q
        cases t with
        | dK h t2 =>
          rename_i a ks
          have hne : G a ≠ none := by
            rcases h with h | ⟨o, h⟩ <;> rw [h] <;> exact fun z => nomatch z
          have hGH : G a = H a := by
            rcases h with h | ⟨o, h⟩ <;> rw [h, w.sub _ _ h]
          refine ⟨a, ks, kvs, rfl, hl, trK_get t2, t2.len, e, fun hm => hne (w.off a hm), ?_, .inr hGH⟩
          rcases h with h | ⟨o, h⟩
          · exact .inl (w.sub _ _ h)
          · exact .inr ⟨o, w.sub _ _ h⟩
      | true =>
        obtain ⟨a, e, g, n, o⟩ := r.own i _ q
        rcases o with ⟨_, ks, h, t2⟩ | ⟨h0, _⟩
        · exact ⟨a, ks, kvs, rfl, hl, trK_get t2, t2.len, e, n, h, .inl g⟩
        · cases h0
theorem j_keys (g : Gd T Φ N sc X) (hi : N[i]? = some x) (hv : Vis sc x) (hd : (x == ("__debug__" : Str)) = false) (hcd : (x == ("__classdict__" : Str)) = false) : PI X tg (.Name x np) (tJK X.K Φ i) :=
  pi_imp (pi_keys (tg := tg) (pv_slot g hi hv hd hcd)) fun σ H R ⟨⟨a, od, ks, e1, e2⟩, as, G, ρ, D, xs, D', w, r, ee, f⟩ => by
    obtain ⟨xs', e3, e4⟩ := Option.map_eq_some_iff.mp (show ((borS ρ i).bind keysOf).map (fun xs => (xs, D)) = some (xs, D') from ee)
    cases e4
    obtain ⟨y, e5, e6⟩ := Option.bind_eq_some_iff.mp e3
    obtain ⟨b, ks2, kvs, rfl, hl, rfl, hln, e7, hna, hR, _⟩ := slot_dict w r e5 e6
    rw [e1] at e7
    cases e7
    have hk : ks2 = ks := by
      rcases hR with h | ⟨o, h⟩ <;> rw [e2] at h <;> cases h
      rfl
    subst hk
    refine ⟨_, e1, a, od, rfl, .inl ⟨ks2, e2, f _ G H (Stp.refl _ _ _) w (by rw [List.length_map, hln]; exact line_lim hl) fun more G2 H2 D2 l w2 => ?_⟩⟩
    have h2 : H2 a = some (.frz od (.dK ks2)) := l.kp a _ hna e2
    refine ⟨fun j hj => ⟨h2, by rw [List.length_map] at hj; exact hj⟩, fun j hj => ⟨h2, by rw [List.length_map] at hj; exact hj⟩, fun j z v H' hz hy => ?_⟩
    obtain ⟨rfl, k, u, q1, rfl⟩ := hy
    rw [List.getElem?_map, q1] at hz
    cases hz
    exact ⟨G2, Stp.refl _ _ _, w2, kPV_tr k⟩
section
variable {elt : Expr} {ifs : List Expr} {scope : Scope} {own : List (Str × Nat)} {ce : CE} {pt : Pat} {ct : CEs}
theorem lc1_impK {σ : L2.St} {H : Hp} {Q : VK} (hsl : ∀ i ∈ pt.slots, i ∈ own.map (·.2)) (h : tF X.K Φ (.lc1 (own.map (·.2)) ce pt (.keys i) ct) σ H Q) (lk : LkK σ H i) :
    tLc (tJK X.K Φ i) (tP X.K pt) (tTs X.K Φ ct) (tE X.K Φ ce) (own.map (·.2)) σ H Q := by
  have := lc1_imp hsl h
  unfold tLc at this ⊢
  exact ⟨lk, this⟩
theorem f_lc1K (g : Gd T Φ N sc X) (hb : blkC N sc scope own = true) (hi : N[i]? = some x) (hv : Vis sc x) (hd : (x == ("__debug__" : Str)) = false) (hcd : (x == ("__classdict__" : Str)) = false) (hsl : ∀ i ∈ pt.slots, i ∈ own.map (·.2))
    (hp : ∀ (s : Shared) (H : Hp) (C : Addr) (cl : List (Str × Addr)) (fp : List Addr), PP_ (X.blk s H scope (compEnvC scope cl C X.env) fp) tg pt)
    (ht : ∀ (s : Shared) (H : Hp) (C : Addr) (cl : List (Str × Addr)) (fp : List Addr), PTs_ Φ (X.blk s H scope (compEnvC scope cl C X.env) fp) ifs ct)
    (he : ∀ (s : Shared) (H : Hp) (C : Addr) (cl : List (Str × Addr)) (fp : List Addr), PV_ Φ (X.blk s H scope (compEnvC scope cl C X.env) fp) elt ce) (hs : ∀ y, foldedSetIterable (.Name x np) X.env y = pure y := by intro _; rfl) :
    PF_ Φ X (.ListComp elt [⟨tg, .Name x np, ifs, 0⟩] scope pos) (.lc1 (own.map (·.2)) ce pt (.keys i) ct) := by
  have h0 := pe_lc (pos := pos) (wi := tJK X.K Φ i) (g := tP X.K pt) (tt := tTs X.K Φ ct) (te := tE X.K Φ ce) g.calm (by rw [g.n]; exact g.nd) (j_keys (np := np) g hi hv hd hcd) (by rw [g.n, g.sc]; exact blkOk_by hb) hp ht he hs
  refine pe_imp (por h0 (pe_lock h0)) fun σ H Q h => ?_
  obtain ⟨as, G, ρ, D, z, D', w, r, ee, f⟩ := id h
  obtain ⟨⟨xs, D1⟩, e1, _⟩ := Option.bind_eq_some_iff.mp ee
  obtain ⟨xs', e3, e4⟩ := Option.map_eq_some_iff.mp (show ((borS ρ i).bind keysOf).map (fun xs => (xs, D)) = some (xs, D1) from e1)
  cases e4
  obtain ⟨y, e5, e6⟩ := Option.bind_eq_some_iff.mp e3
  obtain ⟨a, ks, kvs, rfl, hl, rfl, hln, e7, hna, hR, hG0⟩ := slot_dict w r e5 e6
  rcases hR with hH | ⟨od, hH⟩
  · right
    have hG : Ga G a (.dK ks) := by
      rcases hG0 with z | z
      · exact .inl z
      · exact .inr (z.trans hH)
    refine ⟨a, .dK ks, hH, True.intro, fun od => lc1_impK hsl ⟨as, _, ρ, D, z, D', wd_re w hna (le_lock (od := od) hG), rp_lock r hH hG, ee, fun p G' H' st w' hp hp2 o => ?_⟩ ⟨a, od, ks, e7, upd_same⟩⟩
    obtain ⟨e8, e9⟩ := ga_back st hH w' hna hG
    have hpa : p ≠ a := fun e => by rw [e, upd_same] at hp; cases hp
    refine ⟨e8, f p _ _ (stp_unlock st hH w' hna hG) (wd_re w' hna (le_unlock e9)) (by rw [upd_ne hpa] at hp; exact hp) (by rw [reP_ne hpa]; exact hp2) ?_⟩
    have := o.up (le_unlock e9) (H' := upd H' a (.dK ks)) (upd_ne hpa) []
    simpa using this
  · left
    exact lc1_impK hsl h ⟨a, od, ks, e7, hH⟩
theorem g_lc1K (own : List (Str × Nat)) (g : Gd T Φ N sc X) (i : Nat)
    (hp : ∀ (s : Shared) (H : Hp) (C : Addr) (cl : List (Str × Addr)) (fp : List Addr), PP_ (X.blk s H scope (compEnvC scope cl C X.env) fp) tg pt)
    (ht : ∀ (s : Shared) (H : Hp) (C : Addr) (cl : List (Str × Addr)) (fp : List Addr), PTs_ Φ (X.blk s H scope (compEnvC scope cl C X.env) fp) ifs ct)
    (he : ∀ (s : Shared) (H : Hp) (C : Addr) (cl : List (Str × Addr)) (fp : List Addr), PV_ Φ (X.blk s H scope (compEnvC scope cl C X.env) fp) elt ce)
    (h : varB N sc i x = true := by decide +kernel) (hb : blkC N sc scope own = true := by decide +kernel) (hsl : (pt.slots.all fun i => (own.map (·.2)).contains i) = true := by rfl) (hs : ∀ y, foldedSetIterable (.Name x np) X.env y = pure y := by intro _; rfl) :
    PF_ Φ X (.ListComp elt [⟨tg, .Name x np, ifs, 0⟩] scope pos) (.lc1 (own.map (·.2)) ce pt (.keys i) ct) :=
  let ⟨h1, h2, h3, h4⟩ := varB_of h; f_lc1K g hb h1 h2 h3 h4 (fun i hi => by have := List.all_eq_true.mp hsl i hi; simpa using this) hp ht he hs
end
end
end MP

/-! MP en: enumerate of tuples. -/
namespace PySem
open Sem (wp)
theorem mp_enumerate_newB {v : Value} {o : Obj} {H : Heap → Prop} (B : Begins v o H) :
    Meets (Builtin.«enumerate.__new__» ⟨[.type "enumerate", v], []⟩) (fun _ R s => H s.heap ∧
      R (.ok (.ret (.ref (s.heap.push o).objs.size))) { s with heap := (s.heap.push o).push { cls := .type "enumerate", data := .fields #[.none, .bool false, .ref s.heap.objs.size, rawInt 0, .none, .none] } }) :=
  .of_wp fun prog w A R s h => by
    obtain ⟨hp, g, d, tk, os⟩ := s; obtain ⟨h1, h⟩ := h
    have hsub := sub_enumerate
    have q1 : ∀ {A' : Around} {E : Value → Shared → Prop} {Q : Value → Shared → Prop}, Q (.ref hp.objs.size) ⟨hp.push o, g, d, tk, os⟩ → wpAny (model prog w) A' (pyIter v) Q E ⟨hp, g, d, tk, os⟩ :=
      fun q => B.iter prog w _ _ ⟨hp, g, d, tk, os⟩ _ h1 q
    wp_walk using q1
    refine wpAny_stack_any fun st => wpAny_pure ?_
    split
    · rename_i c _ _ _ _ _
      cases (c == Value.type "enumerate")
      · wp_walk using q1
        exact ⟨_, rfl, h⟩
      · wp_walk using q1
        exact ⟨_, rfl, h⟩
    · wp_walk using q1
      exact ⟨_, rfl, h⟩
section
variable {prog : Program} {w : World} {A : Around} {E : Value → Shared → Prop} {s : Shared}
theorem mp_enum1 {v : Value} {o : Obj} {H : Heap → Prop} {Q : Value → Shared → Prop} (B : Begins v o H) (h1 : H s.heap)
    (h : ∀ h', IsEnum h' (s.heap.objs.size + 1) s.heap.objs.size 0 .none → h'.get? s.heap.objs.size = some o → h'.objs.size = s.heap.objs.size + 2 →
      (∀ b o, s.heap.get? b = some o → h'.get? b = some o) → Q (.ref (s.heap.objs.size + 1)) { s with heap := h' }) :
    wpAny (model prog w) A (call (.type "enumerate") [v]) Q E s := by
  refine callType_new F.called_enumerate (by decide) (F.typeCall_enumerate_1 _) (F.newCall_enumerate_1 _) (fun obj => F.args_object_init_2 obj _) F.entry_enumerate_new
    (mp_enumerate_newB B) ⟨h1, ?_⟩
  have hz : (s.heap.push o).objs.size = s.heap.objs.size + 1 := Heap.size_push ..
  show _ ∧ _
  rw [hz]
  have he : IsEnum ((s.heap.push o).push { cls := .type "enumerate", data := .fields #[.none, .bool false, .ref s.heap.objs.size, rawInt 0, .none, .none] }) (s.heap.objs.size + 1) s.heap.objs.size 0 .none := by
    have := Heap.get?_push_size (s.heap.push o) (o := { cls := .type "enumerate", data := .fields #[.none, .bool false, .ref s.heap.objs.size, rawInt 0, .none, .none] }) rfl
    rw [hz] at this; exact this
  refine ⟨⟨_, he, rfl⟩, h _ he (Heap.get?_push_of_some _ (Heap.get?_push_size _ B.free)) (by rw [Heap.size_push, hz]) fun b o x => Heap.get?_push_of_some _ (Heap.get?_push_of_some _ x)⟩
end
end PySem
namespace MP
open PySem PySem.Spec PyProof.Rows L2
/-- the tuple at a, each item in a new pair -/
def IteT (K : PySem.W.Frag) (a : Addr) : It :=
  ⟨fun i H => ∃ (xs : List V) (x : V), SqT K H a xs ∧ xs[i]? = some x, fun i H v H' => ∃ T x, v = .ref T ∧ H T = none ∧ H' = upd H T (.tup [.int (i : Nat), x]) ∧ ∀ xs, SqT K H a xs → xs[i]? = some x, fun i H => ∃ xs : List V, SqT K H a xs ∧ xs.length ≤ i⟩
theorem turn_enumT {P : Program} {w : World} {K : PySem.W.Frag} {elts : List Expr} {kk : Nat} {tpos : Pos} (a e it : Addr) (hne : e ≠ it) (hea : e ≠ a) (hia : a ≠ it) :
    Turn P w K (.Tuple elts kk tpos) (IteT K a) [e, it] e (fun i h => (∃ old, IsEnum h e it ((i : Nat) : Int) old) ∧ h.IsTupleIter it a i) where
  mem := by simp
  obj := fun i h st b hb => by
    obtain ⟨⟨old, he⟩, ⟨o, ho, hc, hd⟩⟩ := st
    have e' : b = e ∨ b = it := by simpa using hb
    rcases e' with z | z
    · rw [z]; exact ⟨_, he, fun v q => nomatch q⟩
    · rw [z]; exact ⟨o, ho, fun v q => by rw [hd] at q; cases q⟩
  keep := fun i h h' st k => let ⟨⟨old, he⟩, hi⟩ := st; ⟨⟨old, k e (by simp) _ he⟩, hi.at fun o q => k it (by simp) o q⟩
  item := by
    intro X hP hw hK hc i pins s σ H E I hf st hg
    subst hP hw hK
    obtain ⟨⟨old, he⟩, hit⟩ := st
    obtain ⟨xs, x, hq, hx⟩ := hg
    obtain ⟨its, rv, p, hz⟩ := I.tuple hq
    obtain ⟨u, hu, ru⟩ := rv.get hx
    have hel : e < s.heap.objs.size := Heap.lt_size he
    have hil : it < s.heap.objs.size := by obtain ⟨_, q, _⟩ := hit; exact Heap.lt_size q
    have hlt : i < its.toArray.size := by
      have := (List.getElem?_eq_some_iff.mp hu).1
      simpa using this
    refine wpAny_pyNext_enum_itemD (Draws.tuple (A := X.A.in1) (I.ok.hd hc) it a hia its.toArray) he ⟨hit, p⟩ hlt hne (by simp [hne, hea]) fun x' h' tk hP ho hs' hT hsz hk => ?_
    have hxu : x' = u := by
      have h1 : its.toArray[i]? = some x' := hP
      rw [List.getElem?_toArray, hu] at h1
      exact (Option.some.inj h1).symm
    subst hxu
    refine ⟨_, rfl, wpAny_letOwnedTupleGo_enum (s := { s with heap := h', toks := tk + 1 }) ho fun h'' he' sb => ?_⟩
    have hT2 : h''.get? s.heap.objs.size = some { cls := .type "tuple", data := .seq #[.int i tk, x'] } := (sb.2 _ (Nat.ne_of_gt hel)).trans hT
    have new : ObjOk X.prog X.w (upd H s.heap.objs.size (.tup [.int (i : Nat), x])) h'' s.heap.objs.size (.tup [.int (i : Nat), x]) :=
      ⟨by show 2 ≤ sizeLine; decide, [.int i tk, x'], .cons ⟨_, rfl⟩ (.cons ru .nil), ⟨_, hT2, rfl, _, rfl⟩⟩
    have I1 : Inv X pins σ (upd H s.heap.objs.size (.tup [.int (i : Nat), x])) { s with heap := h'', toks := tk + 1 } :=
      I.turnedNew (ch := [e, it]) (fun b ob hb q => (sb.2 b (fun z => hb (by simp [z]))).trans (hk b ob (fun z => hb (by simp [z])) (fun z => hb (by simp [z])) q)) hf (Nat.le_refl _) new
    refine ⟨.ref s.heap.objs.size, _, I1, rfl, ⟨_, x, rfl, I.hok.fresh (Nat.le_refl _), rfl, fun ys hy => by rw [I.tuple_inj hy hq]; exact hx⟩, ⟨⟨x', ?_⟩, hs'.1.at fun o q => (sb.2 it (Ne.symm hne)).trans q⟩, fun b hb => ?_⟩
    · have e1 : ((i + 1 : Nat) : Int) = (i : Int) + 1 := by omega
      rw [e1]; exact he'
    · have hb' : b < s.heap.objs.size := by
        have e' : b = e ∨ b = it := by simpa using hb
        rcases e' with z | z
        · rw [z]; exact hel
        · rw [z]; exact hil
      rw [upd_ne (Nat.ne_of_lt hb')]
      exact (hf b hb).1
  done := by
    intro X hP hw hK hc i pins s σ H E I hf st hg
    subst hP hw hK
    obtain ⟨⟨old, he⟩, hit⟩ := st
    obtain ⟨xs, hq, hx⟩ := hg
    obtain ⟨its, rv, p, hz⟩ := I.tuple hq
    obtain ⟨f0, f1, f2, f3, f4, f5⟩ := hf it (by simp)
    have hl := rv.length
    have nn : its.toArray[i]? = none := by simp; omega
    have hT : s.TypeIs (.ref e) "enumerate" := ⟨_, he, rfl⟩
    unfold pyNext
    refine wpAny_bind (wpAny_attempt (wpAny_callSpecial?_slot (name := Str.ofString "__next__") hT F.slot_enumerate_next
      (wpAny_call_entry F.slot_enumerate_next hT F.entry_enumerate_next ?_ (F.args_enumerate_next_1 _))))
    show wpAny _ _ (field (.ref e) 2 >>= _) _ _ _
    refine wpAny_bind (wpAny_field he rfl (x := .ref it) rfl ?_)
    refine wpAny_bind (wpAny_nextOf_tuple_end (I.ok.hd hc) hit p nn fun h' x he' hx' => ?_)
    obtain ⟨o, ho, hc'⟩ := hx'
    refine wpAny_bind (wpAny_isInstance (T := "StopIteration") (b := true) ⟨o, ho, hc'⟩ isSubtype_stop ?_)
    exact wpAny_pure ⟨rfl, I.turned (t' := s.toks) (fun b o hb q => he' b o hb q) f0 f1 f3 f4 f5⟩
  self := fun A i s Q E st h => let ⟨⟨_, he⟩, _⟩ := st; wpAny_pyIter_enum he h
def iEnumA (K : PySem.W.Frag) (ta : TA) : TI := fun σ H R => ta σ H fun vs H1 => ∃ a xs, vs = [.ref a] ∧ ((SqL K H1 a xs ∧ R (Ite K a) H1) ∨ (SqT K H1 a xs ∧ R (IteT K a) H1))
theorem pi_enumA {X : Cx} {e : Expr} {ta : TA} {p pos tpos : Pos} {elts : List Expr} {kk : Nat} (hg : Gl X "enumerate") (hm : X.mg "enumerate" = none) (ha : PA X [e] ta) (hs : starEach [e] X.env = [(false, eval e X.env)] := by rfl) :
    PI X (.Tuple elts kk tpos) (.Call (.Name "enumerate" p) [e] [] pos) (iEnumA X.K ta) := by
  refine ⟨fun pins s σ H R I h => ?_⟩
  refine Call_ (ld_blt I hg hm boot_enumerate (PyProof.Rows.callWith_type1 (thn (ha.run pos pins s σ H _ I h) fun us s1 ⟨vs, H1, I1, r1, q1⟩ => ?_) hs rfl))
  obtain ⟨a, xs, ex, q1⟩ := q1
  subst ex
  cases r1 with
  | cons r rr =>
    cases rr
    cases r
    have fresh2 : ∀ b, b ∈ [s1.heap.objs.size + 1, s1.heap.objs.size] → FpOk X pins H1 b := fun b hb => by
      have e' : b = s1.heap.objs.size + 1 ∨ b = s1.heap.objs.size := by simpa using hb
      have hle : s1.heap.objs.size ≤ b := by
        rcases e' with z | z
        · rw [z]; exact Nat.le_add_right _ _
        · rw [z]; exact Nat.le_refl _
      exact I1.fpOk hle (I1.hok.fresh hle)
    rcases q1 with ⟨hq, q⟩ | ⟨hq, q⟩
    · obtain ⟨its, rv, p', hz⟩ := I1.list hq
      refine call_enumerate_list p'.isList fun h' he hit hsz hk => wpAny_pyIter_enum he ?_
      have I2 : Inv X pins σ H1 { s1 with heap := h' } := I1.kept (t' := s1.toks) hk
      exact ⟨s1.heap.objs.size + 1, [s1.heap.objs.size + 1, s1.heap.objs.size], _, _, H1, rfl, I2, turn_enum a (s1.heap.objs.size + 1) s1.heap.objs.size, ⟨⟨.none, he⟩, hit, Nat.succ_ne_self _⟩, fresh2, q⟩
    · obtain ⟨its, rv, p', hz⟩ := I1.tuple hq
      obtain ⟨o1, ho1, _⟩ := id p'
      have la := Heap.lt_size ho1
      refine mp_enum1 (begins_tuple a its.toArray) p' fun h' he hit hsz hk => wpAny_pyIter_enum he ?_
      have I2 : Inv X pins σ H1 { s1 with heap := h' } := I1.kept (t' := s1.toks) hk
      exact ⟨s1.heap.objs.size + 1, [s1.heap.objs.size + 1, s1.heap.objs.size], _, _, H1, rfl, I2, turn_enumT a (s1.heap.objs.size + 1) s1.heap.objs.size (Nat.succ_ne_self _) (Nat.ne_of_gt (Nat.lt_succ_of_lt la)) (Nat.ne_of_lt la), ⟨⟨.none, he⟩, ⟨_, hit, rfl, rfl⟩⟩, fresh2, q⟩

/-! ### series of new pairs -/
theorem enumL_get {xs : List PV} {i : Nat} {x : PV} (h : (enumL xs)[i]? = some x) : ∃ y, xs[i]? = some y ∧ x = .tup [.int (i : Nat), y] := by
  unfold enumL at h
  rw [List.getElem?_zipWith] at h
  by_cases hi : i < xs.length
  · rw [List.getElem?_range hi, List.getElem?_eq_getElem hi] at h
    exact ⟨xs[i], List.getElem?_eq_getElem hi, (Option.some.inj h).symm⟩
  · rw [List.getElem?_eq_none (by omega : xs.length ≤ i)] at h
    cases hr : (List.range xs.length)[i]? <;> rw [hr] at h <;> cases h
theorem enumL_len (xs : List PV) : (enumL xs).length = xs.length := by simp [enumL]
section
variable {as : List Addr} {K : PySem.W.Frag} {G H : Hp} {D : DS}
theorem ser_enumL {a : Addr} {vs : List V} {xs : List PV} {L : Hp → Hp → Prop} (hl : ∀ (more : List Addr) (G2 H2 : Hp) (D2 : DS), L G2 H2 → Wd (as ++ more) K G2 H2 D2 → SqL K H2 a vs ∧ TrS (as ++ more) K G2 vs xs) : Ser (Ite K a) as K (enumL xs) L := fun more G2 H2 D2 l w => by
  obtain ⟨sq, t⟩ := hl more G2 H2 D2 l w
  have e := t.len
  refine ⟨fun i hi => ⟨vs, vs[i]'(by rw [enumL_len] at hi; omega), sq, List.getElem?_eq_getElem (by rw [enumL_len] at hi; omega)⟩, fun i hi => ⟨vs, sq, by rw [enumL_len] at hi; omega⟩, fun i x v H' hx hy => ?_⟩
  obtain ⟨T, u, rfl, hT, rfl, hy⟩ := hy
  obtain ⟨y, e1, rfl⟩ := enumL_get hx
  obtain ⟨v', e2, t1⟩ := t.get e1
  have := hy vs sq
  rw [e2] at this
  cases this
  have st := Stp.new (as := as ++ more) (o := .tup [.int (i : Nat), u]) hT (w.free hT)
  exact ⟨_, st, w.new hT, .tup upd_same (.cons (.int _) (.cons (t1.up st.le) .nil))⟩
theorem ser_enumT {a : Addr} {vs : List V} {xs : List PV} {L : Hp → Hp → Prop} (hl : ∀ (more : List Addr) (G2 H2 : Hp) (D2 : DS), L G2 H2 → Wd (as ++ more) K G2 H2 D2 → SqT K H2 a vs ∧ TrS (as ++ more) K G2 vs xs) : Ser (IteT K a) as K (enumL xs) L := fun more G2 H2 D2 l w => by
  obtain ⟨sq, t⟩ := hl more G2 H2 D2 l w
  have e := t.len
  refine ⟨fun i hi => ⟨vs, vs[i]'(by rw [enumL_len] at hi; omega), sq, List.getElem?_eq_getElem (by rw [enumL_len] at hi; omega)⟩, fun i hi => ⟨vs, sq, by rw [enumL_len] at hi; omega⟩, fun i x v H' hx hy => ?_⟩
  obtain ⟨T, u, rfl, hT, rfl, hy⟩ := hy
  obtain ⟨y, e1, rfl⟩ := enumL_get hx
  obtain ⟨v', e2, t1⟩ := t.get e1
  have := hy vs sq
  rw [e2] at this
  cases this
  have st := Stp.new (as := as ++ more) (o := .tup [.int (i : Nat), u]) hT (w.free hT)
  exact ⟨_, st, w.new hT, .tup upd_same (.cons (.int _) (.cons (t1.up st.le) .nil))⟩
end
section
variable {T : Tb} {Φ : Fns} {N : List Str} {sc : Scope} {X : Cx} {e a b tg : Expr} {pos p tpos : Pos} {j kk : Nat} {ca cb : CE} {elts : List Expr}
theorem i_enum (g : Gd T Φ N sc X) (hg : sc.names.lookup ("enumerate" : Str) = some .globalImplicit) (hm : T.fr[j]? = some ("enumerate" : Str)) (ha : PV_ Φ X a ca) (hs : starEach [a] X.env = [(false, eval a X.env)] := by rfl) : PI_ Φ X (.Tuple elts kk tpos) (.Call (.Name "enumerate" p) [a] [] pos) (.enum ca) := by
  have hA : PA_ Φ X [a] (.cons ca .nil) := a_cons ha a_nil hs
  have hP := pi_strong (pi_enumA (p := p) (pos := pos) (tpos := tpos) (elts := elts) (kk := kk) (gl_of g hg) (g.fr j _ hm) hA hs)
  refine pi_imp hP fun σ H R ⟨as, G, ρ, D, xs, D', w, r, ee, f⟩ => ?_
  obtain ⟨⟨x, D1⟩, e1, ee⟩ := Option.bind_eq_some_iff.mp ee
  obtain ⟨ys, e2, ee⟩ := Option.map_eq_some_iff.mp ee
  cases ee
  refine ⟨as, G, ρ, D, [x], D1, w, r, by simp only [evs, e1, Option.bind_some, Option.map_some], fun vs G' H' st w' t => ?_⟩
  cases t with
  | cons t1 t2 =>
    cases t2
    cases x with
    | lst zs =>
      cases e2
      cases t1 with
      | lst hG ts => exact ⟨_, _, rfl, .inl ⟨.of (w'.sub _ _ hG), fun sz => f _ G' H' st w' (by rw [enumL_len, ← ts.len]; exact sz.1 _ _ (.of (w'.sub _ _ hG))) (ser_enumL fun more G2 H2 D2 l w2 => ⟨.of (w2.sub _ _ (l.lst hG)), ts.mono l more⟩)⟩⟩
    | tup zs =>
      cases e2
      cases t1 with
      | tupR hG ts => exact ⟨_, _, rfl, .inr ⟨.inl (w'.rd hG), fun sz => f _ G' H' st w' (by rw [enumL_len, ← ts.len]; exact sz.2 _ _ (.inl (w'.rd hG))) (ser_enumT fun more G2 H2 D2 l w2 => ⟨.inl (w2.rd (l.rd _ _ hG)), ts.mono l more⟩)⟩⟩
    | _ => cases e2
/-! ### zip -/
theorem zipL_get {xs ys : List PV} {i : Nat} {x : PV} (h : (zipL xs ys)[i]? = some x) : ∃ y z, xs[i]? = some y ∧ ys[i]? = some z ∧ x = .tup [y, z] := by
  unfold zipL at h
  rw [List.getElem?_zipWith] at h
  cases h1 : xs[i]? with
  | none => rw [h1] at h; cases h
  | some y =>
    cases h2 : ys[i]? with
    | none => rw [h1, h2] at h; cases h
    | some z => rw [h1, h2] at h; exact ⟨y, z, rfl, rfl, (Option.some.inj h).symm⟩
theorem zipL_len (xs ys : List PV) : (zipL xs ys).length = min xs.length ys.length := by simp [zipL]
theorem ser_zip {as : List Addr} {K : PySem.W.Frag} {a b : Addr} {us vs : List V} {xs ys : List PV} {L : Hp → Hp → Prop} (hl : ∀ (more : List Addr) (G2 H2 : Hp) (D2 : DS), L G2 H2 → Wd (as ++ more) K G2 H2 D2 → SqL K H2 a us ∧ SqL K H2 b vs ∧ TrS (as ++ more) K G2 us xs ∧ TrS (as ++ more) K G2 vs ys) : Ser (Itz K a b) as K (zipL xs ys) L := fun more G2 H2 D2 l w => by
  obtain ⟨sq, sq2, t, t2⟩ := hl more G2 H2 D2 l w
  have e := t.len
  have e2 := t2.len
  refine ⟨fun i hi => ⟨us, vs, us[i]'(by rw [zipL_len] at hi; omega), vs[i]'(by rw [zipL_len] at hi; omega), sq, sq2, List.getElem?_eq_getElem (by rw [zipL_len] at hi; omega), List.getElem?_eq_getElem (by rw [zipL_len] at hi; omega)⟩, fun i hi => ⟨us, vs, sq, sq2, by rw [zipL_len] at hi; omega⟩, fun i x v H' hx hy => ?_⟩
  obtain ⟨T, u, v, rfl, hT, rfl, hy, hy2⟩ := hy
  obtain ⟨y, z, q1, q2, rfl⟩ := zipL_get hx
  obtain ⟨u', e3, t3⟩ := t.get q1
  obtain ⟨v', e4, t4⟩ := t2.get q2
  have := hy us sq
  rw [e3] at this
  cases this
  have := hy2 vs sq2
  rw [e4] at this
  cases this
  have st := Stp.new (as := as ++ more) (o := .tup [u, v]) hT (w.free hT)
  exact ⟨_, st, w.new hT, .tup upd_same (.cons (t3.up st.le) (.cons (t4.up st.le) .nil))⟩
theorem ser_zipT {as : List Addr} {K : PySem.W.Frag} {a b : Addr} {us vs : List V} {xs ys : List PV} {L : Hp → Hp → Prop} (hl : ∀ (more : List Addr) (G2 H2 : Hp) (D2 : DS), L G2 H2 → Wd (as ++ more) K G2 H2 D2 → SqT K H2 a us ∧ SqT K H2 b vs ∧ TrS (as ++ more) K G2 us xs ∧ TrS (as ++ more) K G2 vs ys) : Ser (RZ.ItzT K a b) as K (zipL xs ys) L := fun more G2 H2 D2 l w => by
  obtain ⟨sq, sq2, t, t2⟩ := hl more G2 H2 D2 l w
  have e := t.len
  have e2 := t2.len
  refine ⟨fun i hi => ⟨us, vs, us[i]'(by rw [zipL_len] at hi; omega), vs[i]'(by rw [zipL_len] at hi; omega), sq, sq2, List.getElem?_eq_getElem (by rw [zipL_len] at hi; omega), List.getElem?_eq_getElem (by rw [zipL_len] at hi; omega)⟩, fun i hi => ⟨us, vs, sq, sq2, by rw [zipL_len] at hi; omega⟩, fun i x v H' hx hy => ?_⟩
  obtain ⟨T, u, v, rfl, hT, rfl, hy, hy2⟩ := hy
  obtain ⟨y, z, q1, q2, rfl⟩ := zipL_get hx
  obtain ⟨u', e3, t3⟩ := t.get q1
  obtain ⟨v', e4, t4⟩ := t2.get q2
  have := hy us sq
  rw [e3] at this
  cases this
  have := hy2 vs sq2
  rw [e4] at this
  cases this
  have st := Stp.new (as := as ++ more) (o := .tup [u, v]) hT (w.free hT)
  exact ⟨_, st, w.new hT, .tup upd_same (.cons (t3.up st.le) (.cons (t4.up st.le) .nil))⟩
theorem ser_zipM {as : List Addr} {K : PySem.W.Frag} {a b : Addr} {us vs : List V} {xs ys : List PV} {L : Hp → Hp → Prop} (hl : ∀ (more : List Addr) (G2 H2 : Hp) (D2 : DS), L G2 H2 → Wd (as ++ more) K G2 H2 D2 → SqT K H2 a us ∧ SqL K H2 b vs ∧ TrS (as ++ more) K G2 us xs ∧ TrS (as ++ more) K G2 vs ys) : Ser (ItzM K a b) as K (zipL xs ys) L := fun more G2 H2 D2 l w => by
  obtain ⟨sq, sq2, t, t2⟩ := hl more G2 H2 D2 l w
  have e := t.len
  have e2 := t2.len
  refine ⟨fun i hi => ⟨us, vs, us[i]'(by rw [zipL_len] at hi; omega), vs[i]'(by rw [zipL_len] at hi; omega), sq, sq2, List.getElem?_eq_getElem (by rw [zipL_len] at hi; omega), List.getElem?_eq_getElem (by rw [zipL_len] at hi; omega)⟩, fun i hi => ⟨us, vs, sq, sq2, by rw [zipL_len] at hi; omega⟩, fun i x v H' hx hy => ?_⟩
  obtain ⟨T, u, v, rfl, hT, rfl, hy, hy2⟩ := hy
  obtain ⟨y, z, q1, q2, rfl⟩ := zipL_get hx
  obtain ⟨u', e3, t3⟩ := t.get q1
  obtain ⟨v', e4, t4⟩ := t2.get q2
  have := hy us sq
  rw [e3] at this
  cases this
  have := hy2 vs sq2
  rw [e4] at this
  cases this
  have st := Stp.new (as := as ++ more) (o := .tup [u, v]) hT (w.free hT)
  exact ⟨_, st, w.new hT, .tup upd_same (.cons (t3.up st.le) (.cons (t4.up st.le) .nil))⟩
theorem i_zip (g : Gd T Φ N sc X) (hg : sc.names.lookup ("zip" : Str) = some .globalImplicit) (hm : T.fr[j]? = some ("zip" : Str)) (ha : PV_ Φ X a ca) (hb : PV_ Φ X b cb)
    (hs : starEach [a, b] X.env = (false, eval a X.env) :: starEach [b] X.env := by rfl) (hs2 : starEach [b] X.env = (false, eval b X.env) :: starEach [] X.env := by rfl) (hpl : (backTo pos (starEach [b] X.env)).any (·.1) = false := by rfl) :
    PI_ Φ X (.Tuple elts kk tpos) (.Call (.Name "zip" p) [a, b] [] pos) (.zip ca cb) := by
  have hA : PA_ Φ X [a, b] (.cons ca (.cons cb .nil)) := a_cons ha (a_cons hb a_nil hs2) hs
  have hP := pi_strong (pi_zip3 (p := p) (pos := pos) (tpos := tpos) (elts := elts) (kk := kk) (gl_of g hg) (g.fr j _ hm) hA hs hpl)
  refine pi_imp hP fun σ H R ⟨as, G, ρ, D, xs, D', w, r, ee, f⟩ => ?_
  obtain ⟨⟨x, D1⟩, e1, ee⟩ := Option.bind_eq_some_iff.mp ee
  obtain ⟨⟨y, D2⟩, e3, ee⟩ := Option.bind_eq_some_iff.mp ee
  obtain ⟨zx, e2, ee⟩ := Option.map_eq_some_iff.mp ee
  cases ee
  refine ⟨as, G, ρ, D, [x, y], D2, w, r, by simp only [evs, e1, e3, Option.bind_some, Option.map_some], fun vs G' H' st w' t => ?_⟩
  cases t with
  | cons t1 t2 =>
    cases t2 with
    | cons t2 t3 =>
      cases t3
      cases x with
      | lst xs =>
        cases y with
        | lst ys =>
          cases e2
          cases t1 with
          | lst hG ts =>
            cases t2 with
            | lst hG2 ts2 => exact ⟨_, _, _, _, rfl, .inl ⟨.of (w'.sub _ _ hG), .of (w'.sub _ _ hG2), fun sz => f _ G' H' st w' (by
                have := sz.1 _ _ (.of (w'.sub _ _ hG))
                rw [zipL_len, ← ts.len]; exact Nat.le_trans (Nat.min_le_left _ _) this) (ser_zip fun more G2 H2 D2 l w2 => ⟨.of (w2.sub _ _ (l.lst hG)), .of (w2.sub _ _ (l.lst hG2)), ts.mono l more, ts2.mono l more⟩)⟩⟩
        | _ => cases e2
      | tup xs =>
        cases y with
        | tup ys =>
          cases e2
          cases t1 with
          | tupR hG ts =>
            cases t2 with
            | tupR hG2 ts2 => exact ⟨_, _, _, _, rfl, .inr (.inl ⟨.inl (w'.rd hG), .inl (w'.rd hG2), fun sz => f _ G' H' st w' (by
                have := sz.2 _ _ (.inl (w'.rd hG))
                rw [zipL_len, ← ts.len]; exact Nat.le_trans (Nat.min_le_left _ _) this) (ser_zipT fun more G2 H2 D2 l w2 => ⟨.inl (w2.rd (l.rd _ _ hG)), .inl (w2.rd (l.rd _ _ hG2)), ts.mono l more, ts2.mono l more⟩)⟩)⟩
        | lst ys =>
          cases e2
          cases t1 with
          | tupR hG ts =>
            cases t2 with
            | lst hG2 ts2 => exact ⟨_, _, _, _, rfl, .inr (.inr ⟨.inl (w'.rd hG), .of (w'.sub _ _ hG2), fun sz => f _ G' H' st w' (by
                have := sz.2 _ _ (.inl (w'.rd hG))
                rw [zipL_len, ← ts.len]; exact Nat.le_trans (Nat.min_le_left _ _) this) (ser_zipM fun more G2 H2 D2 l w2 => ⟨.inl (w2.rd (l.rd _ _ hG)), .of (w2.sub _ _ (l.lst hG2)), ts.mono l more, ts2.mono l more⟩)⟩)⟩
        | _ => cases e2
      | _ => cases e2
end
end MP

/-! MP ge: more rules as the printer takes them. -/
namespace MP
open PySem PySem.Spec PyProof.Rows L2
section
variable {T : Tb} {Φ : Fns} {N : List Str} {sc : Scope} {X : Cx} {e a b k f tg : Expr} {pos p np : Pos} {i : Nat} {x : Str} {c ck ca cb : CE}
theorem gs_ext {apos cpos : Pos} (g : Gd T Φ N sc X) (he : PV_ Φ X e c) (h : varB N sc i x = true := by decide +kernel)
    (hbase : attributeBase (.Name x np) "extend" X.env (eval (.Name x np) X.env) = eval (.Name x np) X.env := by rfl)
    (hfew : ((backTo cpos (starEach [e] X.env)).all (fun x => !x.1) && (backToKw cpos (keywordEach [] X.env)).all (fun x => x.1.isSome) && decide (([e] : List Expr).length + ([] : List Keyword).length + (if ([] : List Keyword).isEmpty then 0 else 1) < 30)) = true := by rfl)
    (hline : (apos.endLine == cpos.line) = true := by rfl) (hs : starEach [e] X.env = (false, eval e X.env) :: starEach [] X.env := by rfl) : PS_ Φ X (.Expr (.Call (.Attribute (.Name x np) "extend" apos) [e] [] cpos) pos) (.ext i c) :=
  let ⟨h1, h2, h3, h4⟩ := varB_of h; s_ext g h1 h2 he hbase hfew hline hs rfl rfl h3 h4
theorem gs_ins {apos cpos : Pos} (g : Gd T Φ N sc X) (hk : PV_ Φ X k ck) (he : PV_ Φ X e c) (h : varB N sc i x = true := by decide +kernel)
    (hbase : attributeBase (.Name x np) "insert" X.env (eval (.Name x np) X.env) = eval (.Name x np) X.env := by rfl)
    (hfew : ((backTo cpos (starEach [k, e] X.env)).all (fun x => !x.1) && (backToKw cpos (keywordEach [] X.env)).all (fun x => x.1.isSome) && decide (([k, e] : List Expr).length + ([] : List Keyword).length + (if ([] : List Keyword).isEmpty then 0 else 1) < 30)) = true := by rfl)
    (hline : (apos.endLine == cpos.line) = true := by rfl) (hs : starEach [k, e] X.env = (false, eval k X.env) :: starEach [e] X.env := by rfl) (hs2 : starEach [e] X.env = (false, eval e X.env) :: starEach [] X.env := by rfl) (hplain : (backTo cpos (starEach [e] X.env)).any (·.1) = false := by rfl) : PS_ Φ X (.Expr (.Call (.Attribute (.Name x np) "insert" apos) [k, e] [] cpos) pos) (.ins i ck c) :=
  let ⟨h1, h2, h3, h4⟩ := varB_of h; s_ins g h1 h2 hk he hbase hfew hline hs hs2 hplain rfl h3 h4
theorem gs_rem {apos cpos : Pos} (g : Gd T Φ N sc X) (he : PV_ Φ X e c) (h : varB N sc i x = true := by decide +kernel)
    (hbase : attributeBase (.Name x np) "remove" X.env (eval (.Name x np) X.env) = eval (.Name x np) X.env := by rfl)
    (hfew : ((backTo cpos (starEach [e] X.env)).all (fun x => !x.1) && (backToKw cpos (keywordEach [] X.env)).all (fun x => x.1.isSome) && decide (([e] : List Expr).length + ([] : List Keyword).length + (if ([] : List Keyword).isEmpty then 0 else 1) < 30)) = true := by rfl)
    (hline : (apos.endLine == cpos.line) = true := by rfl) (hs : starEach [e] X.env = (false, eval e X.env) :: starEach [] X.env := by rfl) : PS_ Φ X (.Expr (.Call (.Attribute (.Name x np) "remove" apos) [e] [] cpos) pos) (.rem i c) :=
  let ⟨h1, h2, h3, h4⟩ := varB_of h; s_rem g h1 h2 he hbase hfew hline hs rfl rfl h3 h4
theorem gs_pop {apos cpos : Pos} {pt : Pat} (g : Gd T Φ N sc X) (hp : PP_ X tg pt) (h : varB N sc i x = true := by decide +kernel)
    (hbase : attributeBase (.Name x np) "pop" X.env (eval (.Name x np) X.env) = eval (.Name x np) X.env := by rfl) (hline : (apos.endLine == cpos.line) = true := by rfl)
    (hs : swapsWithSole [tg] (.Call (.Attribute (.Name x np) "pop" apos) [] [] cpos) pos.line X.env = pure false := by rfl) (hw : swappedStores [tg] (.Call (.Attribute (.Name x np) "pop" apos) [] [] cpos) X.env = pure none := by rfl)
    (h1 : (assignEach [tg] X.env).map (·.2) = [assign tg X.env] := by rfl) : PS_ Φ X (.Assign [tg] (.Call (.Attribute (.Name x np) "pop" apos) [] [] cpos) pos) (.pop pt i) :=
  let ⟨q1, q2, q3, q4⟩ := varB_of h; s_pop g q1 q2 hp hbase hline hs hw h1 q3 q4
theorem gs_pop0 {apos cpos zp : Pos} {j : Nat} {pt : Pat} (g : Gd T Φ N sc X) (hp : PP_ X tg pt) (h : varB N sc i x = true := by decide +kernel)
    (hbase : attributeBase (.Name x np) "pop" X.env (eval (.Name x np) X.env) = eval (.Name x np) X.env := by rfl)
    (hfew : ((backTo cpos (starEach [.Constant (.int 0) j zp] X.env)).all (fun x => !x.1) && (backToKw cpos (keywordEach [] X.env)).all (fun x => x.1.isSome) && decide (([.Constant (.int 0) j zp] : List Expr).length + ([] : List Keyword).length + (if ([] : List Keyword).isEmpty then 0 else 1) < 30)) = true := by rfl)
    (hline : (apos.endLine == cpos.line) = true := by rfl) (hst : starEach [.Constant (.int 0) j zp] X.env = (false, eval (.Constant (.int 0) j zp) X.env) :: starEach [] X.env := by rfl)
    (hs : swapsWithSole [tg] (.Call (.Attribute (.Name x np) "pop" apos) [.Constant (.int 0) j zp] [] cpos) pos.line X.env = pure false := by rfl) (hw : swappedStores [tg] (.Call (.Attribute (.Name x np) "pop" apos) [.Constant (.int 0) j zp] [] cpos) X.env = pure none := by rfl)
    (h1 : (assignEach [tg] X.env).map (·.2) = [assign tg X.env] := by rfl) : PS_ Φ X (.Assign [tg] (.Call (.Attribute (.Name x np) "pop" apos) [.Constant (.int 0) j zp] [] cpos) pos) (.pop0 pt i) :=
  let ⟨q1, q2, q3, q4⟩ := varB_of h; s_pop0 g q1 q2 hp hbase hfew hline hst rfl hs hw h1 q3 q4
theorem gie {elts : List Expr} {kk : Nat} {tpos : Pos} (g : Gd T Φ N sc X) (j : Nat) (ha : PV_ Φ X a ca) (h : gloB T sc j "enumerate" = true := by decide +kernel) (hs : starEach [a] X.env = [(false, eval a X.env)] := by rfl) : PI_ Φ X (.Tuple elts kk tpos) (.Call (.Name "enumerate" p) [a] [] pos) (.enum ca) :=
  let ⟨h1, h2, _, _⟩ := gloB_of h; i_enum g h2 h1 ha hs
theorem giz {elts : List Expr} {kk : Nat} {tpos : Pos} (g : Gd T Φ N sc X) (j : Nat) (ha : PV_ Φ X a ca) (hb : PV_ Φ X b cb) (h : gloB T sc j "zip" = true := by decide +kernel)
    (hs : starEach [a, b] X.env = (false, eval a X.env) :: starEach [b] X.env := by rfl) (hs2 : starEach [b] X.env = (false, eval b X.env) :: starEach [] X.env := by rfl) (hpl : (backTo pos (starEach [b] X.env)).any (·.1) = false := by rfl) :
    PI_ Φ X (.Tuple elts kk tpos) (.Call (.Name "zip" p) [a, b] [] pos) (.zip ca cb) :=
  let ⟨h1, h2, _, _⟩ := gloB_of h; i_zip g h2 h1 ha hb hs hs2 hpl
/-! ### list(range(n)), tuple(range(n)) -/
theorem one_int {ρ : Envi} {D D' : DS} {ca : CE} {y : PV} {bi : Bi} (hbi : ∀ z x, pBi bi [x] = some z → ∃ n, x = .int n) (ee : ev Φ (.bi bi (.cons ca .nil)) ρ D = some (y, D')) : ∃ x n, ev Φ ca ρ D = some (x, D') ∧ opd D' x = some (.int n) ∧ pBi bi [.int n] = some y := by
  obtain ⟨⟨ws, D1⟩, e1, ee⟩ := Option.bind_eq_some_iff.mp ee
  obtain ⟨ys, e2, ee⟩ := Option.bind_eq_some_iff.mp ee
  obtain ⟨z, e3, ee⟩ := Option.map_eq_some_iff.mp ee
  cases ee
  obtain ⟨⟨x, D2⟩, e4, e5⟩ := Option.bind_eq_some_iff.mp (show (ev Φ ca ρ D).bind (fun r => (evs Φ .nil ρ r.2).map fun q => (r.1 :: q.1, q.2)) = some (ws, _) from e1)
  obtain ⟨⟨zs, D3⟩, e6, e7⟩ := Option.map_eq_some_iff.mp e5
  have e6 : some (([] : List PV), D2) = some (zs, D3) := e6
  cases e6
  cases e7
  obtain ⟨x', e8, e9⟩ := Option.bind_eq_some_iff.mp (show (opd _ x).bind (fun y => (mapO (opd _) []).bind fun ys => some (y :: ys)) = some ys from e2)
  have e9 : some [x'] = some ys := e9
  cases e9
  obtain ⟨n, rfl⟩ := hbi _ _ e3
  exact ⟨x, n, e4, e8, e3⟩
theorem opd_int' {as : List Addr} {K : PySem.W.Frag} {G H : Hp} {D : DS} {x : PV} {n : Int} (w : Wd as K G H D) (h : opd D x = some (.int n)) : x = .int n := by
  cases x with
  | shr j =>
    exfalso
    obtain ⟨y, h1, h2⟩ := Option.map_eq_some_iff.mp (show (D[j]?).map _ = some (PV.int n) from h)
    have hj := (List.getElem?_eq_some_iff.mp h1).1
    have ha : as[j]? = some (as[j]'(by rw [w.len]; exact hj)) := List.getElem?_eq_getElem _
    have o := w.sh j _ y ha h1
    cases y with
    | lck z =>
      have : z = .int n := h2
      subst this
      exact o
    | int z => exact o
    | _ => cases h2
  | _ => first | exact Option.some.inj h | cases h
theorem f_lrg {q : Pos} (g : Gd T Φ N sc X) (j j2 : Nat) (ha : PV_ Φ X a ca) (h : gloB T sc j "list" = true := by decide +kernel) (h' : gloB T sc j2 "range" = true := by decide +kernel) {p2 : Pos}
    (na : starEach [a] X.env = (false, eval a X.env) :: starEach [] X.env := by rfl) (na2 : starEach [.Call (.Name "range" p2) [a] [] q] X.env = (false, eval (.Call (.Name "range" p2) [a] [] q) X.env) :: starEach [] X.env := by rfl) :
    PF_ Φ X (.Call (.Name "list" p) [.Call (.Name "range" p2) [a] [] q] [] pos) (.bi .listRange (.cons ca .nil)) := by
  obtain ⟨h1, h2, _, _⟩ := gloB_of h
  obtain ⟨k1, k2, _, _⟩ := gloB_of h'
  refine pe_imp (pe_listRg (p := p) g.calm (gl_of g h2) (g.fr j _ h1) (prg_1 (p := p2) (pos := q) (gl_of g k2) (g.fr j2 _ k1) ha na) na2) fun σ H Q ⟨as, G, ρ, D, y, D', w, r, ee, f⟩ => ?_
  obtain ⟨x, n, e1, e2, e3⟩ := one_int (fun z x hz => by
    cases x <;> first | exact ⟨_, rfl⟩ | cases hz) ee
  refine ⟨as, G, ρ, D, x, D', w, r, e1, fun v G1 H1 st1 w1 t1 => ?_⟩
  obtain rfl := opd_int' w1 e2
  cases t1
  have e3' : (if n ≤ LIM ∧ -LIM ≤ n then some (PV.lst ((List.range n.toNat).map fun (k : Nat) => .int k)) else none) = some y := e3
  split at e3'
  case isFalse => cases e3'
  rename_i hl
  cases e3'
  have hL : ((LIM : Nat) : Int) = 1000000 := rfl
  refine ⟨n, rfl, ⟨by omega, by omega, by omega, by omega, by omega⟩, fun p hp => f p G1 _ (st1.trans (Stp.own hp)) (w1.ownp hp) (none_back st1 hp) (w1.free hp) ⟨_, upd_same, ?_⟩⟩
  have : rgV 0 n = (List.range n.toNat).map fun (k : Nat) => V.int k := by
    unfold rgV; simp
  rw [this]
  have t := TrS.ints (as := as) (K := X.K) (G := G1) ((List.range n.toNat).map fun (k : Nat) => (k : Int))
  rw [List.map_map, List.map_map] at t
  exact t

/-! ### x in range(a, b) -/
theorem intOf_some {x : PV} {i : Int} (h : intOf x = some i) : x = .int i := by
  cases x <;> first | (cases h; rfl) | cases h
theorem inr_ok {cx ca cb : CE} {σ : L2.St} {H : Hp} {Q : VK} {ev_ : List Expr} (h : ∃ as G ρ D y D', Wd as X.K G H D ∧ Rp as X.K G H σ ρ ∧ ev Φ (.inr cx ca cb) ρ D = some (y, D') ∧ ∀ G' H', Stp as G H G' H' → Wd as X.K G' H' D' → ∀ b, y = .bl b → Q (.bl b) H') :
    tOp (fun x y H Q => ∃ i a lo hi, x = V.int i ∧ y = V.ref a ∧ H a = some (.rng lo hi) ∧ Q (.bl (decide (lo ≤ i ∧ i < hi))) H) (tE X.K Φ cx) (tCB (fun vs H Q => ∃ i j, vs = [V.int i, V.int j] ∧ ∀ p, H p = none → Q (.ref p) (upd H p (.rng i j))) (tA X.K Φ (.cons ca (.cons cb .nil)))) σ H Q := by
  obtain ⟨as, G, ρ, D, y, D', w, r, ee, f⟩ := h
  obtain ⟨⟨x, D1⟩, e1, ee⟩ := Option.bind_eq_some_iff.mp ee
  obtain ⟨⟨a, D2⟩, e2, ee⟩ := Option.bind_eq_some_iff.mp ee
  obtain ⟨⟨b, D3⟩, e3, ee⟩ := Option.bind_eq_some_iff.mp ee
  obtain ⟨i, e4, ee⟩ := Option.bind_eq_some_iff.mp ee
  obtain ⟨m, e5, ee⟩ := Option.bind_eq_some_iff.mp ee
  obtain ⟨n, e6, ee⟩ := Option.map_eq_some_iff.mp ee
  cases ee
  obtain rfl := intOf_some e4
  obtain rfl := intOf_some e5
  obtain rfl := intOf_some e6
  refine ⟨as, G, ρ, D, _, D1, w, r, e1, fun v G1 H1 st1 w1 t1 => ?_⟩
  cases t1
  refine ⟨as, G1, ρ, D1, [.int m, .int n], D3, w1, r.up st1, by simp only [evs, e2, e3, Option.bind_some, Option.map_some], fun vs G2 H2 st2 w2 t2 => ?_⟩
  cases t2 with
  | cons t2 t3 =>
    cases t3 with
    | cons t3 t4 =>
      cases t4
      cases t2
      cases t3
      exact ⟨m, n, rfl, fun p hp => ⟨i, p, m, n, rfl, rfl, upd_same, f G2 _ ((st1.trans st2).trans (Stp.own hp)) (w2.ownp hp) _ rfl⟩⟩
theorem t_inr {q : Pos} {cx : CE} (g : Gd T Φ N sc X) (j : Nat) (hx : PV_ Φ X e cx) (ha : PV_ Φ X a ca) (hb : PV_ Φ X b cb) (h : gloB T sc j "range" = true := by decide +kernel)
    (hs : starEach [a, b] X.env = (false, eval a X.env) :: starEach [b] X.env := by rfl) (hs2 : starEach [b] X.env = (false, eval b X.env) :: starEach [] X.env := by rfl) (hpl : (backTo q (starEach [b] X.env)).any (·.1) = false := by rfl) (hm : behindInMarks .In (.Call (.Name "range" p) [a, b] [] q) = false := by with_unfolding_all rfl) :
    PT_ Φ X (.Compare e [.In] [.Call (.Name "range" p) [a, b] [] q] pos) (.inr cx ca cb) := by
  obtain ⟨h1, h2, _, _⟩ := gloB_of h
  have hA : PA_ Φ X [a, b] (.cons ca (.cons cb .nil)) := a_cons ha (a_cons hb a_nil hs2) hs
  have hr := pe_callTy (pos := q) (p := p) (x := "range") cr_range2 (gl_of g h2) (g.fr j _ h1) (show bootBuiltins "range" = some (.type "range") by decide +kernel) hA (by decide) (by decide) hs hpl
  refine pt_imp (pt_cmpR op_in_rng hx hr hm) fun σ H Q ⟨as, G, ρ, D, y, D', w, r, ee, f⟩ => inr_ok (ev_ := []) ⟨as, G, ρ, D, .bl y, D', w, r, ee, fun G' H' st w' b hb => ?_⟩
  cases hb
  exact ⟨_, rfl, f G' H' st w'⟩
end
end MP

/-! MP hd: a def of the text, for the head. -/
namespace MP
open PySem PySem.Spec PyProof.Rows L2

theorem fn_step {T : Tb} {defs : List Def} {P : Program} {w : World} {K : PySem.W.Frag} {mg : Str → Option Value} {base : Heap} {n : Nat} (ih : Alls T defs P w K mg base n)
    (hfr : ∀ (j : Nat) (x : Str), T.fr[j]? = some x → mg x = none) (hcs : ∀ (j : Nat) (x s : Str), T.cs[j]? = some (x, s) → ∃ t, mg x = some (.str s t))
    {g : Nat} {f : Addr} {fd : FuncData} {ps N : List Str} {x qual : Str} {params : Arguments} {body : List Stmt} {scope : Scope} {kws : List (Str × V)} {cs : CSs} (F : FunD K x qual params body scope [] kws f fd) (S : FnScope N ps scope)
    (e : defs[g]? = some ⟨N.length, ps.length, cs⟩) (hb : ∀ (Φ : Fns) (X : Cx), Gd T Φ N scope X → (∀ x, X.fn x = true) → PSs_ Φ X body cs) : FnOk P w K mg base CX0 (n + 1) f fd ps (spOf K (sem defs (n + 1) g) ps.length) := by
  refine F.ok S (fun vs H Q E q => q.1) fun cdv A outer s H vs Q E hr ⟨hlen, as, G, D, xs, r, D', wd, t, er, fin⟩ => ⟨sSs K (sem defs n) cs, PSs.nox (hb _ _ ?_ fun _ => rfl), ?_⟩
  · exact ⟨rfl, rfl, S.nd, rfl, rfl, by have := hr.un; show (A.deeper _).units + 65 < cLine; omega, fun g' x' m' h' => by
      obtain ⟨f', fd', ps', q1, q2, q3, q4⟩ := ih g' x' m' h'
      exact ⟨n, f', fd', ps', q1, q2, q3, hr, q4⟩, hfr, hcs⟩
  · have er' : (defs[g]?).bind (fun d => d.run (sem defs n) xs D) = some (r, D') := er
    rw [e] at er'
    have hpl : ps.length ≤ N.length := by have := congrArg List.length S.pre; rw [List.length_take] at this; omega
    exact run_ok (T := T) hpl wd t hlen er' fin
/-- a law: true at every script -/
theorem law_sp {K : PySem.W.Frag} {φ : List PV → DS → Option (PV × DS)} {n : Nat} (h : ∀ ns : List Int, ns.length ≤ n → ∃ D, φ [.scr ns] [] = some (.bl true, D)) (H : Hp) (a : Addr) (ns : List Int) (hl : ns.length ≤ n) (ho : Only H) (hS : SqL K H a (ns.map V.int)) :
    spOf K φ 1 [.ref a] H (fun v _ => v = .bl true) fun _ _ _ => False := by
  obtain ⟨D, e⟩ := h ns hl
  refine ⟨rfl, [], H, [], [.scr ns], .bl true, D, ⟨fun _ _ h => h, List.nodup_nil, rfl, fun a h => absurd h (by simp), fun j a x h => by simp at h⟩, .cons (.scr hS) .nil, e, fun v G' H' _ _ t => ?_⟩
  cases t
  rfl
end MP

/-! MP xs: a = b = c, stores into items in parallel, xs.index, tuple(range(n)). -/
namespace MP
open PySem PySem.Spec PyProof.Rows L2
section
variable {T : Tb} {Φ : Fns} {N : List Str} {sc : Scope} {X : Cx} {e a b tg k : Expr} {pos p p2 q : Pos} {c ck ca cb : CE} {i j : Nat} {x y : Str}
/-! ### x = y = e -/
def tTwo (te : TE) (u v : TG) : TS := fun E σ H =>
  te σ H fun z H' => u z σ H' fun σ' H'' => v z σ' H'' E.nx
theorem ps_two {tx ty : Expr} {te : TE} {u v : TG} (hx : PE X e te) (hu : PG X tx u) (hv : PG X ty v)
    (hh : (assignEach [tx, ty] X.env).map (·.2) = [assign tx X.env, assign ty X.env]) (hn : swappedStores [tx, ty] e X.env = pure none) :
    PS X (.Assign [tx, ty] e pos) (tTwo te u v) := ⟨fun pins s σ H E I h =>
  wpAny_Assign_two (thn (hx.run pins s σ H _ I h) fun val s' ⟨z, H', I', r', q'⟩ =>
    thn (hu.run pins s' σ H' z val _ I' r' q') fun _ s2 ⟨σ2, H2, I2, q2⟩ =>
      thn (hv.run pins s2 σ2 H2 z val _ I2 r' q2) fun _ _ w => w) hh hn⟩
theorem gs_asg2 {px py : Pos} (g : Gd T Φ N sc X) (hF : ∀ x, X.fn x = true) (he : PV_ Φ X e c) (h : stoB N sc i x = true := by decide +kernel) (h' : stoB N sc j y = true := by decide +kernel)
    (ha : (assignEach [.Name x px, .Name y py] X.env).map (·.2) = [assign (.Name x px) X.env, assign (.Name y py) X.env] := by rfl) (hw : swappedStores [.Name x px, .Name y py] e X.env = pure none := by rfl) :
    PS_ Φ X (.Assign [.Name x px, .Name y py] e pos) (.asg2 i j c) := by
  obtain ⟨h1, h2⟩ := stoB_of h
  obtain ⟨k1, k2⟩ := stoB_of h'
  refine ps_imp (ps_two he (pg_name (i := i) (by rw [g.n]; exact g.nd) (by rw [g.n]; exact h1) (by rw [g.sc]; exact h2) (.inl (hF x))) (pg_name (i := j) (by rw [g.n]; exact g.nd) (by rw [g.n]; exact k1) (by rw [g.sc]; exact k2) (.inl (hF y))) ha hw) fun E σ H ⟨as0, G0, H0, as, G, ρ, D, o, ρ', D', S, ee, f⟩ => ?_
  obtain ⟨⟨v, D1⟩, e1, ee⟩ := Option.map_eq_some_iff.mp (show (ev Φ c ρ D).map (fun r => (Out.nx, (ρ.set i (some (false, r.1))).set j (some (false, r.1)), r.2)) = some (o, ρ', D') from ee)
  cases ee
  refine ⟨as, G, ρ, D, v, D1, S.w, S.r, e1, fun u G1 H1 st1 w1 t1 => ?_⟩
  exact f as _ G1 H1 (.same st1.le) (((S.adv st1 w1).put i t1).put j t1)
/-! ### a target list of names and items -/
def gT (K : PySem.W.Frag) (Φ : Fns) : Tg → TG
  | .nm i => gName i
  | .sub i k => gSub (tVar i) (tE K Φ k) (fun o i v H Q => rSetL o i v H Q ∨ rSetD o i v H Q)
def gTs (K : PySem.W.Frag) (Φ : Fns) : List Tg → TGs
  | [] => gNil
  | t :: r => gCons (gT K Φ t) (gTs K Φ r)
abbrev PT2_ (Φ : Fns) (X : Cx) (es : List Expr) (ts : List Tg) : Prop := PGs X es (gTs X.K Φ ts)
theorem tt_nil : PT2_ Φ X [] [] := pgs_nil
theorem tt_nm {ts : List Expr} {tc : List Tg} {px : Pos} (g : Gd T Φ N sc X) (hF : ∀ x, X.fn x = true) (h2 : PT2_ Φ X ts tc) (h : stoB N sc i x = true := by decide +kernel)
    (hs : (assignEach (.Name x px :: ts) X.env).map (·.2) = assign (.Name x px) X.env :: (assignEach ts X.env).map (·.2) := by rfl) : PT2_ Φ X (.Name x px :: ts) (.nm i :: tc) :=
  let ⟨h3, h4⟩ := stoB_of h
  pgs_cons (pg_name (by rw [g.n]; exact g.nd) (by rw [g.n]; exact h3) (by rw [g.sc]; exact h4) (.inl (hF x))) h2 hs
theorem tt_sub {ts : List Expr} {tc : List Tg} {np pos' : Pos} (g : Gd T Φ N sc X) (hk : PV_ Φ X k ck) (h2 : PT2_ Φ X ts tc) (h : varB N sc i x = true := by decide +kernel)
    (ha : ∀ v, assign (.Subscript (.Name x np) k pos') X.env v = (do
      let ov ← holding [v] (eval (.Name x np) X.env)
      let iv ← holding [v, ov] (eval k X.env)
      standAt pos'
      holding [v, ov, iv] (setItem ov iv v)
      release [v, ov, iv] []) := by intro _; rfl)
    (hs : (assignEach (.Subscript (.Name x np) k pos' :: ts) X.env).map (·.2) = assign (.Subscript (.Name x np) k pos') X.env :: (assignEach ts X.env).map (·.2) := by rfl) : PT2_ Φ X (.Subscript (.Name x np) k pos' :: ts) (.sub i ck :: tc) := by
  obtain ⟨h1, h3, h4, h5⟩ := varB_of h
  exact pgs_cons (pg_sub (pv_slot g h1 h3 h4 h5) hk (set_M (by have := g.un; omega)) ha) h2 hs
theorem gTs_ok {as0 as : List Addr} {K : PySem.W.Frag} {G0 H0 : Hp} : ∀ {ts : List Tg} {os : List Bool} {vs : List V} {xs : List PV} {G H : Hp} {σ : L2.St} {ρ ρ' : Envi} {D D' : DS} {Q : L2.St → Hp → Prop}, Sti as0 as K G0 H0 G H σ ρ D → TrS as K G vs xs → os.all (!·) = true →
    storeT Φ ts os xs ρ D = some (ρ', D') → (∀ σ' G' H', Le G G' → Sti as0 as K G0 H0 G' H' σ' ρ' D' → Q σ' H') → gTs K Φ ts vs σ H Q
  | [], os, vs, xs, G, H, σ, ρ, ρ', D, D', Q, S, t, ho, h, fin => by
    cases os with
    | cons o os => cases xs <;> cases h
    | nil =>
      cases xs with
      | cons x xs => cases h
      | nil =>
        cases t
        have h' : some (ρ, D) = some (ρ', D') := h
        cases h'
        exact ⟨rfl, fin σ G H (Le.refl _) S⟩
  | .nm i :: ts, os, vs, xs, G, H, σ, ρ, ρ', D, D', Q, S, t, ho, h, fin => by
    cases os with
    | nil => cases xs <;> cases h
    | cons o os =>
      cases xs with
      | nil => cases h
      | cons x xs =>
        cases t with
        | cons t tr =>
          have ho' : (!o && os.all (!·)) = true := ho
          rw [Bool.and_eq_true] at ho'
          have eo : o = false := by simpa using ho'.1
          subst eo
          have h' : storeT Φ ts os xs (ρ.set i (some (false, x))) D = some (ρ', D') := h
          exact ⟨_, _, rfl, gTs_ok (S.put i t) tr ho'.2 h' fin⟩
  | .sub i kc :: ts, os, vs, xs, G, H, σ, ρ, ρ', D, D', Q, S, t, ho, h, fin => by
    cases os with
    | nil => cases xs <;> cases h
    | cons o os =>
      cases xs with
      | nil => cases o <;> cases h
      | cons vx xs =>
        cases t with
        | cons t1 tr =>
          have ho' : (!o && os.all (!·)) = true := ho
          rw [Bool.and_eq_true] at ho'
          have eo : o = false := by simpa using ho'.1
          subst eo
          obtain ⟨⟨kx, D2⟩, e2, h⟩ := Option.bind_eq_some_iff.mp (show (ev Φ kc ρ D).bind (fun q => (chg (fun y => pSet y q.1 vx) i ρ q.2).bind fun r => storeT Φ ts os xs r.1 r.2) = some (ρ', D') from h)
          obtain ⟨⟨ρ2, D3⟩, e3, h⟩ := Option.bind_eq_some_iff.mp h
          have slot : ∃ a, σ[i]? = some (some (.ref a)) := by
            unfold chg at e3
            split at e3
            · rename_i y hy
              obtain ⟨a, e, _⟩ := S.r.own i y hy
              exact ⟨a, e⟩
            · rename_i j hy
              obtain ⟨w, e, t⟩ := S.r.frz i _ hy
              cases t
              exact ⟨_, e⟩
            · cases e3
          obtain ⟨a, ea⟩ := slot
          refine ⟨_, _, rfl, ?_⟩
          refine ⟨_, ea, as, G, ρ, D, kx, D2, S.w, S.r, e2, fun kv G2 H2 st2 w2 t2 => ?_⟩
          have S2 := S.adv st2 w2
          obtain ⟨a', y, z, ea', ow, hz, fin2⟩ := chg_ok S2 e3 (fun x => pSet_lck _ _ x)
          rw [ea] at ea'
          cases ea'
          obtain ⟨o, ow', q⟩ := put_ok w2 ow t2 (t1.up st2.le) hz
          exact q _ (gTs_ok (fin2 o ow') (tr.up st2.le) ho'.2 h fun σ' G' H' l S' => fin σ' G' H' (st2.le.trans l) S')
theorem TrXs.vals {as : List Addr} {K : PySem.W.Frag} {G H : Hp} : ∀ {os : List Bool} {vs : List V} {xs : List PV} {ps : List Addr}, TrXs as K G H os vs xs ps → os.all (!·) = true → TrS as K G vs xs
  | _, _, _, _, .nil, _ => .nil
  | _, _, _, _, .val t r, h => .cons t (TrXs.vals r (by simpa using h))
  | _, _, _, _, .own _ _ _ _ _, h => by simp at h
section
variable {kt k2 : Nat} {pt pt2 : Pos} {ts es : List Expr} {tc : List Tg} {os : List Bool} {cs : CEs}
theorem gs_parT (g : Gd T Φ N sc X) (ht : PT2_ Φ X ts tc) (ha : PX_ Φ X es os cs) (ho : os.all (!·) = true := by rfl)
    (hlen : cs.len = tc.length := by rfl) (hlim : cs.len ≤ LIM := by decide) (hn : (assignEach ts X.env).length = tc.length := by rfl) (hst : (assignEach ts X.env).findIdx? (·.1) = none := by rfl)
    (hs : swapsWithSole [.Tuple ts kt pt] (.Tuple es k2 pt2) pos.line X.env = pure false := by rfl) (hw : swappedStores [.Tuple ts kt pt] (.Tuple es k2 pt2) (dE sc) = pure none := by rfl)
    (h1 : (assignEach [.Tuple ts kt pt] X.env).map (·.2) = [assign (.Tuple ts kt pt) X.env] := by rfl) :
    PS_ Φ X (.Assign [.Tuple ts kt pt] (.Tuple es k2 pt2) pos) (.par tc os cs) :=
  ps_imp (ps_asg (pe_tup ha) (pg_tup (n := tc.length) g.calm ht hn hst) hs (by rw [sws_dE g.sc]; exact hw) h1) fun E σ H ⟨as0, G0, H0, as, G, ρ, D, o, ρ', D', S, ee, f⟩ => by
    obtain ⟨⟨xs, D1⟩, e1, ee⟩ := Option.bind_eq_some_iff.mp (show (evs Φ cs ρ D).bind (fun r => (storeT Φ tc os r.1 ρ r.2).map fun q => (Out.nx, q.1, q.2)) = some (o, ρ', D') from ee)
    obtain ⟨⟨ρ2, D2⟩, e2, ee⟩ := Option.map_eq_some_iff.mp ee
    cases ee
    refine ⟨as, G, ρ, D, xs, D1, S.w, S.r, e1, fun vs ps G1 H1 st1 w1 t1 hn => ?_⟩
    have tv := TrXs.vals t1 ho
    have hl2 : vs.length = cs.len := by rw [t1.len, evs_len e1]
    refine ⟨by rw [hl2]; exact line_lim hlim, fun p hp => ?_⟩
    have st2 : Stp as G1 H1 G1 (upd H1 p (.tup vs)) := Stp.own hp
    have S1 := S.adv st1 w1
    refine ⟨p, vs, rfl, .of upd_same, by rw [hl2, hlen], ?_⟩
    exact gTs_ok (S1.adv st2 (S1.w.ownp hp)) tv ho e2 fun σ' G' H' l S' => f as σ' G' H' (.same (st1.le.trans l)) S'
end
/-! ### xs.index(n), ints -/
theorem idx_first : ∀ {ns : List Int} {n : Int}, n ∈ ns → ns[ns.idxOf n]? = some n ∧ ∀ m : Nat, m < ns.idxOf n → ns[m]? ≠ some n
  | a :: r, n, h => by
    by_cases e : a = n
    · subst e
      rw [List.idxOf_cons_self]
      exact ⟨rfl, fun m hm => absurd hm (Nat.not_lt_zero m)⟩
    · have hr : n ∈ r := by
        rcases List.mem_cons.mp h with z | z
        · exact absurd z.symm e
        · exact z
      obtain ⟨h1, h2⟩ := idx_first hr
      have ei : (a :: r).idxOf n = r.idxOf n + 1 := by
        rw [List.idxOf_cons]
        have : (a == n) = false := by simpa using e
        rw [this]; rfl
      rw [ei]
      refine ⟨by simpa using h1, fun m hm => ?_⟩
      cases m with
      | zero => simpa using e
      | succ m => simpa using h2 m (by omega)
theorem flat_ints (ns : List Int) : (ns.map V.int).all flatV = true := by
  rw [List.all_map, List.all_eq_true]; intro x _; rfl
theorem g_index {apos cpos : Pos} (g : Gd T Φ N sc X) (ha : PV_ Φ X a ca) (hb : PV_ Φ X b cb)
    (hbase : attributeBase a "index" X.env (eval a X.env) = eval a X.env := by rfl)
    (hfew : ((backTo cpos (starEach [b] X.env)).all (fun x => !x.1) && (backToKw cpos (keywordEach [] X.env)).all (fun x => x.1.isSome) && decide (([b] : List Expr).length + ([] : List Keyword).length + (if ([] : List Keyword).isEmpty then 0 else 1) < 30)) = true := by rfl)
    (hline : (apos.endLine == cpos.line) = true := by rfl) (hs : starEach [b] X.env = (false, eval b X.env) :: starEach [] X.env := by rfl) (hplain : (backTo cpos (starEach [] X.env)).any (·.1) = false := by rfl) :
    PV_ Φ X (.Call (.Attribute a "index" apos) [b] [] cpos) (.met .index ca (.cons cb .nil)) := by
  have hA : PA_ Φ X [b] (.cons cb .nil) := a_cons hb a_nil hs
  refine pe_imp (pe_bm PySem.F.plainAttrs_list PySem.F.slot_list_index PySem.F.type_list_index mt_index ha hA hbase hfew hline hs hplain) fun σ H Q ⟨as, G, ρ, D, y, D', w, r, ee, f⟩ => ?_
  obtain ⟨⟨v, D1⟩, e1, ee⟩ := Option.bind_eq_some_iff.mp (show (ev Φ ca ρ D).bind (fun r => (evs Φ (.cons cb .nil) ρ r.2).bind fun q => (pMe .index r.1 q.1).map fun z => (z, q.2)) = some (y, D') from ee)
  obtain ⟨⟨zs, D2⟩, e2, ee⟩ := Option.bind_eq_some_iff.mp ee
  obtain ⟨z, e3, ee⟩ := Option.map_eq_some_iff.mp ee
  cases ee
  have len1 : ∃ u, zs = [u] := by
    obtain ⟨⟨u, D3⟩, e4, e5⟩ := Option.bind_eq_some_iff.mp (show (ev Φ cb ρ D1).bind (fun r => (evs Φ .nil ρ r.2).map fun q => (r.1 :: q.1, q.2)) = some (zs, _) from e2)
    obtain ⟨⟨us, D4⟩, e6, e7⟩ := Option.map_eq_some_iff.mp e5
    have e6 : some (([] : List PV), D3) = some (us, D4) := e6
    cases e6
    cases e7
    exact ⟨u, rfl⟩
  obtain ⟨u, rfl⟩ := len1
  cases u with
  | int n =>
    cases v with
    | lst xs =>
      obtain ⟨ns, h3, h4⟩ := Option.bind_eq_some_iff.mp (show (mapO intOf xs).bind (fun ns => if n ∈ ns then some (PV.int (ns.idxOf n)) else none) = some _ from e3)
      split at h4
      case isFalse => cases h4
      rename_i hmem
      cases h4
      refine ⟨as, G, ρ, D, _, D1, w, r, e1, fun v1 G1 H1 st1 w1 t1 => ?_⟩
      cases t1 with
      | lst hG ts =>
        refine ⟨.inl ⟨rfl, _, .of (w1.sub _ _ hG)⟩, as, G1, ρ, D1, [.int n], _, w1, r.up st1, e2, fun vs G2 H2 st2 w2 t2 => ?_⟩
        cases t2 with
        | cons t2 t3 =>
          cases t3
          cases t2
          have ei := ints_tr ts h3
          subst ei
          obtain ⟨q1, q2⟩ := idx_first hmem
          refine ⟨_, _, .int n, ns.idxOf n, .int n, rfl, rfl, .of (w2.sub _ _ (st2.le.lst hG)), rfl, flat_ints ns, by rw [List.getElem?_map, q1]; rfl, by simp [eqV], fun m z' hm hz' => ?_, f _ G2 H2 (st1.trans st2) w2 (.int _)⟩
          rw [List.getElem?_map] at hz'
          obtain ⟨n', hn', rfl⟩ := Option.map_eq_some_iff.mp hz'
          have : n' ≠ n := fun e => q2 m hm (by rw [hn', e])
          simpa [eqV] using this
    | _ => cases e3
  | _ => cases v <;> cases e3
end
end MP

/-! MP zh: tuple(zip(a, b)) of lists. -/
namespace MP
open PySem PySem.Spec PyProof.Rows L2
abbrev ZipH (h : Heap) (z TI TO T : Addr) (b : Bool) : Prop := h.get? z = some { cls := .type "zip", data := .fields #[rawInt T, .bool b, .bool false, .ref TI, .ref TO] }
section
variable {prog : Program} {w : World} {A : Around} {E : Value → Shared → Prop} {s : Shared} {z TI TO T i1 i2 : Addr} {fp1 fp2 : List Addr} {n1 n2 i : Nat} {P1 P2 : Nat → Value → Prop} {St1 St2 : Nat → Heap → Prop} {b : Bool} {oT : Obj}
theorem owned_held {Q : Bool → Shared → Prop} (hz : ZipH s.heap z TI TO T b) (hT : s.heap.get? T = some oT) (hQ : ∀ h', ZipH h' z TI TO T true → Heap.SameBut z s.heap h' → Q false { s with heap := h' }) : wpAny (model prog w) A (Builtin.SmallTypes.ownedTupleIsFree (.ref z)) Q E s := by
  obtain ⟨hp, g, d, tk, os⟩ := s
  unfold Builtin.SmallTypes.ownedTupleIsFree
  refine wpAny_bind (wpAny_field hz rfl (x := rawInt T) rfl ?_)
  show wpAny _ _ (loadIfAlive ((T : Int).toNat) >>= _) _ _ _
  rw [Int.toNat_natCast]
  refine wpAny_bind (PySem.W.kdx_alive hT ?_)
  simp only [Option.isNone_some, Bool.false_eq_true, if_false]
  refine wpAny_bind (wpAny_field hz rfl (x := .bool b) rfl ?_)
  cases b with
  | true =>
    rw [if_neg (show ¬ ((Value.bool true != Value.bool true) = true) from Bool.false_ne_true)]
    exact wpAny_pure (hQ hp hz (Heap.SameBut.refl _ _))
  | false =>
    rw [if_pos (show (Value.bool false != Value.bool true) = true from rfl)]
    refine wpAny_bind (wpAny_setField_rec hz (by simp) fun h₃ he₃ hs₃ => ?_)
    exact wpAny_pure (hQ h₃ he₃ hs₃)
theorem zipH_next_item {Q : Value → Shared → Prop} (S : ZipSep2 z TI TO i1 i2 fp1 fp2) (D1 : Draws prog w A i1 fp1 n1 P1 St1) (D2 : Draws prog w A i2 fp2 n2 P2 St2)
    (hz : ZipH s.heap z TI TO T b) (hT : s.heap.get? T = some oT) (hTI : IsTupOf2 s.heap TI (.ref i1) (.ref i2)) (st1 : St1 i s.heap) (st2 : St2 i s.heap) (hlt1 : i < n1) (hlt2 : i < n2)
    (hQ : ∀ x1 x2 h' tk, P1 i x1 → P2 i x2 → ZipH h' z TI TO T true → St1 (i + 1) h' → St2 (i + 1) h' → IsTupOf2 h' s.heap.objs.size x1 x2 → h'.objs.size = s.heap.objs.size + 1 →
      (∀ c o, c ≠ z → c ≠ i1 → c ≠ i2 → s.heap.get? c = some o → h'.get? c = some o) → Q (.ref s.heap.objs.size) { s with heap := h', toks := tk }) :
    wpAny (model prog w) A (Builtin.«zip.__next__» ⟨[.ref z], []⟩) (fun fin s' => ∃ v, fin = .done (.ret v) ∧ Q v s') E s := by
  obtain ⟨hp, g, d, tk0, os⟩ := s
  show wpAny _ _ (field (.ref z) 2 >>= _) _ _ _
  refine wpAny_bind (wpAny_field hz rfl (x := .bool false) rfl ?_)
  show wpAny _ _ (field (.ref z) 3 >>= _) _ _ _
  refine wpAny_bind (wpAny_field hz rfl (x := .ref TI) rfl ?_)
  refine wpAny_bind (wpAny_seqItems hTI rfl ?_)
  show wpAny _ _ (Builtin.SmallTypes.ownedTupleIsFree (.ref z) >>= _) _ _ _
  refine wpAny_bind (owned_held hz hT fun g0 hz0 hs0 => ?_)
  replace hz0 : ZipH g0 z TI TO T true := hz0
  replace hs0 : Heap.SameBut z hp g0 := hs0
  simp only [Bool.false_eq_true, if_false]
  refine wpAny_bind ?_
  first
  | rw [List.forIn_toArray]
  | (rw [← Array.forIn_toList]; simp only [List.toList_toArray])
  | rw [← Array.forIn_toList]
  simp only [List.forIn_cons, List.forIn_nil]
  refine wpAny_bind (wpAny_bind (wpAny_holding ?_))
  show wpAny _ _ (Builtin.SmallTypes.nextOf (.ref i1) >>= _) _ _ ⟨g0, g, d, tk0, os⟩
  refine wpAny_bind (D1.item i _ _ _ hlt1 (D1.over st1 hs0 S.zf1) fun x1 p1 tk1 hx1 sn1 hp1 => wpAny_pure ?_)
  replace hp1 : Heap.SameBut i1 g0 p1 := hp1
  first
  | refine wpAny_pure (wpAny_bind (wpAny_bind (wpAny_holding ?_)))
  | refine wpAny_bind (wpAny_pure (wpAny_pure (wpAny_bind (wpAny_bind (wpAny_holding ?_)))))
  | skip
  show wpAny _ _ (Builtin.SmallTypes.nextOf (.ref i2) >>= _) _ _ ⟨p1, g, d, tk1, os⟩
  refine wpAny_bind (D2.item i _ _ _ hlt2 (D2.over (D2.over st2 hs0 S.zf2) hp1 S.sep1_2) fun x2 p2 tk2 hx2 sn2 hp2 => wpAny_pure ?_)
  replace hp2 : Heap.SameBut i2 p1 p2 := hp2
  refine wpAny_pure (wpAny_pure ?_)
  refine wpAny_bind (wpAny_newTuple (hsz := by show 2 ≤ sizeLine; decide) ?_)
  have hsz : p2.objs.size = hp.objs.size := by rw [hp2.1, hp1.1, hs0.1]
  have hkk : ∀ c o, c ≠ z → c ≠ i1 → c ≠ i2 → hp.get? c = some o → p2.get? c = some o := fun c o cz c1 c2 e => hp2.extBut _ _ c2 (hp1.extBut _ _ c1 (hs0.extBut _ _ cz e))
  have hzz : ZipH p2 z TI TO T true := hp2.extBut _ _ S.zi2 (hp1.extBut _ _ S.zi1 hz0)
  refine wpAny_pure ⟨_, rfl, ?_⟩
  show Q (.ref p2.objs.size) ⟨p2.push { cls := .type "tuple", data := .seq #[x1, x2] }, g, d, tk2, os⟩
  rw [hsz]
  refine hQ x1 x2 _ tk2 hx1 hx2 (Heap.get?_push_of_some _ hzz) (D1.frame _ _ _ (D1.over sn1 hp2 S.sep2_1) fun b _ o e => Heap.get?_push_of_some _ e) (D2.frame _ _ _ sn2 fun b _ o e => Heap.get?_push_of_some _ e) ?_ ?_ fun c o cz c1 c2 e => Heap.get?_push_of_some _ (hkk c o cz c1 c2 e)
  · show (p2.push _).get? hp.objs.size = _
    rw [← hsz]; exact Heap.get?_push_size _ rfl
  · show (p2.push _).objs.size = hp.objs.size + 1
    rw [Heap.size_push, hsz]
theorem zipH_next_end {Q : Fin → Shared → Prop} (S : ZipSep2 z TI TO i1 i2 fp1 fp2) (D1 : Draws prog w A i1 fp1 n1 P1 St1) (D2 : Draws prog w A i2 fp2 n2 P2 St2)
    (hz : ZipH s.heap z TI TO T b) (hT : s.heap.get? T = some oT) (hTI : IsTupOf2 s.heap TI (.ref i1) (.ref i2)) (st1 : St1 i s.heap) (st2 : St2 i s.heap) (hle1 : i ≤ n1) (hle2 : i ≤ n2) (hend : i = n1 ∨ i = n2)
    (hE : ∀ h' tk e, (∀ c o, c ≠ z → c ≠ i1 → c ≠ i2 → s.heap.get? c = some o → h'.get? c = some o) → (∃ o, h'.get? e = some o ∧ o.cls = .type "StopIteration") → E (.ref e) { s with heap := h', toks := tk }) :
    wpAny (model prog w) A (Builtin.«zip.__next__» ⟨[.ref z], []⟩) Q E s := by
  obtain ⟨hp, g, d, tk0, os⟩ := s
  show wpAny _ _ (field (.ref z) 2 >>= _) _ _ _
  refine wpAny_bind (wpAny_field hz rfl (x := .bool false) rfl ?_)
  show wpAny _ _ (field (.ref z) 3 >>= _) _ _ _
  refine wpAny_bind (wpAny_field hz rfl (x := .ref TI) rfl ?_)
  refine wpAny_bind (wpAny_seqItems hTI rfl ?_)
  show wpAny _ _ (Builtin.SmallTypes.ownedTupleIsFree (.ref z) >>= _) _ _ _
  refine wpAny_bind (owned_held hz hT fun g0 hz0 hs0 => ?_)
  replace hz0 : ZipH g0 z TI TO T true := hz0
  replace hs0 : Heap.SameBut z hp g0 := hs0
  simp only [Bool.false_eq_true, if_false]
  refine wpAny_bind ?_
  first
  | rw [List.forIn_toArray]
  | (rw [← Array.forIn_toList]; simp only [List.toList_toArray])
  | rw [← Array.forIn_toList]
  simp only [List.forIn_cons, List.forIn_nil]
  refine wpAny_bind (wpAny_bind (wpAny_holding ?_))
  show wpAny _ _ (Builtin.SmallTypes.nextOf (.ref i1) >>= _) _ _ ⟨g0, g, d, tk0, os⟩
  by_cases hlt1 : i < n1
  · refine wpAny_bind (D1.item i _ _ _ hlt1 (D1.over st1 hs0 S.zf1) fun x1 p1 tk1 hx1 sn1 hp1 => wpAny_pure ?_)
    replace hp1 : Heap.SameBut i1 g0 p1 := hp1
    refine wpAny_pure (wpAny_bind (wpAny_bind (wpAny_holding ?_)))
    show wpAny _ _ (Builtin.SmallTypes.nextOf (.ref i2) >>= _) _ _ ⟨p1, g, d, tk1, os⟩
    have hi2 : i = n2 := by omega
    refine wpAny_bind (D2.done ⟨p1, g, d, tk1, os⟩ _ _ (by rw [← hi2]; exact D2.over (D2.over st2 hs0 S.zf2) hp1 S.sep1_2) fun q e hq he => ?_)
    exact hE q tk1 e (fun c o cz c1 c2 x => hq _ _ c2 (hp1.extBut _ _ c1 (hs0.extBut _ _ cz x))) he
  · have hi1 : i = n1 := by omega
    refine wpAny_bind (D1.done ⟨g0, g, d, tk0, os⟩ _ _ (by rw [← hi1]; exact D1.over st1 hs0 S.zf1) fun q e hq he => ?_)
    exact hE q tk0 e (fun c o cz c1 c2 x => hq _ _ c1 (hs0.extBut _ _ cz x)) he
/-! the zip's state while its pairs are kept -/
def ZK (h : Heap) (z TI TO L i1 i2 : Addr) (i : Nat) : Prop := IsTupOf2 h TI (.ref i1) (.ref i2) ∧ (∃ x y, IsTupOf2 h TO x y) ∧ ((IsZip h z TI TO .none ∧ i = 0) ∨ ∃ T b oT, ZipH h z TI TO T b ∧ h.get? T = some oT ∧ T ≠ z ∧ T ≠ TO ∧ T ≠ i1 ∧ T ≠ i2 ∧ T ≠ L)
theorem zk_item {L : Addr} {Q : Option Value → Shared → Prop} (S : ZipSep2 z TI TO i1 i2 fp1 fp2) (D1 : Draws prog w A.in1 i1 fp1 n1 P1 St1) (D2 : Draws prog w A.in1 i2 fp2 n2 P2 St2)
    (hk : ZK s.heap z TI TO L i1 i2 i) (hL : L < s.heap.objs.size) (st1 : St1 i s.heap) (st2 : St2 i s.heap) (hlt1 : i < n1) (hlt2 : i < n2)
    (hQ : ∀ x1 x2 h' tk, P1 i x1 → P2 i x2 → ZK h' z TI TO L i1 i2 (i + 1) → St1 (i + 1) h' → St2 (i + 1) h' → IsTupOf2 h' s.heap.objs.size x1 x2 → h'.objs.size = s.heap.objs.size + 1 →
      (∀ c o, c ≠ z → c ≠ TO → c ≠ i1 → c ≠ i2 → s.heap.get? c = some o → h'.get? c = some o) → Q (some (.ref s.heap.objs.size)) { s with heap := h', toks := tk }) :
    wpAny (model prog w) A (pyNext (.ref z)) Q E s := by
  obtain ⟨hTI, ⟨a1, a2, hTO⟩, hk⟩ := hk
  have fresh : ∀ c o, s.heap.get? c = some o → s.heap.objs.size ≠ c := fun c o e => Nat.ne_of_gt (Heap.lt_size e)
  have n1' : s.heap.objs.size ≠ i1 := by obtain ⟨o, e⟩ := D1.live _ _ st1; exact fresh _ _ e
  have n2' : s.heap.objs.size ≠ i2 := by obtain ⟨o, e⟩ := D2.live _ _ st2; exact fresh _ _ e
  have nL : s.heap.objs.size ≠ L := Nat.ne_of_gt hL
  rcases hk with ⟨hz, rfl⟩ | ⟨T, b, oT, hz, hT, t1, t2, t3, t4, t5⟩
  · refine wpAny_pyNext_zipD2_item S D1 D2 hz hTI hTO st1 st2 hlt1 hlt2 fun x1 x2 h' tk p1 p2 z' TO' s1' s2' hT' hsz kp => ?_
    exact hQ x1 x2 h' tk p1 p2 ⟨kp _ _ S.TIz S.TITO S.TIi1 S.TIi2 hTI, ⟨_, _, TO'⟩, .inr ⟨_, false, _, z', hT', fresh _ _ hz, fresh _ _ hTO, n1', n2', nL⟩⟩ s1' s2' hT' hsz kp
  · have hTy : s.TypeIs (.ref z) "zip" := ⟨_, hz, rfl⟩
    unfold pyNext
    refine wpAny_bind (wpAny_attempt (wpAny_callSpecial?_slot (name := Str.ofString "__next__") hTy F.slot_zip_next
      (wpAny_call_entry F.slot_zip_next hTy F.entry_zip_next (zipH_next_item S D1 D2 hz hT hTI st1 st2 hlt1 hlt2 fun x1 x2 h' tk p1 p2 z' s1' s2' hT' hsz kp => wpAny_pure ?_) (F.args_zip_next_1 _))))
    exact hQ x1 x2 h' tk p1 p2 ⟨kp _ _ S.TIz S.TIi1 S.TIi2 hTI, ⟨_, _, kp _ _ S.TOz S.Ti1 S.Ti2 hTO⟩, .inr ⟨T, true, oT, z', kp _ _ t1 t3 t4 hT, t1, t2, t3, t4, t5⟩⟩ s1' s2' hT' hsz fun c o c1 _ c3 c4 e => kp c o c1 c3 c4 e
theorem zk_end {L : Addr} {Q : Option Value → Shared → Prop} (S : ZipSep2 z TI TO i1 i2 fp1 fp2) (D1 : Draws prog w A.in1 i1 fp1 n1 P1 St1) (D2 : Draws prog w A.in1 i2 fp2 n2 P2 St2)
    (hk : ZK s.heap z TI TO L i1 i2 i) (st1 : St1 i s.heap) (st2 : St2 i s.heap) (hle1 : i ≤ n1) (hle2 : i ≤ n2) (hend : i = n1 ∨ i = n2)
    (hQ : ∀ h' tk, (∀ c o, c ≠ z → c ≠ TO → c ≠ i1 → c ≠ i2 → s.heap.get? c = some o → h'.get? c = some o) → Q none { s with heap := h', toks := tk }) : wpAny (model prog w) A (pyNext (.ref z)) Q E s := by
  obtain ⟨hTI, ⟨a1, a2, hTO⟩, hk⟩ := hk
  rcases hk with ⟨hz, rfl⟩ | ⟨T, b, oT, hz, hT, t1, t2, t3, t4, t5⟩
  · exact wpAny_pyNext_zipD2_end S D1 D2 hz hTI hTO st1 st2 hle1 hle2 hend hQ
  · have hTy : s.TypeIs (.ref z) "zip" := ⟨_, hz, rfl⟩
    unfold pyNext
    refine wpAny_bind (wpAny_attempt (wpAny_callSpecial?_slot (name := Str.ofString "__next__") hTy F.slot_zip_next
      (wpAny_call_entry F.slot_zip_next hTy F.entry_zip_next (zipH_next_end S D1 D2 hz hT hTI st1 st2 hle1 hle2 hend fun h' tk e kp he => ?_) (F.args_zip_next_1 _))))
    obtain ⟨o, ho, hc⟩ := he
    refine wpAny_bind (wpAny_isInstance (T := "StopIteration") (b := true) ⟨o, ho, hc⟩ isSubtype_stop ?_)
    exact wpAny_pure (hQ _ _ fun c o c1 _ c3 c4 e => kp c o c1 c3 c4 e)
theorem ZK.keep {h h' : Heap} {L : Addr} (x : ZK h z TI TO L i1 i2 i) (hk : ∀ b o, b ≠ L → h.get? b = some o → h'.get? b = some o) (l1 : z ≠ L) (l2 : TI ≠ L) (l3 : TO ≠ L) : ZK h' z TI TO L i1 i2 i := by
  obtain ⟨hTI, ⟨a1, a2, hTO⟩, x⟩ := x
  refine ⟨hk _ _ l2 hTI, ⟨a1, a2, hk _ _ l3 hTO⟩, ?_⟩
  rcases x with ⟨hz, e⟩ | ⟨T, b, oT, hz, hT, t1, t2, t3, t4, t5⟩
  · exact .inl ⟨hk _ _ l1 hz, e⟩
  · exact .inr ⟨T, b, oT, hk _ _ l1 hz, hk _ _ t5 hT, t1, t2, t3, t4, t5⟩
end
/-! ### all the pairs in a list -/
structure ZG (P1 P2 : Nat → Value → Prop) (lo : Addr) (h : Heap) (as : List Addr) : Prop where
  up : as.Pairwise (· < ·)
  lo' : ∀ a ∈ as, lo < a
  at_ : ∀ (j : Nat) (a : Addr), as[j]? = some a → ∃ x1 x2, P1 j x1 ∧ P2 j x2 ∧ IsTupOf2 h a x1 x2
theorem ZG.in_ {P1 P2 : Nat → Value → Prop} {lo : Addr} {h : Heap} {as : List Addr} (g : ZG P1 P2 lo h as) {a : Addr} (ha : a ∈ as) : a < h.objs.size := by
  obtain ⟨j, hj⟩ := List.mem_iff_getElem?.mp ha
  obtain ⟨_, _, _, _, e⟩ := g.at_ j a hj
  exact Heap.lt_size e
section
variable {prog : Program} {w : World} {A : Around} {s : Shared} {R : Result → Shared → Prop} {z TI TO i1 i2 : Addr} {fp1 fp2 : List Addr} {n1 n2 n : Nat} {P1 P2 : Nat → Value → Prop} {St1 St2 : Nat → Heap → Prop}
theorem zk_loop {S : Addr} (SP : ZipSep2 z TI TO i1 i2 fp1 fp2) (D1 : Draws prog w A.in1.in1 i1 fp1 n1 P1 St1) (D2 : Draws prog w A.in1.in1 i2 fp2 n2 P2 St2) (lz : z < S) (lI : TI < S) (lO : TO < S) (l1 : ∀ b ∈ fp1, b < S) (l2 : ∀ b ∈ fp2, b < S)
    (hn1 : n ≤ n1) (hn2 : n ≤ n2) (hne : n = n1 ∨ n = n2) (hn : n ≤ sizeLine) (res : Value) {h₁ : Heap}
    (hR : ∀ h' tk acc c as, (∀ b o, b ≠ S → b ≠ z → b ≠ TO → b ≠ i1 → b ≠ i2 → h₁.get? b = some o → h'.get? b = some o) → h'.get? S = some { cls := .type "list", dict := none, data := .seq acc c, slots := #[] } → as.length = n → ZG P1 P2 S h' as →
      acc.toList = as.map Value.ref → R (.ok (.ret res)) { s with heap := h', toks := tk }) :
    ∀ (k i : Nat) (h : Heap) (tk c : Nat) (acc : Array Value) (as : List Addr), n - i = k → i ≤ n → ZK h z TI TO S i1 i2 i → St1 i h → St2 i h → (∀ b o, b ≠ S → b ≠ z → b ≠ TO → b ≠ i1 → b ≠ i2 → h₁.get? b = some o → h.get? b = some o) →
      h.get? S = some { cls := .type "list", dict := none, data := .seq acc c, slots := #[] } → acc.toList = as.map Value.ref → as.length = i → ZG P1 P2 S h as →
      codeAny (model prog w) A (.builtin "list.extend.loop" ⟨[.ref S, .ref z, res], []⟩) R { s with heap := h, toks := tk } := by
  have e1 : i1 < S := l1 i1 SP.mem1
  have e2 : i2 < S := l2 i2 SP.mem2
  intro k
  induction k with
  | zero =>
    intro i h tk c acc as hk hi hst s1 s2 hkeep hS hacc hal hG
    have hin : i = n := by omega
    refine codeAny_builtin PySem.F.entry_extend_loop ?_
    rw [Around.under_plainId PySem.F.plain_extend_loop _]
    show wpAny _ A.in1 (pyNext (.ref z) >>= _) _ _ _
    refine wpAny_bind (zk_end (s := { s with heap := h, toks := tk }) SP D1 D2 hst s1 s2 (by omega) (by omega) (by omega) fun h' tk' he => ?_)
    refine wpAny_pure (hR h' tk' acc c as (fun b o q1 q2 q3 q4 q5 e => he b o q2 q3 q4 q5 (hkeep b o q1 q2 q3 q4 q5 e)) (he S _ (Nat.ne_of_gt lz) (Nat.ne_of_gt lO) (Nat.ne_of_gt e1) (Nat.ne_of_gt e2) hS) (by omega) ⟨hG.up, hG.lo', fun j a hj => ?_⟩ hacc)
    obtain ⟨x1, x2, p1, p2, e3⟩ := hG.at_ j a hj
    have hb := hG.lo' a (List.mem_of_getElem? hj)
    exact ⟨x1, x2, p1, p2, he a _ (Nat.ne_of_gt (Nat.lt_trans lz hb)) (Nat.ne_of_gt (Nat.lt_trans lO hb)) (Nat.ne_of_gt (Nat.lt_trans e1 hb)) (Nat.ne_of_gt (Nat.lt_trans e2 hb)) e3⟩
  | succ k ih =>
    intro i h tk c acc as hk hi hst s1 s2 hkeep hS hacc hal hG
    have hlt : i < n := by omega
    have hsz : acc.size = i := by rw [← Array.length_toList, hacc, List.length_map, hal]
    have hSl : S < h.objs.size := Heap.lt_size hS
    refine codeAny_builtin PySem.F.entry_extend_loop ?_
    rw [Around.under_plainId PySem.F.plain_extend_loop _]
    show wpAny _ A.in1 (pyNext (.ref z) >>= _) _ _ _
    refine wpAny_bind (zk_item (s := { s with heap := h, toks := tk }) SP D1 D2 hst hSl s1 s2 (by omega) (by omega) fun x1 x2 h' tk' p1 p2 hst' s1' s2' ht hz hkp => ?_)
    dsimp only at ht hz hkp ⊢
    have hS' := hkp S _ (Nat.ne_of_gt lz) (Nat.ne_of_gt lO) (Nat.ne_of_gt e1) (Nat.ne_of_gt e2) hS
    have up : ∀ b o, b ≠ S → h'.get? b = some o → (h'.update S (Obj.mapSeq (·.push (Value.ref h.objs.size)))).get? b = some o := fun b o hb e => (Heap.get?_update_other _ _ (Ne.symm hb)).trans e
    show wpAny _ A.in1 (updateSeq S (·.push (Value.ref h.objs.size)) >>= _) _ _ _
    refine wpAny_bind ?_
    refine wpAny_updateSeq hS' rfl (wpAny_pure ⟨plainId_quiet PySem.F.plain_extend_loop _, ih (i + 1) _ tk' _ (acc.push (Value.ref h.objs.size)) (as ++ [h.objs.size]) (by omega) hlt (hst'.keep up (Nat.ne_of_lt lz) (Nat.ne_of_lt lI) (Nat.ne_of_lt lO))
      (D1.frame _ _ _ s1' fun b hb o e => up b o (Nat.ne_of_lt (l1 b hb)) e) (D2.frame _ _ _ s2' fun b hb o e => up b o (Nat.ne_of_lt (l2 b hb)) e)
      (fun b o q1 q2 q3 q4 q5 e => up b o q1 (hkp b o q2 q3 q4 q5 (hkeep b o q1 q2 q3 q4 q5 e))) (Heap.get?_update_self _ hS' rfl) (by rw [Array.toList_push, hacc, List.map_append]; rfl) (by rw [List.length_append, hal]; rfl) ⟨?_, ?_, ?_⟩⟩) (by rw [hsz]; omega) (by show (acc.push (Value.ref h.objs.size)).size ≤ sizeLine + 1; rw [Array.size_push, hsz]; omega)
    · refine List.pairwise_append.mpr ⟨hG.up, List.pairwise_singleton _ _, fun a ha b hb => ?_⟩
      rw [List.mem_singleton.mp hb]
      exact hG.in_ ha
    · intro a ha
      rcases List.mem_append.mp ha with ha | ha
      · exact hG.lo' a ha
      · rw [List.mem_singleton.mp ha]; exact hSl
    · intro j b hj
      rcases Nat.lt_trichotomy j as.length with q1 | q1 | q1
      · rw [List.getElem?_append_left q1] at hj
        obtain ⟨y1, y2, r1, r2, r3⟩ := hG.at_ j b hj
        have hb := hG.lo' b (List.mem_of_getElem? hj)
        exact ⟨y1, y2, r1, r2, up b _ (Nat.ne_of_gt hb) (hkp b _ (Nat.ne_of_gt (Nat.lt_trans lz hb)) (Nat.ne_of_gt (Nat.lt_trans lO hb)) (Nat.ne_of_gt (Nat.lt_trans e1 hb)) (Nat.ne_of_gt (Nat.lt_trans e2 hb)) r3)⟩
      · subst q1
        have hb : h.objs.size = b := by simpa using hj
        subst hb
        exact ⟨x1, x2, by rw [hal]; exact p1, by rw [hal]; exact p2, up _ _ (Nat.ne_of_gt hSl) ht⟩
      · have hnone : (as ++ [h.objs.size])[j]? = none := List.getElem?_eq_none (by rw [List.length_append, List.length_singleton]; omega)
        rw [hnone] at hj; cases hj
end
theorem zip_nolen : typeLookup (.type "zip") "__len__" = pure none := by
  rw [typeLookup_type, builtinLookup_eq_fast]; kernel_rfl
theorem zip_nohint : typeLookup (.type "zip") "__length_hint__" = pure none := by
  rw [typeLookup_type, builtinLookup_eq_fast]; kernel_rfl
section
variable {prog : Program} {w : World} {A : Around} {E : Value → Shared → Prop} {s : Shared} {z TI TO i1 i2 : Addr} {fp1 fp2 : List Addr} {n1 n2 n : Nat} {P1 P2 : Nat → Value → Prop} {St1 St2 : Nat → Heap → Prop}
/-- what stands when the walk begins -/
structure Z0 (prog : Program) (w : World) (A : Around) (h : Heap) (z TI TO i1 i2 : Addr) (fp1 fp2 : List Addr) (n1 n2 n : Nat) (P1 P2 : Nat → Value → Prop) (St1 St2 : Nat → Heap → Prop) : Prop where
  sp : ZipSep2 z TI TO i1 i2 fp1 fp2
  d1 : Draws prog w A i1 fp1 n1 P1 St1
  d2 : Draws prog w A i2 fp2 n2 P2 St2
  z : IsZip h z TI TO .none
  ti : IsTupOf2 h TI (.ref i1) (.ref i2)
  to : ∃ x y, IsTupOf2 h TO x y
  s1 : St1 0 h
  s2 : St2 0 h
  f1 : ∀ b ∈ fp1, b < h.objs.size
  f2 : ∀ b ∈ fp2, b < h.objs.size
  h1 : n ≤ n1
  h2 : n ≤ n2
  he : n = n1 ∨ n = n2
  hn : n ≤ sizeLine
theorem zip_collect {Q : List Value → Shared → Prop} (Z : Z0 prog w A.in1.in1 s.heap z TI TO i1 i2 fp1 fp2 n1 n2 n P1 P2 St1 St2)
    (hQ : ∀ h' tk acc as, (∀ b o, b ≠ z → b ≠ TO → b ≠ i1 → b ≠ i2 → s.heap.get? b = some o → h'.get? b = some o) → as.length = n → ZG P1 P2 s.heap.objs.size h' as → acc = as.map Value.ref → Q acc { s with heap := h', toks := tk }) :
    wpAny (model prog w) A (collect (.ref z)) Q E s := by
  have lz : z < s.heap.objs.size := Heap.lt_size Z.z
  have lI : TI < s.heap.objs.size := Heap.lt_size Z.ti
  have lO : TO < s.heap.objs.size := by obtain ⟨_, _, e⟩ := Z.to; exact Heap.lt_size e
  have hSI : s.heap.objs.size ≠ z := Nat.ne_of_gt lz
  have hTy : s.TypeIs (.ref z) "zip" := ⟨_, Z.z, rfl⟩
  unfold collect
  refine wpAny_bind (wpAny_runValue (codeAny_builtin F.entry_proto_collect ?_))
  rw [Around.under_plainId F.plain_proto_collect _]
  show wpAny _ A.in1 (newList [] >>= fun l => again (.builtin "list.__iadd__" ⟨[l, .ref z], []⟩)) _ _ s
  refine wpAny_bind (wpAny_newObj_type ?_)
  refine wpAny_pure ⟨plainId_quiet F.plain_list_iadd _, codeAny_builtin F.entry_list_iadd ?_⟩
  rw [Around.under_plainId F.plain_list_iadd _]
  have z1 : IsZip (s.heap.push { cls := .type "list", data := .seq ([] : List Value).toArray }) z TI TO .none := Heap.get?_push_of_some _ Z.z
  have hTy1 : Shared.TypeIs { s with heap := s.heap.push { cls := .type "list", data := .seq ([] : List Value).toArray } } (.ref z) "zip" := ⟨_, z1, rfl⟩
  show wpAny _ A.in1 (Builtin.List.listExtendWith (.ref s.heap.objs.size) (.ref z) (.ref s.heap.objs.size)) _ _ _
  unfold Builtin.List.listExtendWith
  refine wpAny_bind (wpAny_typeOf hTy1 ?_)
  have q1 : Builtin.List.listSameRef (.ref s.heap.objs.size) (.ref z) = false := by simp [Builtin.List.listSameRef, hSI]
  have q2 : (Value.type "zip" == Value.type "list") = false := by decide
  have q3 : (Value.type "zip" == Value.type "tuple") = false := by decide
  simp only [q1, q2, q3, Bool.or_false, Bool.false_eq_true, if_false]
  refine wpAny_bind (wpAny_pyIter_zip z1 ?_)
  refine wpAny_bind (wpAny_holding ?_)
  unfold Builtin.List.listLengthHint
  refine wpAny_bind (wpAny_specialOf hTy1 zip_nolen ?_)
  show wpAny _ A.in1 (specialOf (Value.ref z) (Str.ofString "__length_hint__") >>= _) _ _ _
  refine wpAny_bind (wpAny_specialOf hTy1 zip_nohint ?_)
  refine wpAny_pure ?_
  show wpAny _ A.in1 (rule "list.extend.makes-room" >>= fun _ => Builtin.List.listTouch (.ref s.heap.objs.size) >>= fun _ =>
    again (.builtin "list.extend.loop" ⟨[.ref s.heap.objs.size, .ref z, .ref s.heap.objs.size], []⟩)) _ _ _
  refine wpAny_bind (wpAny_rule ?_)
  have hS₁ : (s.heap.push { cls := .type "list", data := .seq ([] : List Value).toArray }).get? s.heap.objs.size = some { cls := .type "list", data := .seq ([] : List Value).toArray } := Heap.get?_push_size _ rfl
  refine wpAny_bind ?_
  show wpAny _ A.in1 (updateSeq s.heap.objs.size (·.push .none) >>= fun _ => updateSeq s.heap.objs.size (·.pop)) _ _ _
  refine wpAny_bind (wpAny_updateSeq hS₁ rfl ?_)
  have hS₂ := Heap.get?_update_self (Obj.mapSeq (·.push Value.none)) hS₁ rfl
  refine wpAny_updateSeq hS₂ rfl ?_
  have hS₃ := Heap.get?_update_self (Obj.mapSeq (·.pop)) hS₂ rfl
  have oth : ∀ b o, b ≠ s.heap.objs.size → s.heap.get? b = some o →
      (((s.heap.push { cls := .type "list", data := .seq ([] : List Value).toArray }).update s.heap.objs.size (Obj.mapSeq (·.push Value.none))).update s.heap.objs.size (Obj.mapSeq (·.pop))).get? b = some o :=
    fun b o hb e => (Heap.get?_update_other _ _ (Ne.symm hb)).trans ((Heap.get?_update_other _ _ (Ne.symm hb)).trans (Heap.get?_push_of_some _ e))
  refine wpAny_pure ⟨plainId_quiet F.plain_extend_loop _, zk_loop (s := s) (h₁ := s.heap) Z.sp Z.d1 Z.d2 lz lI lO Z.f1 Z.f2 Z.h1 Z.h2 Z.he Z.hn _ (fun h' tk acc c as hk hS' hl hG hacc => ?_) n 0 _ s.toks _ #[] [] (Nat.sub_zero n) (Nat.zero_le n) ?_ ?_ ?_ (fun b o h1 _ _ _ _ e => oth b o h1 e) hS₃ rfl rfl ⟨List.Pairwise.nil, (fun _ ha => nomatch ha), (fun j a hj => by simp at hj)⟩⟩
  · show wpAny _ A (load s.heap.objs.size >>= _) _ _ _
    refine wpAny_bind (wpAny_load hS' ?_)
    refine wpAny_pure (hQ h' tk acc.toList as (fun b o c1 c2 c3 c4 e => hk b o (Nat.ne_of_lt (Heap.lt_size e)) c1 c2 c3 c4 e) hl hG hacc)
  · exact ⟨oth _ _ (Nat.ne_of_lt lI) Z.ti, (by obtain ⟨x, y, e⟩ := Z.to; exact ⟨x, y, oth _ _ (Nat.ne_of_lt lO) e⟩), .inl ⟨oth _ _ (Nat.ne_of_lt lz) Z.z, rfl⟩⟩
  · exact Z.d1.frame _ _ _ Z.s1 fun b hb o e => oth b o (Nat.ne_of_lt (Z.f1 b hb)) e
  · exact Z.d2.frame _ _ _ Z.s2 fun b hb o e => oth b o (Nat.ne_of_lt (Z.f2 b hb)) e
theorem zip_code_tuple {Q₁ : Value → Shared → Prop} (Z : Z0 prog w A.in1.in1.in1 s.heap z TI TO i1 i2 fp1 fp2 n1 n2 n P1 P2 St1 St2)
    (h : ∀ h' tk as, (∀ b o, b ≠ z → b ≠ TO → b ≠ i1 → b ≠ i2 → s.heap.get? b = some o → h'.get? b = some o) → as.length = n → ZG P1 P2 s.heap.objs.size h' as →
      Q₁ (.ref h'.objs.size) { s with heap := h'.push { cls := .type "tuple", data := .seq (as.map Value.ref).toArray }, toks := tk }) :
    codeAny (model prog w) A (.call (.builtin "tuple.__new__") ⟨[.type "tuple", .ref z], []⟩) (wants Q₁ E) s := by
  refine codeAny_of_tree ?_
  show wpAny _ A.in1 (do checkBuiltinCall "tuple.__new__" ⟨[.type "tuple", .ref z], []⟩; again (.builtin "tuple.__new__" ⟨[.type "tuple", .ref z], []⟩)) _ _ s
  refine wpAny_bind (wpAny_of_eq (F.newCall_tuple_1 _) (wpAny_pure ⟨plainId_quiet F.plain_tuple_new _, codeAny_builtin F.entry_tuple_new ?_⟩))
  rw [Around.under_plainId F.plain_tuple_new _]
  have hsub := sub_tuple_self
  have hinit := init_tuple_lookup
  have hmh := madeHere_tuple
  have hTI : s.TypeIs (.ref z) "zip" := ⟨_, Z.z, rfl⟩
  wp_walk using wpAny_typeOf hTI, zip_collect (A := A.in1) Z
  intro h' tk acc as hk hl hG hacc
  subst hacc
  show wpAny _ _ (Builtin.Tuple.tupleExact (as.map Value.ref).toArray >>= fun v => ret v) _ _ _
  unfold Builtin.Tuple.tupleExact
  refine wpAny_bind (wpAny_newObj_type ?_ (by show (as.map Value.ref).toArray.size ≤ sizeLine; rw [List.size_toArray, List.length_map, hl]; exact Z.hn))
  refine wpAny_pure ?_
  exact h h' tk as hk hl hG
theorem call_tuple_zip {Q : Value → Shared → Prop} (Z : Z0 prog w A.in1.in1.in1.in1 s.heap z TI TO i1 i2 fp1 fp2 n1 n2 n P1 P2 St1 St2)
    (hQ : ∀ h' tk as, (∀ b o, b ≠ z → b ≠ TO → b ≠ i1 → b ≠ i2 → s.heap.get? b = some o → h'.get? b = some o) → as.length = n → ZG P1 P2 s.heap.objs.size h' as →
      Q (.ref h'.objs.size) { s with heap := h'.push { cls := .type "tuple", data := .seq (as.map Value.ref).toArray }, toks := tk }) :
    wpAny (model prog w) A (call (.type "tuple") [.ref z]) Q E s := by
  refine callType_codes (Q₁ := fun obj s₁ => s₁.TypeIs obj "tuple" ∧ Q obj s₁) F.called_tuple (F.typeCall_tuple_1 _) F.entry_object_init
    (zip_code_tuple (A := A.in1) Z fun h' tk as hk hl hG => ⟨⟨_, Heap.get?_push_size _ rfl, rfl⟩, hQ h' tk as hk hl hG⟩) fun obj s₁ h₁ => ?_
  exact ⟨h₁.1, F.args_object_init_2 obj _, object_init_meets F.called_tuple.init.lookup F.called_tuple.made (by decide) prog w A.in1 _ s₁ ⟨h₁.1, rfl, h₁.2⟩⟩
end
end MP

/-! MP zi: tuple(zip(a, b)) of lists, as a rule. -/
namespace MP
open PySem PySem.Spec PyProof.Rows L2
/-- pairs tracked at their addresses -/
def putP : Hp → List Addr → List (V × V) → Hp
  | H, a :: as, p :: ps => putP (upd H a (.tup [p.1, p.2])) as ps
  | H, _, _ => H
theorem putP_off {b : Addr} : ∀ (as : List Addr) (ps : List (V × V)) (H : Hp), b ∉ as → putP H as ps b = H b
  | [], _, _, _ => rfl
  | _ :: _, [], _, _ => rfl
  | a :: as, p :: ps, H, h => by
    show putP (upd H a (.tup [p.1, p.2])) as ps b = H b
    rw [putP_off as ps _ fun z => h (List.mem_cons_of_mem _ z)]
    exact upd_ne fun z => h (by rw [z]; exact List.mem_cons_self)
theorem putP_at : ∀ (as : List Addr) (ps : List (V × V)) (H : Hp), as.length = ps.length → as.Nodup → ∀ (j : Nat) (a : Addr), as[j]? = some a → ∃ p, ps[j]? = some p ∧ putP H as ps a = some (.tup [p.1, p.2])
  | [], _, _, _, _, j, a, h => by simp at h
  | _ :: _, [], _, h, _, _, _, _ => by simp at h
  | b :: as, p :: ps, H, hl, hn, j, a, h => by
    have hn' := List.nodup_cons.mp hn
    cases j with
    | zero =>
      have e : b = a := by simpa using h
      subst e
      refine ⟨p, rfl, ?_⟩
      show putP (upd H b (.tup [p.1, p.2])) as ps b = _
      rw [putP_off as ps _ hn'.1, upd_same]
    | succ j => exact putP_at as ps (upd H b (.tup [p.1, p.2])) (by simpa using hl) hn'.2 j a (by simpa using h)
theorem vals_refs : ∀ as : List Addr, Vals (as.map V.ref) (as.map Value.ref)
  | [] => .nil
  | _ :: as => .cons rfl (vals_refs as)
section
variable {X : Cx} {pins : List (Addr × Obj)} {σ : L2.St} {H : Hp} {s : Shared}
/-- the pairs and the tuple of them laid -/
theorem zip_laid {h2 : Heap} {tk : Nat} {xs ys : List V} {its its2 : List Value} {as : List Addr} (I : Inv X pins σ H s) (rv : Vals xs its) (rv2 : Vals ys its2) (hz : xs.length ≤ sizeLine)
    (hk : ∀ b o, s.heap.get? b = some o → h2.get? b = some o) (le2 : s.heap.objs.size ≤ h2.objs.size) {lo : Addr} (hlo : s.heap.objs.size ≤ lo) (hl : as.length = min its.length its2.length)
    (hG : ZG (fun i v => its.toArray[i]? = some v) (fun i v => its2.toArray[i]? = some v) lo h2 as) :
    H h2.objs.size = none ∧ (∀ t ∈ as, H t = none) ∧ as.Nodup ∧ h2.objs.size ∉ as ∧ Inv X pins σ (upd (putP H as (xs.zip ys)) h2.objs.size (.tup (as.map V.ref))) { s with heap := h2.push { cls := .type "tuple", data := .seq (as.map Value.ref).toArray }, toks := tk } := by
  have l1 := rv.length
  have l2 := rv2.length
  have lz : as.length = (xs.zip ys).length := by rw [List.length_zip, hl, l1, l2]
  have nd : as.Nodup := List.Pairwise.imp (fun {a b} (h : a < b) => Nat.ne_of_lt h) hG.up
  have above : ∀ t ∈ as, s.heap.objs.size < t := fun t ht => Nat.lt_of_le_of_lt hlo (hG.lo' t ht)
  have new : ∀ t ∈ as, H t = none := fun t ht => I.hok.fresh (Nat.le_of_lt (above t ht))
  have newT : H h2.objs.size = none := I.hok.fresh le2
  have hTn : h2.objs.size ∉ as := fun z => Nat.lt_irrefl _ (hG.in_ z)
  refine ⟨newT, new, nd, hTn, ?_⟩
  have off : ∀ b, b ∉ as → b ≠ h2.objs.size → (upd (putP H as (xs.zip ys)) h2.objs.size (.tup (as.map V.ref))) b = H b := fun b q1 q2 => by
    rw [upd_ne q2, putP_off as _ _ q1]
  have low : ∀ b o, s.heap.get? b = some o → b ∉ as ∧ b ≠ h2.objs.size := fun b o e => ⟨fun z => Nat.lt_irrefl _ (Nat.lt_trans (Heap.lt_size e) (above b z)), Nat.ne_of_lt (Nat.lt_of_lt_of_le (Heap.lt_size e) le2)⟩
  have kp : ∀ b u, H b = some u → (upd (putP H as (xs.zip ys)) h2.objs.size (.tup (as.map V.ref))) b = some u := fun b u e => by
    rw [off b (fun z => by rw [new b z] at e; cases e) (fun z => by rw [z, newT] at e; cases e)]
    exact e
  have hk3 : ∀ b o, s.heap.get? b = some o → (h2.push { cls := .type "tuple", data := .seq (as.map Value.ref).toArray }).get? b = some o := fun b o e => Heap.get?_push_of_some _ (hk b o e)
  refine I.call' (ch := []) rfl ⟨fun b o q _ _ _ => hk3 b o q, fun b o q _ _ _ => ⟨o.slots, hk3 b o q⟩, fun b o q n _ => ?_, fun b o q _ => ⟨o, hk3 b o q⟩, fun b zs q => kp b _ q, fun b o u q => kp b _ q, fun b ps q => ⟨#[], by rw [kp b _ q]; simp⟩⟩ (fun b u q => ?_) I.bare fun b z => by simp at z
  · obtain ⟨z1, z2⟩ := low b o q
    rw [off b z1 z2]
    exact n
  · by_cases hb2 : b = h2.objs.size
    · subst hb2
      rw [upd_same] at q
      cases q
      exact ⟨by rw [List.length_map, hl]; exact Nat.le_trans (Nat.min_le_left _ _) (by omega), as.map Value.ref, vals_refs as, ⟨_, Heap.get?_push_size _ rfl, rfl, _, rfl⟩⟩
    · by_cases hb : b ∈ as
      · rw [upd_ne hb2] at q
        obtain ⟨j, hj⟩ := List.mem_iff_getElem?.mp hb
        obtain ⟨p, e1, e2⟩ := putP_at as (xs.zip ys) H lz nd j b hj
        rw [e2] at q
        cases q
        obtain ⟨x1, x2, f1, f2, f3⟩ := hG.at_ j b hj
        rw [List.getElem?_zip_eq_some] at e1
        obtain ⟨u1, g1, r1⟩ := rv.get e1.1
        obtain ⟨u2, g2, r2⟩ := rv2.get e1.2
        have f1' : its.toArray[j]? = some x1 := f1
        have f2' : its2.toArray[j]? = some x2 := f2
        rw [List.getElem?_toArray, g1] at f1'
        rw [List.getElem?_toArray, g2] at f2'
        cases f1'
        cases f2'
        exact ⟨by show 2 ≤ sizeLine; decide, [x1, x2], .cons r1 (.cons r2 .nil), ⟨_, Heap.get?_push_of_some _ f3, rfl, _, rfl⟩⟩
      · rw [off b hb hb2] at q
        exact (I.hok b u q).stay (fun d v _ y => hk3 d v y) (fun d y => kp d _ y) fun d zs y => kp d _ y
end
/-- tuple(zip(e, e2)) of lists -/
def tTupZip (K : PySem.W.Frag) (ta : TA) : TE := fun σ H Q => ta σ H fun vs H1 => ∃ a b xs ys, vs = [.ref a, .ref b] ∧ SqL K H1 a xs ∧ SqL K H1 b ys ∧
  ∀ (t : Addr) (as : List Addr), H1 t = none → (∀ c ∈ as, H1 c = none) → as.Nodup → t ∉ as → as.length = (xs.zip ys).length → Q (.ref t) (upd (putP H1 as (xs.zip ys)) t (.tup (as.map V.ref)))
theorem pe_tupZip {X : Cx} {e e2 : Expr} {ta : TA} {p p2 q pos : Pos} (hg : Gl X "tuple") (hm : X.mg "tuple" = none) (hg2 : Gl X "zip") (hm2 : X.mg "zip" = none) (hc : X.calm = true) (ha : PA X [e, e2] ta)
    (hs : starEach [e, e2] X.env = (false, eval e X.env) :: starEach [e2] X.env := by rfl) (hpl : (backTo q (starEach [e2] X.env)).any (·.1) = false := by rfl)
    (hs2 : starEach [.Call (.Name "zip" p2) [e, e2] [] q] X.env = (false, eval (.Call (.Name "zip" p2) [e, e2] [] q) X.env) :: starEach [] X.env := by rfl) :
    PE X (.Call (.Name "tuple" p) [.Call (.Name "zip" p2) [e, e2] [] q] [] pos) (tTupZip X.K ta) := by
  refine ⟨fun pins s σ H Q I h => ?_⟩
  refine Call_ (ld_blt I hg hm PyProof.Rows.boot_tuple ?_)
  refine PyProof.Rows.callWith_type1 (PyProof.Rows.args_cons ?_ hs2) hs2 rfl
  refine Call_ (ld_blt I hg2 hm2 PyProof.Rows.boot_zip (PyProof.Rows.callWith_type1 (thn (ha.run q pins s σ H _ I h) fun us s1 ⟨vs, H1, I1, r1, q1⟩ => ?_) hs hpl))
  obtain ⟨a, b, xs, ys, ex, hqx, hqy, q1⟩ := q1
  subst ex
  cases r1 with
  | cons r rr =>
    cases rr with
    | cons r' rr =>
      cases rr
      cases r
      cases r'
      obtain ⟨its, rv, p1, hz1⟩ := I1.list hqx
      obtain ⟨its2, rv2, p2', hz2⟩ := I1.list hqy
      refine call_zip_2 p1.isList p2'.isList fun h' hz hTI hTO h1 h2 hsz hk => ?_
      refine PyProof.Rows.args_nil ?_
      have la := p1.lt
      have lb := p2'.lt
      have S : ZipSep2 (s1.heap.objs.size + 4) (s1.heap.objs.size + 2) (s1.heap.objs.size + 3) s1.heap.objs.size (s1.heap.objs.size + 1) [s1.heap.objs.size, a] [s1.heap.objs.size + 1, b] := zip_sep2 (fp1 := [a]) (fp2 := [b]) (fun c hc => by rw [List.mem_singleton.mp hc]; exact la) (fun c hc => by rw [List.mem_singleton.mp hc]; exact lb)
      have L1 := rv.length
      have L2 := rv2.length
      have hd := I1.ok.hd hc
      have Z : Z0 X.prog X.w X.A.in1.in1.in1.in1 h' (s1.heap.objs.size + 4) (s1.heap.objs.size + 2) (s1.heap.objs.size + 3) s1.heap.objs.size (s1.heap.objs.size + 1) [s1.heap.objs.size, a] [s1.heap.objs.size + 1, b] its.toArray.size its2.toArray.size (min its.length its2.length) (fun i v => its.toArray[i]? = some v) (fun i v => its2.toArray[i]? = some v) (fun i h => h.IsListIter s1.heap.objs.size a i ∧ h.IsList a its.toArray) (fun i h => h.IsListIter (s1.heap.objs.size + 1) b i ∧ h.IsList b its2.toArray) :=
        { sp := S, d1 := Draws.list (prog := X.prog) (w := X.w) (A := X.A.in1.in1.in1.in1) hd _ a (Nat.ne_of_lt la) its.toArray, d2 := Draws.list (prog := X.prog) (w := X.w) (A := X.A.in1.in1.in1.in1) hd (s1.heap.objs.size + 1) b (Nat.ne_of_lt (Nat.lt_succ_of_lt lb)) its2.toArray, z := hz, ti := hTI, to := ⟨_, _, hTO⟩,
          s1 := ⟨h1, p1.isList.at fun o e => hk a o e⟩, s2 := ⟨h2, p2'.isList.at fun o e => hk b o e⟩,
          f1 := fun c hc => by
            rw [hsz]
            rcases List.mem_cons.mp hc with z | z
            · rw [z]; exact Nat.lt_add_of_pos_right (by decide)
            · rw [List.mem_singleton.mp z]; exact Nat.lt_of_lt_of_le la (Nat.le_add_right _ _),
          f2 := fun c hc => by
            rw [hsz]
            rcases List.mem_cons.mp hc with z | z
            · rw [z]; exact Nat.add_lt_add_left (by decide) _
            · rw [List.mem_singleton.mp z]; exact Nat.lt_of_lt_of_le lb (Nat.le_add_right _ _),
          h1 := by rw [List.size_toArray]; exact Nat.min_le_left _ _, h2 := by rw [List.size_toArray]; exact Nat.min_le_right _ _,
          he := by rw [List.size_toArray, List.size_toArray]; omega, hn := Nat.le_trans (Nat.min_le_left _ _) (by omega) }
      refine call_tuple_zip (s := { s1 with heap := h' }) Z fun h2 tk as hk2 hl hG => ?_
      have keep : ∀ c o, s1.heap.get? c = some o → h2.get? c = some o := fun c o e => by
        have lc : c < s1.heap.objs.size := Heap.lt_size e
        exact hk2 c o (Nat.ne_of_lt (Nat.lt_of_lt_of_le lc (Nat.le_add_right _ _))) (Nat.ne_of_lt (Nat.lt_of_lt_of_le lc (Nat.le_add_right _ _))) (Nat.ne_of_lt lc) (Nat.ne_of_lt (Nat.lt_succ_of_lt lc)) (hk c o e)
      have le2 : s1.heap.objs.size ≤ h2.objs.size := by
        have := Heap.lt_size (hk2 (s1.heap.objs.size + 2) _ S.TIz S.TITO S.TIi1 S.TIi2 hTI)
        exact Nat.le_of_lt (Nat.lt_of_le_of_lt (Nat.le_add_right _ _) this)
      obtain ⟨newT, new, nd, hTn, J⟩ := zip_laid (tk := tk) I1 rv rv2 hz1 keep le2 (lo := h'.objs.size) (by rw [hsz]; exact Nat.le_add_right _ _) hl hG
      exact ⟨.ref h2.objs.size, _, J, rfl, q1 _ as newT new nd hTn (by rw [hl, List.length_zip, L1, L2])⟩
/-! ### the rule -/
theorem putP_ok {as0 : List Addr} {K : PySem.W.Frag} {D : DS} : ∀ (as : List Addr) (us vs : List V) (xs ys : List PV) (G H : Hp), Wd as0 K G H D → (∀ a ∈ as, H a = none) → as.Nodup → as.length = (us.zip vs).length → TrS as0 K G us xs → TrS as0 K G vs ys →
    ∃ G2, Stp as0 G H G2 (putP H as (us.zip vs)) ∧ Wd as0 K G2 (putP H as (us.zip vs)) D ∧ TrS as0 K G2 (as.map V.ref) (zipL xs ys)
  | [], us, vs, xs, ys, G, H, w, _, _, hl, t1, t2 => by
    refine ⟨G, ?_, ?_, ?_⟩
    · exact Stp.refl _ _ _
    · exact w
    · have e1 := t1.len
      have e2 := t2.len
      rw [List.length_zip] at hl
      have : zipL xs ys = [] := by
        unfold zipL
        rw [List.zipWith_eq_nil_iff]
        cases xs with
        | nil => exact .inl rfl
        | cons x xs =>
          cases ys with
          | nil => exact .inr rfl
          | cons y ys => simp at hl e1 e2; omega
      rw [this]
      exact .nil
  | a :: as, [], _, _, _, _, _, _, _, _, hl, _, _ => by simp at hl
  | a :: as, _ :: _, [], _, _, _, _, _, _, _, hl, _, _ => by simp at hl
  | a :: as, u :: us, v :: vs, _, _, G, H, w, hn, nd, hl, .cons t1 t1', .cons t2 t2' => by
    have nd' := List.nodup_cons.mp nd
    have ha := hn a List.mem_cons_self
    have st := Stp.new (as := as0) (o := .tup [u, v]) ha (w.free ha)
    obtain ⟨G2, st2, w2, t3⟩ := putP_ok as us vs _ _ (upd G a (.tup [u, v])) (upd H a (.tup [u, v])) (w.new ha) (fun b hb => by rw [upd_ne fun z => nd'.1 (by rw [← z]; exact hb)]; exact hn b (List.mem_cons_of_mem _ hb)) nd'.2 (by simpa using hl) (t1'.up st.le) (t2'.up st.le)
    refine ⟨G2, st.trans st2, w2, .cons ?_ t3⟩
    exact (Tr.tup upd_same (.cons (t1.up st.le) (.cons (t2.up st.le) .nil))).up st2.le
section
variable {T : Tb} {Φ : Fns} {N : List Str} {sc : Scope} {X : Cx} {a b : Expr} {pos p p2 q : Pos} {ca cb : CE}
theorem g_tzip (g : Gd T Φ N sc X) (j j2 : Nat) (ha : PV_ Φ X a ca) (hb : PV_ Φ X b cb) (h : gloB T sc j "tuple" = true := by decide +kernel) (h' : gloB T sc j2 "zip" = true := by decide +kernel)
    (hs : starEach [a, b] X.env = (false, eval a X.env) :: starEach [b] X.env := by rfl) (hs1 : starEach [b] X.env = (false, eval b X.env) :: starEach [] X.env := by rfl) (hpl : (backTo q (starEach [b] X.env)).any (·.1) = false := by rfl)
    (hs2 : starEach [.Call (.Name "zip" p2) [a, b] [] q] X.env = (false, eval (.Call (.Name "zip" p2) [a, b] [] q) X.env) :: starEach [] X.env := by rfl) :
    PV_ Φ X (.Call (.Name "tuple" p) [.Call (.Name "zip" p2) [a, b] [] q] [] pos) (.met .tzip ca (.cons cb .nil)) := by
  obtain ⟨h1, h2, _, _⟩ := gloB_of h
  obtain ⟨k1, k2, _, _⟩ := gloB_of h'
  have hA : PA_ Φ X [a, b] (.cons ca (.cons cb .nil)) := a_cons ha (a_cons hb a_nil hs1) hs
  refine pe_imp (pe_tupZip (p := p) (p2 := p2) (q := q) (pos := pos) (gl_of g h2) (g.fr j _ h1) (gl_of g k2) (g.fr j2 _ k1) g.calm hA hs hpl hs2) fun σ H Q ⟨as, G, ρ, D, y, D', w, r, ee, f⟩ => ?_
  obtain ⟨⟨x, D1⟩, e1, ee⟩ := Option.bind_eq_some_iff.mp (show (ev Φ ca ρ D).bind (fun r => (evs Φ (.cons cb .nil) ρ r.2).bind fun q => (pMe .tzip r.1 q.1).map fun z => (z, q.2)) = some (y, D') from ee)
  obtain ⟨⟨zs, D2⟩, e2, ee⟩ := Option.bind_eq_some_iff.mp ee
  obtain ⟨z, e3, ee⟩ := Option.map_eq_some_iff.mp ee
  cases ee
  have e4 : evs Φ (.cons ca (.cons cb .nil)) ρ D = some (x :: zs, D2) := by
    show (ev Φ ca ρ D).bind (fun r => (evs Φ (.cons cb .nil) ρ r.2).map fun q => (r.1 :: q.1, q.2)) = _
    rw [e1, Option.bind_some, e2]; rfl
  refine ⟨as, G, ρ, D, x :: zs, D2, w, r, e4, fun vs G1 H1 st1 w1 t => ?_⟩
  cases x with
  | lst xs =>
    match zs, e3, t with
    | [.lst ys], e3, .cons (.lst hG ts) (.cons (.lst hG2 ts2) .nil) =>
      cases e3
      refine ⟨_, _, _, _, rfl, .of (w1.sub _ _ hG), .of (w1.sub _ _ hG2), fun tt as2 n1 n2 nd nm hl => ?_⟩
      obtain ⟨G2, st2, w2, t2⟩ := putP_ok as2 _ _ _ _ G1 H1 w1 n2 nd hl ts ts2
      have ht : ∀ ps, putP H1 as2 ps tt = none := fun ps => (putP_off as2 ps H1 nm).trans n1
      have fin : ∀ H2 : Hp, H2 tt = none → Stp as G1 H1 G2 H2 → Wd as X.K G2 H2 D2 → Q (.ref tt) (upd H2 tt (.tup (as2.map V.ref))) := fun H2 hn st2 w2 => by
        have st3 := Stp.new (as := as) (o := .tup (as2.map V.ref)) hn (w2.free hn)
        exact f _ _ _ ((st1.trans st2).trans st3) (w2.new hn) (.tup upd_same (t2.up st3.le))
      exact fin _ (ht _) st2 w2
  | _ => cases zs <;> cases e3
end
end MP

/-! MP zv: rows = zip(x, y) of tuples, then return tuple([.. for .. in rows]); tuple(range(n)). -/
namespace MP
open PySem PySem.Spec PyProof.Rows L2
def zo0 (it t : Addr) : HO := .ext fun h => h.IsTupleIter it t 0
def zo2 (N : Addr) : HO := .ext fun h => IsPair h (N + 2) (.ref N) (.ref (N + 1))
def zo3 (N : Addr) : HO := .ext fun h => IsPair h (N + 3) .none .none
def zo4 (N : Addr) : HO := .ext fun h => IsZip h (N + 4) (N + 2) (N + 3) .none
def zh1 (H : Hp) (N a : Addr) : Hp := upd H N (zo0 N a)
def zh2 (H : Hp) (N a b : Addr) : Hp := upd (zh1 H N a) (N + 1) (zo0 (N + 1) b)
def zh3 (H : Hp) (N a b : Addr) : Hp := upd (zh2 H N a b) (N + 2) (zo2 N)
def zh4 (H : Hp) (N a b : Addr) : Hp := upd (zh3 H N a b) (N + 3) (zo3 N)
/-- the zip's five things tracked -/
def zH (H : Hp) (N a b : Addr) : Hp := upd (zh4 H N a b) (N + 4) (zo4 N)
section
variable {H : Hp} {N a b c : Addr}
theorem zH_off (h : ∀ j, j < 5 → c ≠ N + j) : zH H N a b c = H c := by
  unfold zH zh4 zh3 zh2 zh1
  rw [upd_ne (h 4 (by decide)), upd_ne (h 3 (by decide)), upd_ne (h 2 (by decide)), upd_ne (h 1 (by decide))]
  exact upd_ne (h 0 (by decide))
theorem zH4 : zH H N a b (N + 4) = some (zo4 N) := upd_same
theorem zH3 : zH H N a b (N + 3) = some (zo3 N) := (upd_ne (by show N + 3 ≠ N + 4; exact Nat.ne_of_lt (Nat.lt_succ_self _))).trans upd_same
theorem zh4_2 : zh4 H N a b (N + 2) = some (zo2 N) := (upd_ne (by show N + 2 ≠ N + 3; exact Nat.ne_of_lt (Nat.lt_succ_self _))).trans upd_same
theorem nlt {i j : Nat} (h : i < j) : N + i ≠ N + j := Nat.ne_of_lt (Nat.add_lt_add_left h N)
theorem zH2 : zH H N a b (N + 2) = some (zo2 N) := (upd_ne (nlt (by decide))).trans zh4_2
theorem zh4_1 : zh4 H N a b (N + 1) = some (zo0 (N + 1) b) := (upd_ne (nlt (by decide))).trans ((upd_ne (nlt (by decide))).trans upd_same)
theorem zH1 : zH H N a b (N + 1) = some (zo0 (N + 1) b) := (upd_ne (nlt (by decide))).trans zh4_1
theorem zh4_0 : zh4 H N a b N = some (zo0 N a) := (upd_ne (nlt (i := 0) (by decide))).trans ((upd_ne (nlt (i := 0) (by decide))).trans ((upd_ne (nlt (i := 0) (by decide))).trans upd_same))
theorem zH0 : zH H N a b N = some (zo0 N a) := (upd_ne (nlt (i := 0) (by decide))).trans zh4_0
end
section
variable {X : Cx} {pins : List (Addr × Obj)} {σ : L2.St} {H : Hp} {s : Shared} {a b : Addr}
theorem zipV_laid {h' : Heap} (I : Inv X pins σ H s) (hk : ∀ c o, s.heap.get? c = some o → h'.get? c = some o)
    (hz : IsZip h' (s.heap.objs.size + 4) (s.heap.objs.size + 2) (s.heap.objs.size + 3) .none) (hTI : IsPair h' (s.heap.objs.size + 2) (.ref s.heap.objs.size) (.ref (s.heap.objs.size + 1))) (hTO : IsPair h' (s.heap.objs.size + 3) .none .none)
    (h1 : h'.IsTupleIter s.heap.objs.size a 0) (h2 : h'.IsTupleIter (s.heap.objs.size + 1) b 0) : Inv X pins σ (zH H s.heap.objs.size a b) { s with heap := h' } := by
  have new : ∀ j, H (s.heap.objs.size + j) = none := fun j => I.hok.fresh (Nat.le_add_right _ _)
  have kp : ∀ c u, H c = some u → zH H s.heap.objs.size a b c = some u := fun c u e => by
    rw [zH_off fun j _ z => by rw [z, new j] at e; cases e]
    exact e
  refine I.call' (ch := []) rfl ⟨fun b o q _ _ _ => hk b o q, fun b o q _ _ _ => ⟨o.slots, hk b o q⟩, fun b o q n _ => ?_, fun b o q _ => ⟨o, hk b o q⟩, fun b zs q => kp b _ q, fun b o u q => kp b _ q, fun b ps q => ⟨#[], by rw [kp b _ q]; simp⟩⟩ (fun c u q => ?_) I.bare fun b z => by simp at z
  · have lb : b < s.heap.objs.size := Heap.lt_size q
    rw [zH_off fun j _ => Nat.ne_of_lt (Nat.lt_of_lt_of_le lb (Nat.le_add_right _ _))]
    exact n
  · by_cases e4 : c = s.heap.objs.size + 4
    · subst e4
      rw [zH4] at q
      cases q
      exact ⟨hz, ⟨_, hz⟩, fun h1 h2 q k => k _ q⟩
    by_cases e3 : c = s.heap.objs.size + 3
    · subst e3
      rw [zH3] at q
      cases q
      exact ⟨hTO, ⟨_, hTO⟩, fun h1 h2 q k => k _ q⟩
    by_cases e2 : c = s.heap.objs.size + 2
    · subst e2
      rw [zH2] at q
      cases q
      exact ⟨hTI, ⟨_, hTI⟩, fun h1 h2 q k => k _ q⟩
    by_cases e1 : c = s.heap.objs.size + 1
    · subst e1
      rw [zH1] at q
      cases q
      exact ⟨h2, (let ⟨o, e, _⟩ := h2; ⟨o, e⟩), fun h1 h2 q k => q.at k⟩
    by_cases e0 : c = s.heap.objs.size
    · subst e0
      rw [zH0] at q
      cases q
      exact ⟨h1, (let ⟨o, e, _⟩ := h1; ⟨o, e⟩), fun h1 h2 q k => q.at k⟩
    rw [zH_off fun j hj => by
      match j, hj with
      | 0, _ => exact e0
      | 1, _ => exact e1
      | 2, _ => exact e2
      | 3, _ => exact e3
      | 4, _ => exact e4] at q
    exact (I.hok c u q).stay (fun d v _ y => hk d v y) (fun d y => kp d _ y) fun d zs y => kp d _ y
end
/-- zip(e, e2) of tuples, as a value -/
def tZipV (K : PySem.W.Frag) (n : Nat) (ta : TA) : TE := fun σ H Q => ta σ H fun vs H1 => ∃ a b xs ys, vs = [.ref a, .ref b] ∧ SqT K H1 a xs ∧ SqT K H1 b ys ∧
  ∀ N : Addr, n ≤ N → a < N → b < N → (∀ j, j < 5 → H1 (N + j) = none) → Q (.ref (N + 4)) (zH H1 N a b)
theorem pe_zipV {X : Cx} {e e2 : Expr} {ta : TA} {p pos : Pos} (hg : Gl X "zip") (hm : X.mg "zip" = none) (ha : PA X [e, e2] ta)
    (hs : starEach [e, e2] X.env = (false, eval e X.env) :: starEach [e2] X.env := by rfl) (hpl : (backTo pos (starEach [e2] X.env)).any (·.1) = false := by rfl) :
    PE X (.Call (.Name "zip" p) [e, e2] [] pos) (tZipV X.K X.s_0.heap.objs.size ta) := by
  refine ⟨fun pins s σ H Q I h => ?_⟩
  refine Call_ (ld_blt I hg hm PyProof.Rows.boot_zip (PyProof.Rows.callWith_type1 (thn (ha.run pos pins s σ H _ I h) fun us s1 ⟨vs, H1, I1, r1, q1⟩ => ?_) hs hpl))
  obtain ⟨a, b, xs, ys, ex, hqx, hqy, q1⟩ := q1
  subst ex
  cases r1 with
  | cons r rr =>
    cases rr with
    | cons r' rr =>
      cases rr
      cases r
      cases r'
      obtain ⟨its, rv, p1, _⟩ := I1.tuple hqx
      obtain ⟨its2, rv2, p2, _⟩ := I1.tuple hqy
      obtain ⟨o1, ho1, _⟩ := id p1
      obtain ⟨o2, ho2, _⟩ := id p2
      refine RZ.call_zipT (show s1.heap.IsTuple a its.toArray from p1) (show s1.heap.IsTuple b its2.toArray from p2) fun h' hz hTI hTO h1 h2 hsz hk => ?_
      exact ⟨.ref (s1.heap.objs.size + 4), _, zipV_laid I1 hk hz hTI hTO h1 h2, rfl, q1 _ I1.sz (Heap.lt_size ho1) (Heap.lt_size ho2) fun j _ => I1.hok.fresh (Nat.le_add_right _ _)⟩
/-- for .. in x, x a local name that holds a zip; behind it the zip is forgotten -/
def iZipV (K : PySem.W.Frag) (n k : Nat) : TI := fun σ H R => ∃ (N a b : Addr) (H0 : Hp), σ[k]? = some (some (.ref (N + 4))) ∧ H = zH H0 N a b ∧ n ≤ N ∧ a < N ∧ b < N ∧ (∀ j, j < 5 → H0 (N + j) = none) ∧ R (RZ.ItzT K a b) H0
theorem pi_zipV {X : Cx} {elts : List Expr} {kk k : Nat} {x : Str} {p tpos : Pos} (hN : X.N[k]? = some x) (hv : Vis X.env.scope x) (hd : (x == ("__debug__" : Str)) = false := by decide) (hcd : (x == ("__classdict__" : Str)) = false := by decide) :
    PI X (.Tuple elts kk tpos) (.Name x p) (iZipV X.K X.s_0.heap.objs.size k) := by
  refine ⟨fun pins s σ H R I h => ?_⟩
  obtain ⟨N, a, b, H0, hs, rfl, hn, la, lb, h0, q⟩ := h
  refine thn ((pe_var (pos := p) (i := k) hN hv hd hcd).run pins s σ (zH H0 N a b) (fun v H1 => v = .ref (N + 4) ∧ H1 = zH H0 N a b) I ⟨.ref (N + 4), hs, rfl, rfl⟩) fun u s1 ⟨v, H1, I1, r1, ev, eH⟩ => ?_
  subst ev
  rw [eH] at I1
  cases r1
  have o4 : IsZip s1.heap (N + 4) (N + 2) (N + 3) .none := (I1.hok (N + 4) (zo4 N) zH4).1
  have o3 : IsPair s1.heap (N + 3) .none .none := (I1.hok (N + 3) (zo3 N) zH3).1
  have o2 : IsPair s1.heap (N + 2) (.ref N) (.ref (N + 1)) := (I1.hok (N + 2) (zo2 N) zH2).1
  have o1 : s1.heap.IsTupleIter (N + 1) b 0 := (I1.hok (N + 1) (zo0 (N + 1) b) zH1).1
  have o0 : s1.heap.IsTupleIter N a 0 := (I1.hok N (zo0 N a) zH0).1
  have J4 := ItX.inv_drop (a := N + 4) I1 (show zH H0 N a b (N + 4) = some (.ext _) from zH4)
  have f4 := ItX.inv_fp I1 (zH4 (H := H0) (N := N) (a := a) (b := b)) (Nat.le_trans hn (Nat.le_add_right _ _))
  have f3 := ItX.inv_fp I1 (zH3 (H := H0) (N := N) (a := a) (b := b)) (Nat.le_trans hn (Nat.le_add_right _ _))
  have f2 := ItX.inv_fp I1 (zH2 (H := H0) (N := N) (a := a) (b := b)) (Nat.le_trans hn (Nat.le_add_right _ _))
  have f1 := ItX.inv_fp I1 (zH1 (H := H0) (N := N) (a := a) (b := b)) (Nat.le_trans hn (Nat.le_add_right _ _))
  have f0 := ItX.inv_fp I1 (zH0 (H := H0) (N := N) (a := a) (b := b)) hn
  have n1 : zh1 H0 N a (N + 1) = none := (upd_ne (Nat.succ_ne_self N)).trans (h0 1 (by decide))
  have n2 : zh2 H0 N a b (N + 2) = none := (upd_ne (nlt (by decide)).symm).trans ((upd_ne (nlt (i := 0) (j := 2) (by decide)).symm).trans (h0 2 (by decide)))
  have n3 : zh3 H0 N a b (N + 3) = none := (upd_ne (nlt (by decide)).symm).trans ((upd_ne (nlt (by decide)).symm).trans ((upd_ne (nlt (i := 0) (j := 3) (by decide)).symm).trans (h0 3 (by decide))))
  have n4 : zh4 H0 N a b (N + 4) = none := (upd_ne (nlt (by decide)).symm).trans ((upd_ne (nlt (by decide)).symm).trans ((upd_ne (nlt (by decide)).symm).trans ((upd_ne (nlt (i := 0) (j := 4) (by decide)).symm).trans (h0 4 (by decide)))))
  rw [show ItX.dropH (zH H0 N a b) (N + 4) = zh4 H0 N a b from ItX.dropH_upd n4] at J4
  have J3 := ItX.inv_drop (a := N + 3) J4 (show zh4 H0 N a b (N + 3) = some (.ext _) from upd_same)
  rw [show ItX.dropH (zh4 H0 N a b) (N + 3) = zh3 H0 N a b from ItX.dropH_upd n3] at J3
  have J2 := ItX.inv_drop (a := N + 2) J3 (show zh3 H0 N a b (N + 2) = some (.ext _) from upd_same)
  rw [show ItX.dropH (zh3 H0 N a b) (N + 2) = zh2 H0 N a b from ItX.dropH_upd n2] at J2
  have J1 := ItX.inv_drop (a := N + 1) J2 (show zh2 H0 N a b (N + 1) = some (.ext _) from upd_same)
  rw [show ItX.dropH (zh2 H0 N a b) (N + 1) = zh1 H0 N a from ItX.dropH_upd n1] at J1
  have J0 := ItX.inv_drop (a := N) J1 (show zh1 H0 N a N = some (.ext _) from upd_same)
  rw [show ItX.dropH (zh1 H0 N a) N = H0 from ItX.dropH_upd (h0 0 (by decide))] at J0
  refine wpAny_pyIter_zip o4 ?_
  refine ⟨N + 4, [N + 4, N + 2, N + 3, N, N + 1], _, _, H0, rfl, J0, RZ.turn_zipT (PySem.W.ktu_apart N a b la lb), ⟨o4, o2, ⟨_, _, o3⟩, o0, o1⟩, fun c hc => ?_, q⟩
  have e' : c = N + 4 ∨ c = N + 2 ∨ c = N + 3 ∨ c = N ∨ c = N + 1 := by simpa using hc
  rcases e' with z | z | z | z | z
  · rw [z]; exact ⟨h0 4 (by decide), f4.2⟩
  · rw [z]; exact ⟨h0 2 (by decide), f2.2⟩
  · rw [z]; exact ⟨h0 3 (by decide), f3.2⟩
  · rw [z]; exact ⟨h0 0 (by decide), f0.2⟩
  · rw [z]; exact ⟨h0 1 (by decide), f1.2⟩
theorem Rp.forget {as : List Addr} {K : PySem.W.Frag} {G H : Hp} {σ : L2.St} {ρ : Envi} (r : Rp as K G H σ ρ) (i : Nat) (v : Option V) : Rp as K G H (σ.set i v) (ρ.set i none) where
  len := by rw [List.length_set, List.length_set]; exact r.len
  frz := fun j x h => by
    rcases set_get h with ⟨_, e, _⟩ | ⟨ne, h⟩
    · cases e
    · rw [List.getElem?_set_ne ne]
      exact r.frz j x h
  own := fun j x h => by
    rcases set_get h with ⟨_, e, _⟩ | ⟨ne, h⟩
    · cases e
    · rw [List.getElem?_set_ne ne]
      exact r.own j x h
  dis := fun j k x y a h1 h2 h3 h4 => by
    rcases set_get h1 with ⟨_, e, _⟩ | ⟨n1, h1⟩
    · cases e
    rcases set_get h2 with ⟨_, e, _⟩ | ⟨n2, h2⟩
    · cases e
    rw [List.getElem?_set_ne n1] at h3
    rw [List.getElem?_set_ne n2] at h4
    exact r.dis j k x y a h1 h2 h3 h4
section
variable {T : Tb} {Φ : Fns} {N : List Str} {sc : Scope} {X : Cx} {ce : CE} {pt : Pat} {ct : CEs}
/-- the turns of a comprehension whose series is known -/
theorem lc1_go {own : List Nat} {as : List Addr} {G1 H1 : Hp} {D1 D2 : DS} {xs ys : List PV} {ρ : Envi} {σ : L2.St} {J : It} {Q : VK} {K : PySem.W.Frag} (hsl : ∀ i ∈ pt.slots, i ∈ own) (w1 : Wd as K G1 H1 D1) (r : Rp as K G1 H1 σ ρ) (hz : xs.length ≤ sizeLine)
    (ser : Ser J as K xs (fun G2 H2 => Stp as G1 H1 G2 H2)) (e2 : lcF (stp1 Φ own ce pt ct ρ) xs D1 = some (ys, D2))
    (f : ∀ (Dl : Addr) (G2 H2 : Hp), Stp as G1 H1 G2 H2 → Wd as K G2 H2 D2 → (∃ vs, H2 Dl = some (.lst vs) ∧ TrS as K G2 vs ys) → Q (.ref Dl) H2) :
    ∀ D, H1 D = none → ∃ W : Nat → Nat → Hp → Prop, (∃ m, W 0 m (upd H1 D (.lst []))) ∧ ∀ i m H, W i m H →
      (J.stop i H ∧ Q (.ref D) H) ∨ (J.go i H ∧ ∃ Nx : Hp → Prop, (∀ H', Nx H' → ∃ m', m' < m ∧ W (i + 1) m' H') ∧ ∀ x H', J.yld i H x H' → tP K pt x (wipe σ own) H' fun σ2 H2 => wipe σ2 own = wipe σ own ∧ tTs K Φ ct σ2 H2 fun b H3 =>
        if b = true then tE K Φ ce σ2 H3 fun y H4 => ∃ acc, H4 D = some (.lst acc) ∧ acc.length < sizeLine ∧ Nx (upd H4 D (.lst (acc ++ [y]))) else Nx H3) := by
  intro Dl hDl
  have hna : Dl ∉ as := w1.offp hDl
  have hys : ys.length ≤ sizeLine := Nat.le_trans (lcF_len stp1_len e2) hz
  refine ⟨fun i m H2 => m = xs.length - i ∧ i ≤ xs.length ∧ ∃ G2 Di acc rest, Acc as K G1 H1 Dl acc Di G2 H2 ∧ lcF (stp1 Φ own ce pt ct ρ) (xs.drop i) Di = some (rest, D2) ∧ ys = acc ++ rest,
    ⟨xs.length, by simp, Nat.zero_le _, G1, D1, [], ys, Acc.start w1 hDl, by rw [List.drop_zero]; exact e2, rfl⟩, ?_⟩
  rintro i m H2 ⟨rfl, hi, G2, Di, acc, rest, A, hl, hy⟩
  obtain ⟨go, stop, yld⟩ := ser [] G2 H2 Di A.st (by rw [List.append_nil]; exact A.w)
  by_cases hlt : i < xs.length
  · rw [drop_cons hlt] at hl
    obtain ⟨⟨l, D3⟩, h1, h2⟩ := Option.bind_eq_some_iff.mp (show (stp1 Φ own ce pt ct ρ xs[i] Di).bind (fun r => (lcF (stp1 Φ own ce pt ct ρ) (xs.drop (i + 1)) r.2).bind fun q => some (r.1 ++ q.1, q.2)) = some (rest, D2) from hl)
    obtain ⟨⟨q, D4⟩, h3, h4⟩ := Option.bind_eq_some_iff.mp h2
    have e5 : l ++ q = rest := congrArg Prod.fst (Option.some.inj h4)
    have e6 : D4 = D2 := congrArg Prod.snd (Option.some.inj h4)
    subst e5 e6
    refine .inr ⟨go i hlt, fun H' => i + 1 ≤ xs.length ∧ ∃ G2 Di acc rest, Acc as K G1 H1 Dl acc Di G2 H' ∧ lcF (stp1 Φ own ce pt ct ρ) (xs.drop (i + 1)) Di = some (rest, D4) ∧ ys = acc ++ rest, fun H' q => ⟨xs.length - (i + 1), by omega, rfl, q.1, q.2⟩, fun v H' hyl => ?_⟩
    obtain ⟨G3, st3, w3, t3⟩ := yld i xs[i] v H' (List.getElem?_eq_getElem hlt) hyl
    rw [List.append_nil] at st3 w3 t3
    have A3 := A.step hna st3 w3
    refine turn_1 (rest := q) hDl hna h1 A3 ((r.up A3.st).wipe _) t3 hsl (by rw [List.append_assoc, ← hy]; exact hys) fun G H' _ A' => ⟨hlt, G, D3, acc ++ l, q, A', h3, by rw [hy, List.append_assoc]⟩
  · have : i = xs.length := by omega
    subst this
    rw [List.drop_length] at hl
    have hl' : some (([] : List PV), Di) = some (rest, D2) := hl
    cases hl'
    rw [List.append_nil] at hy
    subst hy
    exact .inl ⟨stop _ (Nat.le_refl _), f Dl G2 H2 A.st A.w A.ex⟩
theorem zipT_some {x y : PV} {xs : List PV} (h : zipT x y = some xs) : ∃ us ws, x = .tup us ∧ y = .tup ws ∧ us.length ≤ LIM ∧ xs = zipL us ws := by
  cases x with
  | tup us =>
    cases y with
    | tup ws =>
      have h' : (if us.length ≤ LIM then some (zipL us ws) else none) = some xs := h
      split at h'
      case isFalse => cases h'
      rename_i hl
      cases h'
      exact ⟨us, ws, rfl, rfl, hl, rfl⟩
    | _ => cases h
  | _ => cases y <;> cases h
variable {a b elt : Expr} {elts ifs : List Expr} {kk i : Nat} {x : Str} {pos p p2 p3 p4 px tpos pos2 pos3 pos5 q : Pos} {scope : Scope} {own : List (Str × Nat)} {ca cb : CE}
theorem ss_zret (own : List (Str × Nat)) (g : Gd T Φ N sc X) (hF : ∀ x, X.fn x = true) (j j2 : Nat) (ha : PV_ Φ X a ca) (hb : PV_ Φ X b cb)
    (hp : ∀ (s : Shared) (H : Hp) (C : Addr) (cl : List (Str × Addr)) (fp : List Addr), PP_ (X.blk s H scope (compEnvC scope cl C X.env) fp) (.Tuple elts kk tpos) pt)
    (ht : ∀ (s : Shared) (H : Hp) (C : Addr) (cl : List (Str × Addr)) (fp : List Addr), PTs_ Φ (X.blk s H scope (compEnvC scope cl C X.env) fp) ifs ct)
    (he : ∀ (s : Shared) (H : Hp) (C : Addr) (cl : List (Str × Addr)) (fp : List Addr), PV_ Φ (X.blk s H scope (compEnvC scope cl C X.env) fp) elt ce)
    (h : gloB T sc j "tuple" = true := by decide +kernel) (h' : gloB T sc j2 "zip" = true := by decide +kernel) (hst : stoB N sc i x = true := by decide +kernel) (hvr : varB N sc i x = true := by decide +kernel)
    (hs : starEach [a, b] X.env = (false, eval a X.env) :: starEach [b] X.env := by rfl) (hs1 : starEach [b] X.env = (false, eval b X.env) :: starEach [] X.env := by rfl) (hpl : (backTo q (starEach [b] X.env)).any (·.1) = false := by rfl)
    (hsw : swapsWith (.Call (.Name "zip" p2) [a, b] [] q) (some (.Name x px)) pos.line X.env = pure false := by rfl)
    (hbl : blkC N sc scope own = true := by decide +kernel) (hsl : (pt.slots.all fun i => (own.map (·.2)).contains i) = true := by rfl) (hfs : ∀ y, foldedSetIterable (.Name x p4) X.env y = pure y := by intro _; rfl)
    (na : starEach [.ListComp elt [⟨.Tuple elts kk tpos, .Name x p4, ifs, 0⟩] scope pos2] X.env = (false, eval (.ListComp elt [⟨.Tuple elts kk tpos, .Name x p4, ifs, 0⟩] scope pos2) X.env) :: starEach [] X.env := by rfl) :
    PSs_ Φ X [.Assign [.Name x px] (.Call (.Name "zip" p2) [a, b] [] q) pos, .Return (some (.Call (.Name "tuple" p3) [.ListComp elt [⟨.Tuple elts kk tpos, .Name x p4, ifs, 0⟩] scope pos2] [] pos3)) pos5] (.cons (.zret i (own.map (·.2)) ce pt ca cb ct) .nil) := by
  obtain ⟨h1, h2, _, _⟩ := gloB_of h
  obtain ⟨k1, k2, _, _⟩ := gloB_of h'
  obtain ⟨m1, m2⟩ := stoB_of hst
  obtain ⟨v1, v2, v3, v4⟩ := varB_of hvr
  have hA : PA_ Φ X [a, b] (.cons ca (.cons cb .nil)) := a_cons ha (a_cons hb a_nil hs1) hs
  have P1 := ps_nm (pos' := px) g m1 m2 (pe_zipV (p := p2) (pos := q) (gl_of g k2) (g.fr j2 _ k1) hA hs hpl) hsw (.inl (hF x))
  have P2 := ps_ret (pos := pos5) (pe_tupleOf (p := p3) (pos := pos3) (gl_of g h2) (g.fr j _ h1) (pe_lc (pos := pos2) (wi := iZipV X.K X.s_0.heap.objs.size i) (g := tP X.K pt) (tt := tTs X.K Φ ct) (te := tE X.K Φ ce) g.calm (by rw [g.n]; exact g.nd) (pi_zipV (p := p4) (by rw [g.n]; exact v1) (by rw [g.sc]; exact v2) v3 v4) (by rw [g.n, g.sc]; exact blkOk_by hbl) hp ht he hfs) na)
  refine pss_imp (pss_cons P1 (pss_one P2)) fun E σ H ⟨as0, G0, H0, as, G, ρ, D, o, ρ', D', S, ee, f⟩ => ?_
  obtain ⟨q0, e1, e2⟩ := Option.bind_eq_some_iff.mp (show (ex Φ (.zret i (own.map (·.2)) ce pt ca cb ct) ρ D).bind (fun q => match q.1 with | .nx => exs Φ .nil q.2.1 q.2.2 | _ => some q) = some (o, ρ', D') from ee)
  have e1 : (if i < ρ.length then (ev Φ ca ρ D).bind fun r => (ev Φ cb ρ r.2).bind fun t => (zipT r.1 t.1).bind fun xs => (lcF (stp1 Φ (own.map (·.2)) ce pt ct (ρ.set i none)) xs t.2).map fun q => (Out.rt (.tup q.1), ρ, q.2) else none) = some q0 := e1
  split at e1
  case isFalse => cases e1
  rename_i hlt
  obtain ⟨⟨x1, D1⟩, e3, e1⟩ := Option.bind_eq_some_iff.mp e1
  obtain ⟨⟨y1, D2⟩, e4, e1⟩ := Option.bind_eq_some_iff.mp e1
  obtain ⟨xs, e5, e1⟩ := Option.bind_eq_some_iff.mp e1
  obtain ⟨⟨ys, D3⟩, e6, e7⟩ := Option.map_eq_some_iff.mp e1
  subst e7
  cases e2
  obtain ⟨us, ws, rfl, rfl, hlim, rfl⟩ := zipT_some e5
  have e8 : evs Φ (.cons ca (.cons cb .nil)) ρ D = some ([.tup us, .tup ws], D2) := by
    show (ev Φ ca ρ D).bind (fun r => ((ev Φ cb ρ r.2).bind fun r => (evs Φ .nil ρ r.2).map fun q => (r.1 :: q.1, q.2)).map fun q => (r.1 :: q.1, q.2)) = _
    rw [e3, Option.bind_some, e4]; rfl
  refine ⟨as, G, ρ, D, [.tup us, .tup ws], D2, S.w, S.r, e8, fun vs G1 H1 st1 w1 t => ?_⟩
  match vs, t with
  | _, .cons (.tupR hG ts) (.cons (.tupR hG2 ts2) .nil) =>
    refine ⟨_, _, _, _, rfl, .inl (w1.rd hG), .inl (w1.rd hG2), fun N hn la lb h0 => ?_⟩
    have hi : i < σ.length := by rw [S.r.len]; exact hlt
    refine ⟨N, _, _, H1, List.getElem?_set_self hi, rfl, hn, la, lb, h0, ?_⟩
    have r1 := (S.r.up st1).forget i (some (.ref (N + 4)))
    have hsl' : ∀ k ∈ pt.slots, k ∈ own.map (·.2) := fun k hk => by have := List.all_eq_true.mp hsl k hk; simpa using this
    refine lc1_go (Q := fun x H1 => kTup X.K x H1 E.rt) hsl' w1 r1 (Nat.le_trans (by unfold zipL; rw [List.length_zipWith]; exact Nat.min_le_left _ _) (line_lim hlim)) (Ser.weak (ser_zipT fun more G2 H2 D2 l w2 => ⟨.inl (w2.rd (Le.rd l _ _ hG)), .inl (w2.rd (Le.rd l _ _ hG2)), ts.mono l more, ts2.mono l more⟩) fun _ _ st => st.le) e6 fun Dl G2 H2 st2 w2 ⟨vs, hv, tv⟩ => ?_
    refine .inl ⟨Dl, vs, rfl, .of hv, fun q hq => ?_⟩
    have st3 := Stp.new (as := as) (o := .tup vs) hq (w2.free hq)
    exact f as σ _ _ (.same ((st1.trans st2).trans st3).le) (S.adv ((st1.trans st2).trans st3) (w2.new hq)) _ (.tup upd_same (tv.up st3.le))
variable {ca : CE}
theorem g_trg {q : Pos} (g : Gd T Φ N sc X) (j j2 : Nat) (ha : PV_ Φ X a ca) (h : gloB T sc j "tuple" = true := by decide +kernel) (h' : gloB T sc j2 "range" = true := by decide +kernel) {p2 : Pos}
    (na : starEach [a] X.env = (false, eval a X.env) :: starEach [] X.env := by rfl) (na2 : starEach [.Call (.Name "range" p2) [a] [] q] X.env = (false, eval (.Call (.Name "range" p2) [a] [] q) X.env) :: starEach [] X.env := by rfl) :
    PV_ Φ X (.Call (.Name "tuple" p) [.Call (.Name "range" p2) [a] [] q] [] pos) (.bi .tupRange (.cons ca .nil)) := by
  obtain ⟨h1, h2, _, _⟩ := gloB_of h
  obtain ⟨k1, k2, _, _⟩ := gloB_of h'
  refine pe_imp (pe_tupRg (p := p) g.calm (gl_of g h2) (g.fr j _ h1) (prg_1 (p := p2) (pos := q) (gl_of g k2) (g.fr j2 _ k1) ha na) na2) fun σ H Q ⟨as, G, ρ, D, y, D', w, r, ee, f⟩ => ?_
  obtain ⟨x, n, e1, e2, e3⟩ := one_int (fun z x hz => by
    cases x <;> first | exact ⟨_, rfl⟩ | cases hz) ee
  refine ⟨as, G, ρ, D, x, D', w, r, e1, fun v G1 H1 st1 w1 t1 => ?_⟩
  obtain rfl := opd_int' w1 e2
  cases t1
  have e3' : (if n ≤ LIM ∧ -LIM ≤ n then some (PV.tup ((List.range n.toNat).map fun (k : Nat) => .int k)) else none) = some y := e3
  split at e3'
  case isFalse => cases e3'
  rename_i hl
  cases e3'
  have hL : ((LIM : Nat) : Int) = 1000000 := rfl
  refine ⟨n, rfl, ⟨by omega, by omega, by omega, by omega, by omega⟩, fun p hp => ?_⟩
  have st2 := Stp.new (as := as) (o := .tup (rgV 0 n)) hp (w1.free hp)
  refine f _ _ _ (st1.trans st2) (w1.new hp) (.tup upd_same ?_)
  have : rgV 0 n = (List.range n.toNat).map fun (k : Nat) => V.int k := by
    unfold rgV; simp
  rw [this]
  have t := TrS.ints (as := as) (K := X.K) (G := upd G1 p (.tup (rgV 0 n))) ((List.range n.toNat).map fun (k : Nat) => (k : Int))
  rw [List.map_map, List.map_map] at t
  rw [this] at t
  exact t
/-! ### enumerate of an own list -/
theorem j_enum {a : Expr} {elts : List Expr} {kk j : Nat} {p pos tpos : Pos} {ca : CE} (g : Gd T Φ N sc X) (hg : sc.names.lookup ("enumerate" : Str) = some .globalImplicit) (hm : T.fr[j]? = some ("enumerate" : Str)) (ha : PO_ Φ X a ca) (hs : starEach [a] X.env = [(false, eval a X.env)] := by rfl) : PJ_ Φ X (.Tuple elts kk tpos) (.Call (.Name "enumerate" p) [a] [] pos) (.enum ca) := by
  have hA : PB_ Φ X [a] (.cons ca .nil) := b_cons ha b_nil hs
  have hP := pi_strong (pi_enumA (p := p) (pos := pos) (tpos := tpos) (elts := elts) (kk := kk) (gl_of g hg) (g.fr j _ hm) hA hs)
  refine pi_imp hP fun σ H R ⟨as, G, ρ, D, xs, D', w, r, ee, f⟩ => ?_
  obtain ⟨⟨x, D1⟩, e1, ee⟩ := Option.bind_eq_some_iff.mp ee
  obtain ⟨ys, e2, ee⟩ := Option.map_eq_some_iff.mp ee
  cases ee
  refine ⟨as, G, ρ, D, [x], D1, w, r, by simp only [evs, e1, Option.bind_some, Option.map_some], fun vs G' H' st w' t => ?_⟩
  cases t with
  | cons t1 t2 =>
    cases t2
    cases x with
    | lst zs =>
      cases e2
      rcases t1 with t1 | ⟨a, rfl, hG, ha, vs, hH, ts⟩
      · cases t1 with
        | lst hG ts => exact ⟨_, _, rfl, .inl ⟨.of (w'.sub _ _ hG), fun sz => f _ G' H' st w' (by rw [enumL_len, ← ts.len]; exact sz.1 _ _ (.of (w'.sub _ _ hG))) (ser_enumL fun more G2 H2 D2 l w2 => ⟨.of (w2.sub _ _ (l.le.lst hG)), ts.mono l.le more⟩)⟩⟩
      · exact ⟨_, _, rfl, .inl ⟨.of hH, fun sz => f _ G' H' st w' (by rw [enumL_len, ← ts.len]; exact sz.1 _ _ (.of hH)) (ser_enumL fun more G2 H2 D2 l w2 => ⟨.of (l.kp _ _ ha hH), ts.mono l.le more⟩)⟩⟩
    | tup zs =>
      cases e2
      rcases t1 with t1 | ⟨a, rfl, hG, ha, o⟩
      · cases t1 with
        | tupR hG ts => exact ⟨_, _, rfl, .inr ⟨.inl (w'.rd hG), fun sz => f _ G' H' st w' (by rw [enumL_len, ← ts.len]; exact sz.2 _ _ (.inl (w'.rd hG))) (ser_enumT fun more G2 H2 D2 l w2 => ⟨.inl (w2.rd (l.le.rd _ _ hG)), ts.mono l.le more⟩)⟩⟩
      · exact absurd o id
    | _ => cases e2
theorem gje {a : Expr} {elts : List Expr} {kk : Nat} {p pos tpos : Pos} {ca : CE} (g : Gd T Φ N sc X) (j : Nat) (ha : PO_ Φ X a ca) (h : gloB T sc j "enumerate" = true := by decide +kernel) (hs : starEach [a] X.env = [(false, eval a X.env)] := by rfl) : PJ_ Φ X (.Tuple elts kk tpos) (.Call (.Name "enumerate" p) [a] [] pos) (.enum ca) :=
  let ⟨h1, h2, _, _⟩ := gloB_of h; j_enum g h2 h1 ha hs
end
end MP

/-! MP xt: tuples made by tuple(list) whose object is known (so that a method of theirs can be found): t.index(n); d.get(k). -/
namespace MP
open PySem PySem.Spec PyProof.Rows L2
section
variable {as : List Addr} {K : PySem.W.Frag} {G : Hp} {v : V} {x : PV}
theorem Tr.unx (t : Tr as K G v x) : Tr as K G v (unx x) := by
  cases t with
  | tupX h e t => exact .tupR (.inr ⟨_, h⟩) t
  | non => exact .non
  | bl b => exact .bl b
  | int i => exact .int i
  | str s => exact .str s
  | tupR h t => exact .tupR h t
  | lst h t => exact .lst h t
  | dK h t => exact .dK h t
  | dT h t => exact .dT h t
  | shr h => exact .shr h
  | scr h => exact .scr h
end
section
variable {T : Tb} {Φ : Fns} {N : List Str} {sc : Scope} {X : Cx} {e a b k : Expr} {pos p p2 q : Pos} {c ca cb ck : CE}
theorem v_unx (h : PV_ Φ X e c) : PV_ Φ X e (.unx c) := pe_imp h fun σ H Q ⟨as, G, ρ, D, y, D', w, r, ee, f⟩ => by
  obtain ⟨⟨x, D1⟩, e1, ee⟩ := Option.map_eq_some_iff.mp (show (ev Φ c ρ D).map (fun r => (unx r.1, r.2)) = some (y, D') from ee)
  cases ee
  exact ⟨as, G, ρ, D, x, _, w, r, e1, fun v G1 H1 st1 w1 t1 => f v G1 H1 st1 w1 t1.unx⟩
/-- tuple(a) of a list: the new tuple's object has no dict -/
def tTupX (K : PySem.W.Frag) (ta : TE) : TE := fun σ H Q => ta σ H fun x H1 => ∃ p xs, x = .ref p ∧ SqL K H1 p xs ∧ ∀ q od, H1 q = none → od.dict = none → Q (.ref q) (upd H1 q (.frz od (.tup xs)))
theorem pe_tupX {ta : TE} (hg : Gl X "tuple") (hm : X.mg "tuple" = none) (ha : PE X a ta) (na : starEach [a] X.env = (false, eval a X.env) :: starEach [] X.env := by rfl) :
    PE X (.Call (.Name "tuple" p) [a] [] pos) (tTupX X.K ta) := by
  refine ⟨fun pins s σ H Q I h => ?_⟩
  refine Call_ (ld_blt I hg hm boot_tuple (PyProof.Rows.callWith_type1 (one_arg ha I h (fun v s2 x H2 I2 r ⟨p, xs, ex, hs, q⟩ => ?_) na) na))
  subst ex
  obtain rfl : v = .ref p := r
  obtain ⟨its, rv, pl, hz⟩ := I2.list hs
  refine call_tuple_list pl.isList (fun h' hk => ?_) (by rw [List.size_toArray, ← rv.length]; exact hz)
  have I3 : Inv X pins σ H2 { s2 with heap := h' } := I2.kept (t' := s2.toks) hk
  have I4 : Inv X pins σ (upd H2 h'.objs.size (.frz { cls := .type "tuple", data := .seq its.toArray } (.tup xs))) { s2 with heap := h'.push { cls := .type "tuple", data := .seq its.toArray } } :=
    I3.laid (t' := s2.toks) (fun b o e => Heap.get?_push_of_some _ e) (Nat.le_refl _) (show ObjOk X.prog X.w _ _ _ (.frz _ (.tup xs)) from ⟨Heap.get?_push_size _ rfl, hz, its, rv, IsTup.new _ _⟩)
  exact ⟨.ref h'.objs.size, _, I4, rfl, q _ _ (I3.hok.fresh (Nat.le_refl _)) rfl⟩
theorem one_any {ρ : Envi} {D D' : DS} {ca : CE} {y : PV} {bi : Bi} (ee : ev Φ (.bi bi (.cons ca .nil)) ρ D = some (y, D')) : ∃ x x', ev Φ ca ρ D = some (x, D') ∧ opd D' x = some x' ∧ pBi bi [x'] = some y := by
  obtain ⟨⟨ws, D1⟩, e1, ee⟩ := Option.bind_eq_some_iff.mp ee
  obtain ⟨ys, e2, ee⟩ := Option.bind_eq_some_iff.mp ee
  obtain ⟨z, e3, ee⟩ := Option.map_eq_some_iff.mp ee
  cases ee
  obtain ⟨⟨x, D2⟩, e4, e5⟩ := Option.bind_eq_some_iff.mp (show (ev Φ ca ρ D).bind (fun r => (evs Φ .nil ρ r.2).map fun q => (r.1 :: q.1, q.2)) = some (ws, _) from e1)
  obtain ⟨⟨zs, D3⟩, e6, e7⟩ := Option.map_eq_some_iff.mp e5
  have e6 : some (([] : List PV), D2) = some (zs, D3) := e6
  cases e6
  cases e7
  obtain ⟨x', e8, e9⟩ := Option.bind_eq_some_iff.mp (show (opd _ x).bind (fun y => (mapO (opd _) []).bind fun ys => some (y :: ys)) = some ys from e2)
  have e9 : some [x'] = some ys := e9
  cases e9
  exact ⟨x, x', e4, e8, e3⟩
theorem g_tupx (g : Gd T Φ N sc X) (j : Nat) (ha : PO_ Φ X a ca) (h : gloB T sc j "tuple" = true := by decide +kernel) (na : starEach [a] X.env = (false, eval a X.env) :: starEach [] X.env := by rfl) :
    PV_ Φ X (.Call (.Name "tuple" p) [a] [] pos) (.bi .tupX (.cons ca .nil)) := by
  obtain ⟨h1, h2, _, _⟩ := gloB_of h
  refine pe_imp (pe_tupX (p := p) (pos := pos) (gl_of g h2) (g.fr j _ h1) ha na) fun σ H Q ⟨as, G, ρ, D, y, D', w, r, ee, f⟩ => ?_
  obtain ⟨x, x', e1, e2, e3⟩ := one_any ee
  refine ⟨as, G, ρ, D, x, D', w, r, e1, fun v G1 H1 st1 w1 t1 => ?_⟩
  cases x' with
  | lst xs =>
    have e3 : some (PV.lck (.tup xs)) = some y := e3
    cases e3
    obtain ⟨l, vs, rfl, hH, ts⟩ := (t1.opd w1 e2).lst w1
    refine ⟨l, vs, rfl, .of hH, fun q od hq hd => ?_⟩
    have st2 := Stp.new (as := as) (o := .frz od (.tup vs)) hq (w1.free hq)
    exact f _ _ _ (st1.trans st2) (w1.new hq) (.tupX upd_same hd (ts.up st2.le))
  | _ => cases e3
/-- t.index(n) -/
def tIdxT (K : PySem.W.Frag) (to : TE) (t : TA) : TE := fun σ H Q => to σ H fun x H1 => ∃ a od vs, x = V.ref a ∧ H1 a = some (.frz od (.tup vs)) ∧ od.dict = none ∧ t σ H1 fun xs H2 => ∃ (ns : List Int) (n : Int), xs = [V.int n] ∧ SqT K H2 a (ns.map V.int) ∧ n ∈ ns ∧ Q (.int (ns.idxOf n : Nat)) H2
theorem pe_idxT {to : TE} {t : TA} {apos cpos : Pos} (ho : PE X a to) (ha : PA X [b] t)
    (hbase : attributeBase a "index" X.env (eval a X.env) = eval a X.env := by rfl)
    (hfew : ((backTo cpos (starEach [b] X.env)).all (fun x => !x.1) && (backToKw cpos (keywordEach [] X.env)).all (fun x => x.1.isSome) && decide (([b] : List Expr).length + ([] : List Keyword).length + (if ([] : List Keyword).isEmpty then 0 else 1) < 30)) = true := by rfl)
    (hline : (apos.endLine == cpos.line) = true := by rfl) (hs : starEach [b] X.env = (false, eval b X.env) :: starEach [] X.env := by rfl) (hplain : (backTo cpos (starEach [] X.env)).any (·.1) = false := by rfl) :
    PE X (.Call (.Attribute a "index" apos) [b] [] cpos) (tIdxT X.K to t) := by
  refine ⟨fun pins s σ H Q I h => ?_⟩
  refine wpAny_Call_method_late hbase hfew hline rfl (thn (ho.run pins s σ H _ I h) fun v s1 ⟨x, H1, I1, r1, a, od, vs, ex, hf, hd, q1⟩ => ?_)
  subst ex
  cases r1
  obtain ⟨ho1, _, its0, _, ht⟩ := (show ObjOk X.prog X.w H1 s1.heap a (.frz od (.tup vs)) from I1.hok a _ hf)
  have hcls : s1.TypeIs (.ref a) "tuple" := by
    obtain ⟨o, e1, e2, _⟩ := ht
    exact ⟨o, e1, e2⟩
  refine ⟨"tuple", "tuple.index", PySem.F.plainAttrs_tuple, PySem.F.slot_tuple_index, PySem.F.type_tuple_index, hcls, fun c e => by cases e; exact ⟨od, ho1, hd⟩, ?_⟩
  have hA := ha.run cpos pins s1 σ H1 _ I1 q1
  rw [hs] at hA ⊢
  refine Calls.callWith_builtin (by show (false || (backTo cpos (starEach [] X.env)).any (·.1)) = false; rw [hplain] <;> rfl) (Calls.evalArgs_plain ?_)
  refine thn hA fun us s2 ⟨ws, H2, I2, r2, ns, n, ex, hq, hn, q2⟩ => ?_
  subst ex
  cases r2 with
  | cons r rr =>
    cases rr
    obtain ⟨t, rfl⟩ := r
    obtain ⟨its, rv, pl, hz⟩ := I2.tuple hq
    exact SeqAt.tuple_index_ints pl rv.ints hn ⟨.int (ns.idxOf n : Nat), H2, I2.tok _, ⟨_, rfl⟩, q2⟩
theorem idxT_some {v y : PV} {zs : List PV} (h : pMe .indexT v zs = some y) : ∃ xs n, v = .lck (.tup xs) ∧ zs = [.int n] := by
  cases v with
  | lck w =>
    cases w with
    | tup xs =>
      match zs, h with
      | [.int n], _ => exact ⟨xs, n, rfl, rfl⟩
    | _ => cases h
  | _ => cases h
theorem g_indexT {apos cpos : Pos} (g : Gd T Φ N sc X) (ha : PV_ Φ X a ca) (hb : PV_ Φ X b cb)
    (hbase : attributeBase a "index" X.env (eval a X.env) = eval a X.env := by rfl)
    (hfew : ((backTo cpos (starEach [b] X.env)).all (fun x => !x.1) && (backToKw cpos (keywordEach [] X.env)).all (fun x => x.1.isSome) && decide (([b] : List Expr).length + ([] : List Keyword).length + (if ([] : List Keyword).isEmpty then 0 else 1) < 30)) = true := by rfl)
    (hline : (apos.endLine == cpos.line) = true := by rfl) (hs : starEach [b] X.env = (false, eval b X.env) :: starEach [] X.env := by rfl) (hplain : (backTo cpos (starEach [] X.env)).any (·.1) = false := by rfl) :
    PV_ Φ X (.Call (.Attribute a "index" apos) [b] [] cpos) (.met .indexT ca (.cons cb .nil)) := by
  have hA : PA_ Φ X [b] (.cons cb .nil) := a_cons hb a_nil hs
  refine pe_imp (pe_idxT (apos := apos) (cpos := cpos) ha hA hbase hfew hline hs hplain) fun σ H Q ⟨as, G, ρ, D, y, D', w, r, ee, f⟩ => ?_
  obtain ⟨⟨v, D1⟩, e1, ee⟩ := Option.bind_eq_some_iff.mp (show (ev Φ ca ρ D).bind (fun r => (evs Φ (.cons cb .nil) ρ r.2).bind fun q => (pMe .indexT r.1 q.1).map fun z => (z, q.2)) = some (y, D') from ee)
  obtain ⟨⟨zs, D2⟩, e2, ee⟩ := Option.bind_eq_some_iff.mp ee
  obtain ⟨z, e3, ee⟩ := Option.map_eq_some_iff.mp ee
  cases ee
  have len1 : ∃ u, zs = [u] := by
    obtain ⟨⟨u, D3⟩, e4, e5⟩ := Option.bind_eq_some_iff.mp (show (ev Φ cb ρ D1).bind (fun r => (evs Φ .nil ρ r.2).map fun q => (r.1 :: q.1, q.2)) = some (zs, _) from e2)
    obtain ⟨⟨us, D4⟩, e6, e7⟩ := Option.map_eq_some_iff.mp e5
    have e6 : some (([] : List PV), D3) = some (us, D4) := e6
    cases e6
    cases e7
    exact ⟨u, rfl⟩
  obtain ⟨u, rfl⟩ := len1
  obtain ⟨xs, n, hv, hu⟩ := idxT_some e3
  have hv : v = .lck (.tup xs) := hv
  have hu : u = .int n := (List.cons.inj hu).1
  subst hv hu
  obtain ⟨ns, h3, h4⟩ := Option.bind_eq_some_iff.mp (show (mapO intOf xs).bind (fun ns => if n ∈ ns then some (PV.int (ns.idxOf n)) else none) = some _ from e3)
  split at h4
  case isFalse => cases h4
  rename_i hmem
  cases h4
  refine ⟨as, G, ρ, D, _, D1, w, r, e1, fun v1 G1 H1 st1 w1 t1 => ?_⟩
  cases t1 with
  | tupX hG hd ts =>
    have ei := ints_tr ts h3
    subst ei
    refine ⟨_, _, _, rfl, w1.sub _ _ hG, hd, as, G1, ρ, D1, [.int n], _, w1, r.up st1, e2, fun vs G2 H2 st2 w2 t2 => ?_⟩
    cases t2 with
    | cons t2 t3 =>
      cases t3
      cases t2
      exact ⟨ns, n, rfl, .inl (.inr ⟨_, w2.sub _ _ (st2.le.fz _ _ _ hG)⟩), hmem, f _ G2 H2 (st1.trans st2) w2 (.int _)⟩
/-- d.get(k) -/
theorem v_get1 {apos cpos : Pos} (g : Gd T Φ N sc X) (ha : PO_ Φ X a ca) (hk : PV_ Φ X k ck) (m : M1 X a "get" apos k cpos) : PV_ Φ X (.Call (.Attribute a "get" apos) [k] [] cpos) (.met .get1 ca (.cons ck .nil)) :=
  pe_imp (pe_dget1 (by have := g.un; omega) ha hk m) fun σ H Q ⟨as, G, ρ, D, y, D', w, r, ee, fin⟩ => by
    obtain ⟨⟨x, D1⟩, e1, ee⟩ := Option.bind_eq_some_iff.mp ee
    obtain ⟨⟨xs, D2⟩, e2, ee⟩ := Option.bind_eq_some_iff.mp ee
    obtain ⟨z, e4, ee⟩ := Option.map_eq_some_iff.mp ee
    cases ee
    obtain ⟨⟨kx, D3⟩, e5, e6⟩ := Option.bind_eq_some_iff.mp (show (ev Φ ck ρ D1).bind (fun r => (evs Φ .nil ρ r.2).map fun q => (r.1 :: q.1, q.2)) = some (xs, _) from e2)
    obtain ⟨⟨ys, D4⟩, e7, e8⟩ := Option.map_eq_some_iff.mp e6
    have e7 : some (([] : List PV), D3) = some (ys, D4) := e7
    cases e7
    cases e8
    cases x with
    | dct t kvs =>
      have e4' : (if isKey t kx then some ((dGet kx kvs).getD .non) else none) = some _ := e4
      split at e4'
      · rename_i hkey
        cases e4'
        refine ⟨as, G, ρ, D, _, D1, w, r, e1, fun v1 G1 H1 st1 w1 t1 => ?_⟩
        obtain ⟨p, rfl, hd⟩ := isD_of w1 t1.r
        refine ⟨p, rfl, hd, as, G1, ρ, D1, kx, _, w1, r.up st1, e5, fun v2 G2 H2 st2 w2 t2 => ?_⟩
        obtain ⟨q, o, eq, g', ho⟩ := dget_of w2 (t1.up st2).r (.inl t2) hkey
        cases eq
        refine ⟨o, g', ?_⟩
        have st := st1.trans st2
        rcases ho with ⟨h1, h2⟩ | ⟨vv, zz, h1, h2, h3⟩
        · subst h1
          rw [h2] at fin
          exact fin _ G2 H2 st w2 .non
        · subst h1
          rw [h2] at fin
          exact fin _ G2 H2 st w2 h3
      · cases e4'
    | _ => cases e4
theorem g_get1 {apos cpos : Pos} (g : Gd T Φ N sc X) (ha : PO_ Φ X a ca) (hk : PV_ Φ X k ck)
    (base : attributeBase a "get" X.env (eval a X.env) = eval a X.env := by rfl)
    (few : ((backTo cpos (starEach [k] X.env)).all (fun x => !x.1) && (backToKw cpos (keywordEach [] X.env)).all (fun x => x.1.isSome) && decide (([k] : List Expr).length + ([] : List Keyword).length + (if ([] : List Keyword).isEmpty then 0 else 1) < 30)) = true := by rfl)
    (line : (apos.endLine == cpos.line) = true := by rfl) (trees : backTo cpos (starEach [k] X.env) = [(false, eval k X.env)] := by rfl) :
    PV_ Φ X (.Call (.Attribute a "get" apos) [k] [] cpos) (.met .get1 ca (.cons ck .nil)) := v_get1 g ha hk ⟨base, few, line, trees⟩
end
end MP

namespace MP.K04
open PySem PySem.Spec PyProof.Rows L2 MP
def pw_ : Program := PySem.Challenge.pw_toolslent_k04_dealings_that_none_blocks
def top (i : Nat) : Stmt := (PySem.Challenge.pw_toolslent_k04_dealings_that_none_blocks).main.body.getD i (.Pass ⟨0, 0, 0, 0⟩)
def TT : Tb := { fns := [("stable", 3), ("blocking", 3), ("_law_draws", 2), ("_law_next", 2), ("_law_pick", 2), ("_law_alike", 2), ("_law_order", 2), ("_law_blocks", 3), ("law", 1)], fr := ["abs", "bool", "dict", "enumerate", "int", "isinstance", "len", "list", "min", "range", "sorted", "str", "tuple"], cs := [] }
def N_f_stable : List Str := [("able" : Str), ("wishes" : Str), ("ranks" : Str), ("waiting" : Str), ("found" : Str), ("at" : Str), ("owner" : Str), ("ask" : Str), ("tool" : Str), ("old" : Str)]
def c_f_stable : CSs := (.cons (.par (nms [5, 6]) [true, true] (.cons (.bin .rep (.lst (.cons (.int 0) .nil)) (.bi .len (.cons (.var 0) .nil))) (.cons (.dsp 0 .nil) .nil)))
 (.cons (.asg true 3 (.bi .listRange (.cons (.bi .len (.cons (.var 0) .nil)) .nil)))
 (.cons (.whl (.cmp .ne (.bor 3) (.lst .nil)) (.cons (.pop0 (.nm 7) 3)
 (.cons (.ife (.cmp .lt (.idx (.bor 5) (.var 7)) (.bi .len (.cons (.unx (.idx (.var 1) (.var 7))) .nil))) (.cons (.asg false 8 (.idx (.unx (.idx (.var 1) (.var 7))) (.idx (.bor 5) (.var 7))))
 (.cons (.augI 5 (.var 7) .add (.int 1))
 (.cons (.asg false 9 (.met .get1 (.bor 6) (.cons (.var 8) .nil)))
 (.cons (.ife (.or_ (.cons (.cmp .is_ (.var 9) .non) (.cons (.cmp .lt (.met .indexT (.idx (.var 2) (.var 8)) (.cons (.var 7) .nil)) (.met .indexT (.idx (.var 2) (.var 8)) (.cons (.var 9) .nil))) .nil))) (.cons (.setI 6 (.var 8) (.var 7))
 (.cons (.ext 3 (.ite (.cmp .isn (.var 9) .non) (.lst (.cons (.var 9) .nil)) (.lst .nil)))
 .nil)) (.cons (.app 3 (.var 7))
 .nil))
 .nil)))) .nil)
 .nil)))
 (.cons (.asg false 4 (.bi .dict (.cons (.lc1 [8] (.tup (.cons (.idx (.bor 6) (.var 8)) (.cons (.var 8) .nil))) (.nm 8) (.keys 6) .nil) .nil)))
 (.cons (.ret (.bi .tuple (.cons (.lc1 [7] (.met .get1 (.var 4) (.cons (.var 7) .nil)) (.nm 7) (.rng1 (.bi .len (.cons (.var 0) .nil))) .nil) .nil)))
 .nil)))))
theorem w_f_stable {Φ : Fns} {X : Cx} (g : Gd TT Φ N_f_stable (defScope (top 1)) X) (hF : ∀ x, X.fn x = true) : PSs_ Φ X (defBody (top 1)) c_f_stable := (ss_cons (gs_parN g (gn g hF (gn g hF n_nil)) (x_own (f_rep (v_o (f_v (f_lst (a_cons v_int a_nil)))) (v_o (g_len g 6 (v_o (gv g))))) (x_own f_dnewK x_nil)))
 (ss_cons (gs_asgF g hF (f_lrg g 7 9 (g_len g 6 (v_o (gv g)))))
 (ss_cons (s_while g (t_cmp (op := .ne) g (gb g) (v_o (f_v (f_lst a_nil)))) (ss_cons (gs_pop0 g (gp g (hf := .inl (hF _))))
 (ss_cons (s_if (t_cmp (op := .lt) g (v_o (v_idx g (gb g) (v_o (gv g)))) (v_o (g_len g 6 (v_o (v_unx (v_idx g (v_o (gv g)) (v_o (gv g)))))))) (ss_cons (gs_asg g hF (v_idx g (v_o (v_unx (v_idx g (v_o (gv g)) (v_o (gv g))))) (v_o (v_idx g (gb g) (v_o (gv g))))))
 (ss_cons (gs_augI (op := .add) g (gv g) v_int)
 (ss_cons (gs_asg g hF (g_get1 g (gb g) (gv g)))
 (ss_cons (s_if (w_t (w_or (t_cmp (op := .is_) g (v_o (gv g)) (v_o v_non)) (w_or1 (t_cmp (op := .lt) g (v_o (g_indexT g (v_idx g (v_o (gv g)) (v_o (gv g))) (gv g))) (v_o (g_indexT g (v_idx g (v_o (gv g)) (v_o (gv g))) (gv g))))))) (ss_cons (gs_setI g (gv g) (gv g))
 (ss_cons (gs_ext g (v_ite (t_cmp (op := .isn) g (v_o (gv g)) (v_o v_non)) (f_v (f_lst (a_cons (gv g) a_nil))) (f_v (f_lst a_nil))))
 ss_nil)) (ss_cons (gs_app g (gv g))
 ss_nil))
 ss_nil)))) ss_nil)
 ss_nil)))
 (ss_cons (gs_asg g hF (f_v (g_dict g 2 (v_o (f_v (g_lc1K [("tool", 8)] g 6 (fun s1 H1 C1 l1 f1 => (gp (Gd.blk g s1 H1 _ C1 l1 f1))) (fun s1 H1 C1 l1 f1 => ts_nil) (fun s1 H1 C1 l1 f1 => (v_tup (a_cons (v_idx (Gd.blk g s1 H1 _ C1 l1 f1) (gb (Gd.blk g s1 H1 _ C1 l1 f1)) (v_o (gv (Gd.blk g s1 H1 _ C1 l1 f1)))) (a_cons (gv (Gd.blk g s1 H1 _ C1 l1 f1)) a_nil))))))))))
 (ss_cons (s_ret (g_tuple g 12 (v_o (f_v (g_lc1 [("ask", 7)] g (i_j (gi1 g 9 (g_len g 6 (v_o (gv g))))) (fun s1 H1 C1 l1 f1 => (gp (Gd.blk g s1 H1 _ C1 l1 f1))) (fun s1 H1 C1 l1 f1 => ts_nil) (fun s1 H1 C1 l1 f1 => (g_get1 (Gd.blk g s1 H1 _ C1 l1 f1) (v_o (gv (Gd.blk g s1 H1 _ C1 l1 f1))) (gv (Gd.blk g s1 H1 _ C1 l1 f1)))))))))
 ss_nil)))))
def N_f_blocking : List Str := [("wishes" : Str), ("ranks" : Str), ("dealt_so" : Str), ("owner" : Str), ("found" : Str), ("ask" : Str), ("row" : Str), ("mine" : Str), ("tool" : Str)]
def c_f_blocking : CSs := (.cons (.asg false 3 (.bi .dict (.cons (.lc1 [5, 8] (.tup (.cons (.var 8) (.cons (.var 5) .nil))) (.tp [(.nm 5), (.nm 8)]) (.enum (.var 2)) (.cons (.cmp .isn (.var 8) .non) .nil)) .nil)))
 (.cons (.asg true 4 (.lst .nil))
 (.cons (.for_ (.tp [(.nm 5), (.nm 6)]) (.enum (.var 0)) (.cons (.asg false 7 (.ite (.cmp .isn (.idx (.var 2) (.var 5)) .non) (.met .indexT (.var 6) (.cons (.idx (.var 2) (.var 5)) .nil)) (.bi .len (.cons (.unx (.var 6)) .nil))))
 (.cons (.for_ (.nm 8) (.over (.cut (.unx (.var 6)) .nil (.cons (.var 7) .nil))) (.cons (.ife (.or_ (.cons (.cmp .nin (.var 8) (.var 3)) (.cons (.cmp .lt (.met .indexT (.idx (.var 1) (.var 8)) (.cons (.var 5) .nil)) (.met .indexT (.idx (.var 1) (.var 8)) (.cons (.idx (.var 3) (.var 8)) .nil))) .nil))) (.cons (.app 4 (.tup (.cons (.var 5) (.cons (.var 8) .nil))))
 .nil) .nil)
 .nil))
 .nil)))
 (.cons (.ret (.bi .tuple (.cons (.bi .sorted (.cons (.bor 4) .nil)) .nil)))
 .nil))))
theorem w_f_blocking {Φ : Fns} {X : Cx} (g : Gd TT Φ N_f_blocking (defScope (top 2)) X) (hF : ∀ x, X.fn x = true) : PSs_ Φ X (defBody (top 2)) c_f_blocking := (ss_cons (gs_asg g hF (f_v (g_dict g 2 (v_o (f_v (g_lc1 [("ask", 5), ("tool", 8)] g (i_j (gie g 3 (gv g))) (fun s1 H1 C1 l1 f1 => (p_tp (Gd.blk g s1 H1 _ C1 l1 f1) (ps_cons' (gp (Gd.blk g s1 H1 _ C1 l1 f1)) (ps_cons' (gp (Gd.blk g s1 H1 _ C1 l1 f1)) ps_nil')))) (fun s1 H1 C1 l1 f1 => (ts_one (t_cmp (op := .isn) (Gd.blk g s1 H1 _ C1 l1 f1) (v_o (gv (Gd.blk g s1 H1 _ C1 l1 f1))) (v_o v_non)))) (fun s1 H1 C1 l1 f1 => (v_tup (a_cons (gv (Gd.blk g s1 H1 _ C1 l1 f1)) (a_cons (gv (Gd.blk g s1 H1 _ C1 l1 f1)) a_nil))))))))))
 (ss_cons (gs_asgF g hF (f_lst a_nil))
 (ss_cons (s_for g (gie g 3 (gv g)) (p_tp g (ps_cons' (gp g (hf := .inl (hF _))) (ps_cons' (gp g (hf := .inl (hF _))) ps_nil'))) (ss_cons (gs_asg g hF (v_ite (t_cmp (op := .isn) g (v_o (v_idx g (v_o (gv g)) (v_o (gv g)))) (v_o v_non)) (g_indexT g (gv g) (v_idx g (v_o (gv g)) (v_o (gv g)))) (g_len g 6 (v_o (v_unx (gv g))))))
 (ss_cons (s_for g (i_over (v_cut (v_o (v_unx (gv g))) pt_none (pt_some (gv g)))) (gp g (hf := .inl (hF _))) (ss_cons (s_if (w_t (w_or (t_cmp (op := .nin) g (v_o (gv g)) (v_o (gv g))) (w_or1 (t_cmp (op := .lt) g (v_o (g_indexT g (v_idx g (v_o (gv g)) (v_o (gv g))) (gv g))) (v_o (g_indexT g (v_idx g (v_o (gv g)) (v_o (gv g))) (v_idx g (v_o (gv g)) (v_o (gv g))))))))) (ss_cons (gs_app g (v_tup (a_cons (gv g) (a_cons (gv g) a_nil))))
 ss_nil) ss_nil)
 ss_nil))
 ss_nil)))
 (ss_cons (s_ret (g_tuple g 12 (v_o (f_v (g_sorted g 10 (gb g))))))
 ss_nil))))
def N_f__law_draws : List Str := [("script" : Str), ("many" : Str), ("draws" : Str), ("mixed" : Str), ("k" : Str), ("cell" : Str), ("rest" : Str), ("turn" : Str)]
def c_f__law_draws : CSs := (.cons (.asg true 2 (.lst .nil))
 (.cons (.asg false 3 (.int 7))
 (.cons (.for_ (.nm 4) (.rng1 (.bi .len (.cons (.var 0) .nil))) (.cons (.asg false 5 (.bi .abs (.cons (.bi .int (.cons (.idx (.var 0) (.var 4)) .nil)) .nil)))
 (.cons (.asg false 3 (.bin .mod (.bi .int (.cons (.bin .add (.bin .add (.bin .mul (.var 3) (.int 48271)) (.bin .mod (.var 5) (.int 1000003))) (.var 4)) .nil)) (.int 65537)))
 (.cons (.asg false 6 (.int 0))
 (.cons (.ife (.cmp .ge (.var 5) (.bin .pow (.int 10) (.int 18))) (.cons (.asg false 6 (.var 5))
 .nil) (.cons (.app 2 (.bin .mod (.bi .int (.cons (.var 5) .nil)) (.int 997)))
 (.cons (.app 2 (.bin .mod (.bin .mod (.bi .int (.cons (.bin .add (.bin .mul (.var 3) (.int 69621)) (.int 5)) .nil)) (.int 65521)) (.int 997)))
 .nil)))
 (.cons (.for_ (.nm 7) (.rng1 (.int 60)) (.cons (.ife (.cmp .gt (.var 6) (.int 0)) (.cons (.app 2 (.bin .mod (.bi .int (.cons (.var 6) .nil)) (.int 997)))
 (.cons (.asg false 6 (.bin .div (.var 6) (.int 997)))
 .nil)) .nil)
 .nil))
 .nil))))))
 (.cons (.for_ (.nm 4) (.rng1 (.var 1)) (.cons (.asg false 3 (.bin .mod (.bi .int (.cons (.bin .add (.bin .add (.bin .mul (.var 3) (.int 16807)) (.var 4)) (.int 1)) .nil)) (.int 65537)))
 (.cons (.app 2 (.bin .mod (.bi .int (.cons (.var 3) .nil)) (.int 997)))
 .nil)))
 (.cons (.ret (.cut (.bor 2) .nil (.cons (.var 1) .nil)))
 .nil)))))
theorem w_f__law_draws {Φ : Fns} {X : Cx} (g : Gd TT Φ N_f__law_draws (defScope (top 4)) X) (hF : ∀ x, X.fn x = true) : PSs_ Φ X (defBody (top 4)) c_f__law_draws := (ss_cons (gs_asgF g hF (f_lst a_nil))
 (ss_cons (gs_asg g hF v_int)
 (ss_cons (s_for g (gi1 g 9 (g_len g 6 (v_o (gv g)))) (gp g (hf := .inl (hF _))) (ss_cons (gs_asg g hF (g_abs g 0 (v_o (g_int g 4 (v_o (v_idx g (v_o (gv g)) (v_o (gv g))))))))
 (ss_cons (gs_asg g hF (v_bin (op := .mod) (v_o (g_int g 4 (v_o (v_bin (op := .add) (v_o (v_bin (op := .add) (v_o (v_bin (op := .mul) (v_o (gv g)) (v_o v_int))) (v_o (v_bin (op := .mod) (v_o (gv g)) (v_o v_int))))) (v_o (gv g)))))) (v_o v_int)))
 (ss_cons (gs_asg g hF v_int)
 (ss_cons (s_if (t_cmp (op := .ge) g (v_o (gv g)) (v_o (v_bin (op := .pow) (v_o v_int) (v_o v_int)))) (ss_cons (gs_asg g hF (gv g))
 ss_nil) (ss_cons (gs_app g (v_bin (op := .mod) (v_o (g_int g 4 (v_o (gv g)))) (v_o v_int)))
 (ss_cons (gs_app g (v_bin (op := .mod) (v_o (v_bin (op := .mod) (v_o (g_int g 4 (v_o (v_bin (op := .add) (v_o (v_bin (op := .mul) (v_o (gv g)) (v_o v_int))) (v_o v_int))))) (v_o v_int))) (v_o v_int)))
 ss_nil)))
 (ss_cons (s_for g (gi1 g 9 v_int) (gp g (hf := .inl (hF _))) (ss_cons (s_if (t_cmp (op := .gt) g (v_o (gv g)) (v_o v_int)) (ss_cons (gs_app g (v_bin (op := .mod) (v_o (g_int g 4 (v_o (gv g)))) (v_o v_int)))
 (ss_cons (gs_asg g hF (v_bin (op := .div) (v_o (gv g)) (v_o v_int)))
 ss_nil)) ss_nil)
 ss_nil))
 ss_nil))))))
 (ss_cons (s_for g (gi1 g 9 (gv g)) (gp g (hf := .inl (hF _))) (ss_cons (gs_asg g hF (v_bin (op := .mod) (v_o (g_int g 4 (v_o (v_bin (op := .add) (v_o (v_bin (op := .add) (v_o (v_bin (op := .mul) (v_o (gv g)) (v_o v_int))) (v_o (gv g)))) (v_o v_int))))) (v_o v_int)))
 (ss_cons (gs_app g (v_bin (op := .mod) (v_o (g_int g 4 (v_o (gv g)))) (v_o v_int)))
 ss_nil)))
 (ss_cons (s_ret (v_cut (gb g) pt_none (pt_some (gv g))))
 ss_nil)))))
def N_f__law_next : List Str := [("w" : Str), ("many" : Str)]
def c_f__law_next : CSs := (.cons (.augI 0 (.str "at") .add (.int 1))
 (.cons (.ife (.cmp .gt (.idx (.var 0) (.str "at")) (.bi .len (.cons (.idx (.var 0) (.str "draws")) .nil))) (.cons (.ret (.int 0))
 .nil) .nil)
 (.cons (.ret (.bin .mod (.bi .int (.cons (.idx (.idx (.var 0) (.str "draws")) (.bin .sub (.idx (.var 0) (.str "at")) (.int 1))) .nil)) (.var 1)))
 .nil)))
theorem w_f__law_next {Φ : Fns} {X : Cx} (g : Gd TT Φ N_f__law_next (defScope (top 5)) X) (hF : ∀ x, X.fn x = true) : PSs_ Φ X (defBody (top 5)) c_f__law_next := (ss_cons (gs_augI (op := .add) g v_str v_int)
 (ss_cons (s_if (t_cmp (op := .gt) g (v_o (v_idx g (v_o (gv g)) (v_o v_str))) (v_o (g_len g 6 (v_o (v_idx g (v_o (gv g)) (v_o v_str)))))) (ss_cons (s_ret v_int)
 ss_nil) ss_nil)
 (ss_cons (s_ret (v_bin (op := .mod) (v_o (g_int g 4 (v_o (v_idx g (v_o (v_idx g (v_o (gv g)) (v_o v_str))) (v_o (v_bin (op := .sub) (v_o (v_idx g (v_o (gv g)) (v_o v_str))) (v_o v_int))))))) (v_o (gv g))))
 ss_nil)))
def N_f__law_pick : List Str := [("w" : Str), ("rows" : Str)]
def c_f__law_pick : CSs := (.cons (.ret (.idx (.var 1) (.call 3 (.cons (.var 0) (.cons (.bi .len (.cons (.var 1) .nil)) .nil)))))
 .nil)
theorem w_f__law_pick {Φ : Fns} {X : Cx} (g : Gd TT Φ N_f__law_pick (defScope (top 6)) X) (hF : ∀ x, X.fn x = true) : PSs_ Φ X (defBody (top 6)) c_f__law_pick := (ss_cons (s_ret (v_idx g (v_o (gv g)) (v_o (g_call g 3 (a_cons (gv g) (a_cons (g_len g 6 (v_o (gv g))) a_nil))))))
 ss_nil)
def N_f__law_alike : List Str := [("given" : Str), ("due" : Str), ("k" : Str)]
def c_f__law_alike : CSs := (.cons (.ife (.isi .ttup (.var 1)) (.cons (.ife (.or_ (.cons (.not_ (.isi .ttup (.var 0))) (.cons (.cmp .ne (.bi .len (.cons (.var 0) .nil)) (.bi .len (.cons (.var 1) .nil))) .nil))) (.cons (.ret (.bl false))
 .nil) .nil)
 (.cons (.ret (.cmp .eq (.lc1 [2] (.var 2) (.nm 2) (.rng1 (.bi .len (.cons (.var 1) .nil))) (.cons (.not_ (.call 5 (.cons (.idx (.var 0) (.var 2)) (.cons (.idx (.var 1) (.var 2)) .nil)))) .nil)) (.lst .nil)))
 .nil)) .nil)
 (.cons (.ife (.cmp .is_ (.var 1) .non) (.cons (.ret (.cmp .is_ (.var 0) .non))
 .nil) .nil)
 (.cons (.ife (.isi .tbool (.var 1)) (.cons (.ret (.and_ (.cons (.isi .tbool (.var 0)) (.cons (.cmp .eq (.var 0) (.var 1)) .nil))))
 .nil) .nil)
 (.cons (.ife (.isi .tint (.var 1)) (.cons (.ret (.and_ (.cons (.isi .tint (.var 0)) (.cons (.not_ (.isi .tbool (.var 0))) (.cons (.cmp .eq (.var 0) (.var 1)) .nil)))))
 .nil) .nil)
 (.cons (.ret (.and_ (.cons (.isi .tstr (.var 0)) (.cons (.cmp .eq (.var 0) (.var 1)) .nil))))
 .nil)))))
theorem w_f__law_alike {Φ : Fns} {X : Cx} (g : Gd TT Φ N_f__law_alike (defScope (top 7)) X) (hF : ∀ x, X.fn x = true) : PSs_ Φ X (defBody (top 7)) c_f__law_alike := (ss_cons (s_if (t_val (g_isi .ttup g 5 12 (v_o (gv g)))) (ss_cons (s_if (w_t (w_or (t_not (t_val (g_isi .ttup g 5 12 (v_o (gv g))))) (w_or1 (t_cmp (op := .ne) g (v_o (g_len g 6 (v_o (gv g)))) (v_o (g_len g 6 (v_o (gv g)))))))) (ss_cons (s_ret v_bl)
 ss_nil) ss_nil)
 (ss_cons (s_ret (v_cmp (op := .eq) g (v_o (f_v (g_lc1 [("k", 2)] g (i_j (gi1 g 9 (g_len g 6 (v_o (gv g))))) (fun s1 H1 C1 l1 f1 => (gp (Gd.blk g s1 H1 _ C1 l1 f1))) (fun s1 H1 C1 l1 f1 => (ts_one (t_not (t_val (g_call (Gd.blk g s1 H1 _ C1 l1 f1) 5 (a_cons (v_idx (Gd.blk g s1 H1 _ C1 l1 f1) (v_o (gv (Gd.blk g s1 H1 _ C1 l1 f1))) (v_o (gv (Gd.blk g s1 H1 _ C1 l1 f1)))) (a_cons (v_idx (Gd.blk g s1 H1 _ C1 l1 f1) (v_o (gv (Gd.blk g s1 H1 _ C1 l1 f1))) (v_o (gv (Gd.blk g s1 H1 _ C1 l1 f1)))) a_nil))))))) (fun s1 H1 C1 l1 f1 => (gv (Gd.blk g s1 H1 _ C1 l1 f1)))))) (v_o (f_v (f_lst a_nil)))))
 ss_nil)) ss_nil)
 (ss_cons (s_if (t_cmp (op := .is_) g (v_o (gv g)) (v_o v_non)) (ss_cons (s_ret (v_cmp (op := .is_) g (v_o (gv g)) (v_o v_non)))
 ss_nil) ss_nil)
 (ss_cons (s_if (t_val (g_isi .tbool g 5 1 (v_o (gv g)))) (ss_cons (s_ret (v_and (g_isi .tbool g 5 1 (v_o (gv g))) (v_and1 (v_cmp (op := .eq) g (v_o (gv g)) (v_o (gv g))))))
 ss_nil) ss_nil)
 (ss_cons (s_if (t_val (g_isi .tint g 5 4 (v_o (gv g)))) (ss_cons (s_ret (v_and (g_isi .tint g 5 4 (v_o (gv g))) (v_and (v_not (g_isi .tbool g 5 1 (v_o (gv g)))) (v_and1 (v_cmp (op := .eq) g (v_o (gv g)) (v_o (gv g)))))))
 ss_nil) ss_nil)
 (ss_cons (s_ret (v_and (g_isi .tstr g 5 11 (v_o (gv g))) (v_and1 (v_cmp (op := .eq) g (v_o (gv g)) (v_o (gv g))))))
 ss_nil)))))
def N_f__law_order : List Str := [("w" : Str), ("things" : Str), ("left" : Str), ("found" : Str), ("own" : Str), ("one" : Str)]
def c_f__law_order : CSs := (.cons (.par (nms [2, 3]) [false, false] (.cons (.bi .list (.cons (.var 1) .nil)) (.cons (.lst .nil) .nil)))
 (.cons (.whl (.cmp .ne (.var 2) (.lst .nil)) (.cons (.asg false 4 (.call 4 (.cons (.var 0) (.cons (.var 2) .nil))))
 (.cons (.par (nms [3, 2]) [false, false] (.cons (.bin .add (.var 3) (.lst (.cons (.var 4) .nil))) (.cons (.lc1 [5] (.var 5) (.nm 5) (.over (.var 2)) (.cons (.cmp .ne (.var 5) (.var 4)) .nil)) .nil)))
 .nil)))
 (.cons (.ret (.bi .tupX (.cons (.var 3) .nil)))
 .nil)))
theorem w_f__law_order {Φ : Fns} {X : Cx} (g : Gd TT Φ N_f__law_order (defScope (top 8)) X) (hF : ∀ x, X.fn x = true) : PSs_ Φ X (defBody (top 8)) c_f__law_order := (ss_cons (gs_par2 g (x_val (f_v (g_list g 7 (v_o (gv g)))) (x_val (f_v (f_lst a_nil)) x_nil)))
 (ss_cons (s_while g (t_cmp (op := .ne) g (v_o (gv g)) (v_o (f_v (f_lst a_nil)))) (ss_cons (gs_asg g hF (g_call g 4 (a_cons (gv g) (a_cons (gv g) a_nil))))
 (ss_cons (gs_par2 g (x_val (v_bin (op := .add) (v_o (gv g)) (v_o (f_v (f_lst (a_cons (gv g) a_nil))))) (x_val (f_v (g_lc1 [("one", 5)] g (i_j (i_over (gv g))) (fun s1 H1 C1 l1 f1 => (gp (Gd.blk g s1 H1 _ C1 l1 f1))) (fun s1 H1 C1 l1 f1 => (ts_one (t_cmp (op := .ne) (Gd.blk g s1 H1 _ C1 l1 f1) (v_o (gv (Gd.blk g s1 H1 _ C1 l1 f1))) (v_o (gv (Gd.blk g s1 H1 _ C1 l1 f1)))))) (fun s1 H1 C1 l1 f1 => (gv (Gd.blk g s1 H1 _ C1 l1 f1))))) x_nil)))
 ss_nil)))
 (ss_cons (s_ret (g_tupx g 12 (v_o (gv g))))
 ss_nil)))
def N_f__law_blocks : List Str := [("wishes" : Str), ("ranks" : Str), ("row" : Str), ("found" : Str), ("ask" : Str), ("have" : Str), ("tool" : Str), ("owner" : Str), ("k" : Str)]
def c_f__law_blocks : CSs := (.cons (.asg false 3 (.lst .nil))
 (.cons (.for_ (.nm 4) (.rng1 (.bi .len (.cons (.var 0) .nil))) (.cons (.asg false 5 (.ite (.cmp .isn (.idx (.var 2) (.var 4)) .non) (.met .indexT (.idx (.var 0) (.var 4)) (.cons (.idx (.var 2) (.var 4)) .nil)) (.bi .len (.cons (.unx (.idx (.var 0) (.var 4))) .nil))))
 (.cons (.for_ (.nm 6) (.over (.cut (.unx (.idx (.var 0) (.var 4))) .nil (.cons (.var 5) .nil))) (.cons (.asg false 7 (.lc1 [8] (.var 8) (.nm 8) (.rng1 (.bi .len (.cons (.var 2) .nil))) (.cons (.cmp .eq (.idx (.var 2) (.var 8)) (.var 6)) .nil)))
 (.cons (.asg false 3 (.bin .add (.var 3) (.ite (.or_ (.cons (.cmp .eq (.var 7) (.lst .nil)) (.cons (.cmp .lt (.met .indexT (.idx (.var 1) (.var 6)) (.cons (.var 4) .nil)) (.met .indexT (.idx (.var 1) (.var 6)) (.cons (.idx (.var 7) (.int 0)) .nil))) .nil))) (.lst (.cons (.tup (.cons (.var 4) (.cons (.var 6) .nil))) .nil)) (.lst .nil))))
 .nil)))
 .nil)))
 (.cons (.ret (.bi .sorted (.cons (.var 3) .nil)))
 .nil)))
theorem w_f__law_blocks {Φ : Fns} {X : Cx} (g : Gd TT Φ N_f__law_blocks (defScope (top 9)) X) (hF : ∀ x, X.fn x = true) : PSs_ Φ X (defBody (top 9)) c_f__law_blocks := (ss_cons (gs_asg g hF (f_v (f_lst a_nil)))
 (ss_cons (s_for g (gi1 g 9 (g_len g 6 (v_o (gv g)))) (gp g (hf := .inl (hF _))) (ss_cons (gs_asg g hF (v_ite (t_cmp (op := .isn) g (v_o (v_idx g (v_o (gv g)) (v_o (gv g)))) (v_o v_non)) (g_indexT g (v_idx g (v_o (gv g)) (v_o (gv g))) (v_idx g (v_o (gv g)) (v_o (gv g)))) (g_len g 6 (v_o (v_unx (v_idx g (v_o (gv g)) (v_o (gv g))))))))
 (ss_cons (s_for g (i_over (v_cut (v_o (v_unx (v_idx g (v_o (gv g)) (v_o (gv g))))) pt_none (pt_some (gv g)))) (gp g (hf := .inl (hF _))) (ss_cons (s_ofV (g_lc1S [("k", 8)] g (i_j (gi1 g 9 (g_len g 6 (v_o (gv g))))) (fun s1 H1 C1 l1 f1 => (gp (Gd.blk g s1 H1 _ C1 l1 f1))) (fun s1 H1 C1 l1 f1 => (ts_one (t_cmp (op := .eq) (Gd.blk g s1 H1 _ C1 l1 f1) (v_o (v_idx (Gd.blk g s1 H1 _ C1 l1 f1) (v_o (gv (Gd.blk g s1 H1 _ C1 l1 f1))) (v_o (gv (Gd.blk g s1 H1 _ C1 l1 f1))))) (v_o (gv (Gd.blk g s1 H1 _ C1 l1 f1)))))) (fun s1 H1 C1 l1 f1 => (gv (Gd.blk g s1 H1 _ C1 l1 f1)))))
 (ss_cons (gs_asg g hF (v_bin (op := .add) (v_o (gv g)) (v_o (v_ite (w_t (w_or (t_cmp (op := .eq) g (v_o (gv g)) (v_o (f_v (f_lst a_nil)))) (w_or1 (t_cmp (op := .lt) g (v_o (g_indexT g (v_idx g (v_o (gv g)) (v_o (gv g))) (gv g))) (v_o (g_indexT g (v_idx g (v_o (gv g)) (v_o (gv g))) (v_idx g (v_o (gv g)) (v_o v_int)))))))) (f_v (f_lst (a_cons (v_tup (a_cons (gv g) (a_cons (gv g) a_nil))) a_nil))) (f_v (f_lst a_nil))))))
 ss_nil)))
 ss_nil)))
 (ss_cons (s_ret (f_v (g_sorted g 10 (v_o (gv g)))))
 ss_nil)))
def N_f_law : List Str := [("script" : Str), ("w" : Str), ("turn" : Str), ("able" : Str), ("wishes" : Str), ("ranks" : Str), ("rows" : Str), ("own" : Str), ("calm" : Str), ("best" : Str), ("n" : Str), ("found" : Str), ("row" : Str), ("asks" : Str), ("tools" : Str), ("longer" : Str), ("places" : Str), ("k" : Str), ("tool" : Str)]
def c_f_law : CSs := (.cons (.asgS 1 (.dsp 0 (.cons (.str "draws") (.call 2 (.cons (.var 0) (.cons (.int 500) .nil))) (.cons (.str "at") (.int 0) .nil))))
 (.cons (.for_ (.nm 2) (.rng1 (.int 8)) (.cons (.par (nms [13, 14]) [false, false] (.cons (.call 3 (.cons (.var 1) (.cons (.int 5) .nil))) (.cons (.bin .add (.int 1) (.call 3 (.cons (.var 1) (.cons (.int 4) .nil)))) .nil)))
 (.cons (.asg false 3 (.bi .tuple (.cons (.lc1 [10] (.bi .tuple (.cons (.lc1 [17] (.var 17) (.nm 17) (.rng1 (.var 14)) (.cons (.cmp .gt (.call 3 (.cons (.var 1) (.cons (.int 3) .nil))) (.int 0)) .nil)) .nil)) (.nm 10) (.rng1 (.var 13)) .nil) .nil)))
 (.cons (.asg false 4 (.bi .tuple (.cons (.lc1 [7] (.call 6 (.cons (.var 1) (.cons (.var 7) .nil))) (.nm 7) (.over (.var 3)) .nil) .nil)))
 (.cons (.asg false 5 (.bi .tuple (.cons (.lc1 [17] (.call 6 (.cons (.var 1) (.cons (.bi .listRange (.cons (.var 13) .nil)) .nil))) (.nm 17) (.rng1 (.var 14)) .nil) .nil)))
 (.cons (.asg false 6 (.lst (.cons (.tup .nil) .nil)))
 (.cons (.for_ (.nm 7) (.over (.var 3)) (.cons (.asg false 15 (.lst .nil))
 (.cons (.for_ (.nm 12) (.over (.var 6)) (.cons (.asg false 15 (.bin .add (.var 15) (.lc1 [18] (.bin .add (.var 12) (.tup (.cons (.var 18) .nil))) (.nm 18) (.over (.bin .add (.var 7) (.tup (.cons .non .nil)))) (.cons (.or_ (.cons (.cmp .is_ (.var 18) .non) (.cons (.cmp .nin (.var 18) (.var 12)) .nil))) .nil))))
 .nil))
 (.cons (.asg false 6 (.var 15))
 .nil))))
 (.cons (.asg false 8 (.lc1 [12] (.var 12) (.nm 12) (.over (.var 6)) (.cons (.cmp .eq (.call 7 (.cons (.var 4) (.cons (.var 5) (.cons (.var 12) .nil)))) (.lst .nil)) .nil)))
 (.cons (.asg true 9 (.lst .nil))
 (.cons (.for_ (.nm 10) (.rng1 (.var 13)) (.cons (.asg false 16 (.lc1 [12] (.ite (.cmp .isn (.idx (.var 12) (.var 10)) .non) (.met .indexT (.idx (.var 4) (.var 10)) (.cons (.idx (.var 12) (.var 10)) .nil)) (.bi .len (.cons (.unx (.idx (.var 4) (.var 10))) .nil))) (.nm 12) (.over (.var 8)) .nil))
 (.cons (.app 9 (.idx (.bin .add (.unx (.idx (.var 4) (.var 10))) (.tup (.cons .non .nil))) (.bi .min (.cons (.var 16) .nil))))
 .nil)))
 (.cons (.asg false 11 (.call 0 (.cons (.var 3) (.cons (.var 4) (.cons (.var 5) .nil)))))
 (.cons (.ife (.or_ (.cons (.cmp .nin (.bi .tuple (.cons (.bor 9) .nil)) (.var 8)) (.cons (.not_ (.call 5 (.cons (.var 11) (.cons (.bi .tuple (.cons (.bor 9) .nil)) .nil)))) .nil))) (.cons (.ret (.bl false))
 .nil) .nil)
 (.cons (.for_ (.nm 12) (.over (.tup (.cons (.call 4 (.cons (.var 1) (.cons (.var 6) .nil))) (.cons (.call 4 (.cons (.var 1) (.cons (.var 6) .nil))) (.cons (.bi .tuple (.cons (.bor 9) .nil)) .nil))))) (.cons (.ife (.not_ (.call 5 (.cons (.call 1 (.cons (.var 4) (.cons (.var 5) (.cons (.var 12) .nil)))) (.cons (.bi .tuple (.cons (.call 7 (.cons (.var 4) (.cons (.var 5) (.cons (.var 12) .nil)))) .nil)) .nil)))) (.cons (.ret (.bl false))
 .nil) .nil)
 .nil))
 .nil)))))))))))))
 (.cons (.ret (.bl true))
 .nil)))
theorem w_f_law {Φ : Fns} {X : Cx} (g : Gd TT Φ N_f_law (defScope (top 10)) X) (hF : ∀ x, X.fn x = true) : PSs_ Φ X (defBody (top 10)) c_f_law := (ss_cons (gs_asgS g hF (f_dsp (d_cons v_str (g_call g 2 (a_cons (gv g) (a_cons v_int a_nil))) (d_cons v_str v_int d_nil))))
 (ss_cons (s_for g (gi1 g 9 v_int) (gp g (hf := .inl (hF _))) (ss_cons (gs_parN g (gn g hF (gn g hF n_nil)) (x_val (g_call g 3 (a_cons (gv g) (a_cons v_int a_nil))) (x_val (v_bin (op := .add) (v_o v_int) (v_o (g_call g 3 (a_cons (gv g) (a_cons v_int a_nil))))) x_nil)))
 (ss_cons (gs_asg g hF (g_tuple g 12 (v_o (f_v (g_lc1 [("n", 10)] g (i_j (gi1 g 9 (gv g))) (fun s1 H1 C1 l1 f1 => (gp (Gd.blk g s1 H1 _ C1 l1 f1))) (fun s1 H1 C1 l1 f1 => ts_nil) (fun s1 H1 C1 l1 f1 => (g_tuple (Gd.blk g s1 H1 _ C1 l1 f1) 12 (v_o (f_v (g_lc1 [("k", 17)] (Gd.blk g s1 H1 _ C1 l1 f1) (i_j (gi1 (Gd.blk g s1 H1 _ C1 l1 f1) 9 (gv (Gd.blk g s1 H1 _ C1 l1 f1)))) (fun s2 H2 C2 l2 f2 => (gp (Gd.blk (Gd.blk g s1 H1 _ C1 l1 f1) s2 H2 _ C2 l2 f2))) (fun s2 H2 C2 l2 f2 => (ts_one (t_cmp (op := .gt) (Gd.blk (Gd.blk g s1 H1 _ C1 l1 f1) s2 H2 _ C2 l2 f2) (v_o (g_call (Gd.blk (Gd.blk g s1 H1 _ C1 l1 f1) s2 H2 _ C2 l2 f2) 3 (a_cons (gv (Gd.blk (Gd.blk g s1 H1 _ C1 l1 f1) s2 H2 _ C2 l2 f2)) (a_cons v_int a_nil)))) (v_o v_int)))) (fun s2 H2 C2 l2 f2 => (gv (Gd.blk (Gd.blk g s1 H1 _ C1 l1 f1) s2 H2 _ C2 l2 f2)))))))))))))
 (ss_cons (gs_asg g hF (g_tuple g 12 (v_o (f_v (g_lc1 [("own", 7)] g (i_j (i_over (gv g))) (fun s1 H1 C1 l1 f1 => (gp (Gd.blk g s1 H1 _ C1 l1 f1))) (fun s1 H1 C1 l1 f1 => ts_nil) (fun s1 H1 C1 l1 f1 => (g_call (Gd.blk g s1 H1 _ C1 l1 f1) 6 (a_cons (gv (Gd.blk g s1 H1 _ C1 l1 f1)) (a_cons (gv (Gd.blk g s1 H1 _ C1 l1 f1)) a_nil)))))))))
 (ss_cons (gs_asg g hF (g_tuple g 12 (v_o (f_v (g_lc1 [("k", 17)] g (i_j (gi1 g 9 (gv g))) (fun s1 H1 C1 l1 f1 => (gp (Gd.blk g s1 H1 _ C1 l1 f1))) (fun s1 H1 C1 l1 f1 => ts_nil) (fun s1 H1 C1 l1 f1 => (g_call (Gd.blk g s1 H1 _ C1 l1 f1) 6 (a_cons (gv (Gd.blk g s1 H1 _ C1 l1 f1)) (a_cons (f_v (f_lrg (Gd.blk g s1 H1 _ C1 l1 f1) 7 9 (gv (Gd.blk g s1 H1 _ C1 l1 f1)))) a_nil)))))))))
 (ss_cons (gs_asg g hF (f_v (f_lst (a_cons (v_tup a_nil) a_nil))))
 (ss_cons (s_for g (i_over (gv g)) (gp g (hf := .inl (hF _))) (ss_cons (gs_asg g hF (f_v (f_lst a_nil)))
 (ss_cons (s_for g (i_over (gv g)) (gp g (hf := .inl (hF _))) (ss_cons (gs_asg g hF (v_bin (op := .add) (v_o (gv g)) (v_o (f_v (g_lc1 [("tool", 18)] g (i_j (i_over (v_bin (op := .add) (v_o (gv g)) (v_o (v_tup (a_cons v_non a_nil)))))) (fun s1 H1 C1 l1 f1 => (gp (Gd.blk g s1 H1 _ C1 l1 f1))) (fun s1 H1 C1 l1 f1 => (ts_one (w_t (w_or (t_cmp (op := .is_) (Gd.blk g s1 H1 _ C1 l1 f1) (v_o (gv (Gd.blk g s1 H1 _ C1 l1 f1))) (v_o v_non)) (w_or1 (t_cmp (op := .nin) (Gd.blk g s1 H1 _ C1 l1 f1) (v_o (gv (Gd.blk g s1 H1 _ C1 l1 f1))) (v_o (gv (Gd.blk g s1 H1 _ C1 l1 f1))))))))) (fun s1 H1 C1 l1 f1 => (v_bin (op := .add) (v_o (gv (Gd.blk g s1 H1 _ C1 l1 f1))) (v_o (v_tup (a_cons (gv (Gd.blk g s1 H1 _ C1 l1 f1)) a_nil))))))))))
 ss_nil))
 (ss_cons (gs_asg g hF (gv g))
 ss_nil))))
 (ss_cons (s_ofV (g_lc1S [("row", 12)] g (i_j (i_over (gv g))) (fun s1 H1 C1 l1 f1 => (gp (Gd.blk g s1 H1 _ C1 l1 f1))) (fun s1 H1 C1 l1 f1 => (ts_one (t_cmp (op := .eq) (Gd.blk g s1 H1 _ C1 l1 f1) (v_o (g_call (Gd.blk g s1 H1 _ C1 l1 f1) 7 (a_cons (gv (Gd.blk g s1 H1 _ C1 l1 f1)) (a_cons (gv (Gd.blk g s1 H1 _ C1 l1 f1)) (a_cons (gv (Gd.blk g s1 H1 _ C1 l1 f1)) a_nil))))) (v_o (f_v (f_lst a_nil)))))) (fun s1 H1 C1 l1 f1 => (gv (Gd.blk g s1 H1 _ C1 l1 f1)))))
 (ss_cons (gs_asgF g hF (f_lst a_nil))
 (ss_cons (s_for g (gi1 g 9 (gv g)) (gp g (hf := .inl (hF _))) (ss_cons (s_ofV (g_lc1S [("row", 12)] g (i_j (i_over (gv g))) (fun s1 H1 C1 l1 f1 => (gp (Gd.blk g s1 H1 _ C1 l1 f1))) (fun s1 H1 C1 l1 f1 => ts_nil) (fun s1 H1 C1 l1 f1 => (v_ite (t_cmp (op := .isn) (Gd.blk g s1 H1 _ C1 l1 f1) (v_o (v_idx (Gd.blk g s1 H1 _ C1 l1 f1) (v_o (gv (Gd.blk g s1 H1 _ C1 l1 f1))) (v_o (gv (Gd.blk g s1 H1 _ C1 l1 f1))))) (v_o v_non)) (g_indexT (Gd.blk g s1 H1 _ C1 l1 f1) (v_idx (Gd.blk g s1 H1 _ C1 l1 f1) (v_o (gv (Gd.blk g s1 H1 _ C1 l1 f1))) (v_o (gv (Gd.blk g s1 H1 _ C1 l1 f1)))) (v_idx (Gd.blk g s1 H1 _ C1 l1 f1) (v_o (gv (Gd.blk g s1 H1 _ C1 l1 f1))) (v_o (gv (Gd.blk g s1 H1 _ C1 l1 f1))))) (g_len (Gd.blk g s1 H1 _ C1 l1 f1) 6 (v_o (v_unx (v_idx (Gd.blk g s1 H1 _ C1 l1 f1) (v_o (gv (Gd.blk g s1 H1 _ C1 l1 f1))) (v_o (gv (Gd.blk g s1 H1 _ C1 l1 f1)))))))))))
 (ss_cons (gs_app g (v_idx g (v_o (v_bin (op := .add) (v_o (v_unx (v_idx g (v_o (gv g)) (v_o (gv g))))) (v_o (v_tup (a_cons v_non a_nil))))) (v_o (g_min g 8 (v_o (gv g))))))
 ss_nil)))
 (ss_cons (gs_asg g hF (g_call g 0 (a_cons (gv g) (a_cons (gv g) (a_cons (gv g) a_nil)))))
 (ss_cons (s_if (w_t (w_or (t_cmp (op := .nin) g (v_o (g_tuple g 12 (gb g))) (v_o (gv g))) (w_or1 (t_not (t_val (g_call g 5 (a_cons (gv g) (a_cons (g_tuple g 12 (gb g)) a_nil)))))))) (ss_cons (s_ret v_bl)
 ss_nil) ss_nil)
 (ss_cons (s_for g (i_over (v_tup (a_cons (g_call g 4 (a_cons (gv g) (a_cons (gv g) a_nil))) (a_cons (g_call g 4 (a_cons (gv g) (a_cons (gv g) a_nil))) (a_cons (g_tuple g 12 (gb g)) a_nil))))) (gp g (hf := .inl (hF _))) (ss_cons (s_if (t_not (t_val (g_call g 5 (a_cons (g_call g 1 (a_cons (gv g) (a_cons (gv g) (a_cons (gv g) a_nil)))) (a_cons (g_tuple g 12 (v_o (g_call g 7 (a_cons (gv g) (a_cons (gv g) (a_cons (gv g) a_nil)))))) a_nil))))) (ss_cons (s_ret v_bl)
 ss_nil) ss_nil)
 ss_nil))
 ss_nil)))))))))))))
 (ss_cons (s_ret v_bl)
 ss_nil)))
def DD : List Def := [⟨10, 3, c_f_stable⟩, ⟨9, 3, c_f_blocking⟩, ⟨8, 2, c_f__law_draws⟩, ⟨2, 2, c_f__law_next⟩, ⟨2, 2, c_f__law_pick⟩, ⟨3, 2, c_f__law_alike⟩, ⟨6, 2, c_f__law_order⟩, ⟨9, 3, c_f__law_blocks⟩, ⟨19, 1, c_f_law⟩]
theorem r_f_stable (n : Nat) (args : List PV) (D : DS) : sem DD (n + 1) 0 args D = (Def.mk 10 3 c_f_stable).run (sem DD n) args D := rfl
theorem r_f_blocking (n : Nat) (args : List PV) (D : DS) : sem DD (n + 1) 1 args D = (Def.mk 9 3 c_f_blocking).run (sem DD n) args D := rfl
theorem r_f__law_draws (n : Nat) (args : List PV) (D : DS) : sem DD (n + 1) 2 args D = (Def.mk 8 2 c_f__law_draws).run (sem DD n) args D := rfl
theorem r_f__law_next (n : Nat) (args : List PV) (D : DS) : sem DD (n + 1) 3 args D = (Def.mk 2 2 c_f__law_next).run (sem DD n) args D := rfl
theorem r_f__law_pick (n : Nat) (args : List PV) (D : DS) : sem DD (n + 1) 4 args D = (Def.mk 2 2 c_f__law_pick).run (sem DD n) args D := rfl
theorem r_f__law_alike (n : Nat) (args : List PV) (D : DS) : sem DD (n + 1) 5 args D = (Def.mk 3 2 c_f__law_alike).run (sem DD n) args D := rfl
theorem r_f__law_order (n : Nat) (args : List PV) (D : DS) : sem DD (n + 1) 6 args D = (Def.mk 6 2 c_f__law_order).run (sem DD n) args D := rfl
theorem r_f__law_blocks (n : Nat) (args : List PV) (D : DS) : sem DD (n + 1) 7 args D = (Def.mk 9 3 c_f__law_blocks).run (sem DD n) args D := rfl
theorem r_f_law (n : Nat) (args : List PV) (D : DS) : sem DD (n + 1) 8 args D = (Def.mk 19 1 c_f_law).run (sem DD n) args D := rfl
theorem sc_f_stable : FnScope N_f_stable [("able" : Str), ("wishes" : Str), ("ranks" : Str)] (defScope (top 1)) := ⟨rfl, rfl, rfl, by decide +kernel, rfl, by decide +kernel, by decide +kernel⟩
def D_f_stable : He.DefD := ⟨("stable", none), "stable", "stable", defArgs (top 1), defBody (top 1), defScope (top 1), [], []⟩
theorem b_f_stable {K : PySem.W.Frag} {f : Addr} {fd : FuncData} (F : FunD K "stable" "stable" (defArgs (top 1)) (defBody (top 1)) (defScope (top 1)) [] [] f fd) : Binds K fd [("able" : Str), ("wishes" : Str), ("ranks" : Str)] [] := F.bindsN fun _ _ _ _ _ _ us hl => match us, hl with | [_, _, _], _ => rfl
theorem ok_f_stable {K : PySem.W.Frag} {mg : Str → Option Value} {f : Addr} {fd : FuncData} (h : mg "stable" = some (.ref f)) (F : FunD K "stable" "stable" (defArgs (top 1)) (defBody (top 1)) (defScope (top 1)) [] [] f fd) : DefOk TT DD K mg 0 "stable" 3 := ⟨f, fd, [("able" : Str), ("wishes" : Str), ("ranks" : Str)], N_f_stable, _, _, _, _, [], c_f_stable, h, F, b_f_stable F, sc_f_stable, rfl, rfl, fun Φ X g hF => w_f_stable g hF⟩
theorem sc_f_blocking : FnScope N_f_blocking [("wishes" : Str), ("ranks" : Str), ("dealt_so" : Str)] (defScope (top 2)) := ⟨rfl, rfl, rfl, by decide +kernel, rfl, by decide +kernel, by decide +kernel⟩
def D_f_blocking : He.DefD := ⟨("blocking", none), "blocking", "blocking", defArgs (top 2), defBody (top 2), defScope (top 2), [], []⟩
theorem b_f_blocking {K : PySem.W.Frag} {f : Addr} {fd : FuncData} (F : FunD K "blocking" "blocking" (defArgs (top 2)) (defBody (top 2)) (defScope (top 2)) [] [] f fd) : Binds K fd [("wishes" : Str), ("ranks" : Str), ("dealt_so" : Str)] [] := F.bindsN fun _ _ _ _ _ _ us hl => match us, hl with | [_, _, _], _ => rfl
theorem ok_f_blocking {K : PySem.W.Frag} {mg : Str → Option Value} {f : Addr} {fd : FuncData} (h : mg "blocking" = some (.ref f)) (F : FunD K "blocking" "blocking" (defArgs (top 2)) (defBody (top 2)) (defScope (top 2)) [] [] f fd) : DefOk TT DD K mg 1 "blocking" 3 := ⟨f, fd, [("wishes" : Str), ("ranks" : Str), ("dealt_so" : Str)], N_f_blocking, _, _, _, _, [], c_f_blocking, h, F, b_f_blocking F, sc_f_blocking, rfl, rfl, fun Φ X g hF => w_f_blocking g hF⟩
theorem sc_f__law_draws : FnScope N_f__law_draws [("script" : Str), ("many" : Str)] (defScope (top 4)) := ⟨rfl, rfl, rfl, by decide +kernel, rfl, by decide +kernel, by decide +kernel⟩
def D_f__law_draws : He.DefD := ⟨("_law_draws", none), "_law_draws", "_law_draws", defArgs (top 4), defBody (top 4), defScope (top 4), [], []⟩
theorem b_f__law_draws {K : PySem.W.Frag} {f : Addr} {fd : FuncData} (F : FunD K "_law_draws" "_law_draws" (defArgs (top 4)) (defBody (top 4)) (defScope (top 4)) [] [] f fd) : Binds K fd [("script" : Str), ("many" : Str)] [] := F.bindsN fun _ _ _ _ _ _ us hl => match us, hl with | [_, _], _ => rfl
theorem ok_f__law_draws {K : PySem.W.Frag} {mg : Str → Option Value} {f : Addr} {fd : FuncData} (h : mg "_law_draws" = some (.ref f)) (F : FunD K "_law_draws" "_law_draws" (defArgs (top 4)) (defBody (top 4)) (defScope (top 4)) [] [] f fd) : DefOk TT DD K mg 2 "_law_draws" 2 := ⟨f, fd, [("script" : Str), ("many" : Str)], N_f__law_draws, _, _, _, _, [], c_f__law_draws, h, F, b_f__law_draws F, sc_f__law_draws, rfl, rfl, fun Φ X g hF => w_f__law_draws g hF⟩
theorem sc_f__law_next : FnScope N_f__law_next [("w" : Str), ("many" : Str)] (defScope (top 5)) := ⟨rfl, rfl, rfl, by decide +kernel, rfl, by decide +kernel, by decide +kernel⟩
def D_f__law_next : He.DefD := ⟨("_law_next", none), "_law_next", "_law_next", defArgs (top 5), defBody (top 5), defScope (top 5), [], []⟩
theorem b_f__law_next {K : PySem.W.Frag} {f : Addr} {fd : FuncData} (F : FunD K "_law_next" "_law_next" (defArgs (top 5)) (defBody (top 5)) (defScope (top 5)) [] [] f fd) : Binds K fd [("w" : Str), ("many" : Str)] [] := F.bindsN fun _ _ _ _ _ _ us hl => match us, hl with | [_, _], _ => rfl
theorem ok_f__law_next {K : PySem.W.Frag} {mg : Str → Option Value} {f : Addr} {fd : FuncData} (h : mg "_law_next" = some (.ref f)) (F : FunD K "_law_next" "_law_next" (defArgs (top 5)) (defBody (top 5)) (defScope (top 5)) [] [] f fd) : DefOk TT DD K mg 3 "_law_next" 2 := ⟨f, fd, [("w" : Str), ("many" : Str)], N_f__law_next, _, _, _, _, [], c_f__law_next, h, F, b_f__law_next F, sc_f__law_next, rfl, rfl, fun Φ X g hF => w_f__law_next g hF⟩
theorem sc_f__law_pick : FnScope N_f__law_pick [("w" : Str), ("rows" : Str)] (defScope (top 6)) := ⟨rfl, rfl, rfl, by decide +kernel, rfl, by decide +kernel, by decide +kernel⟩
def D_f__law_pick : He.DefD := ⟨("_law_pick", none), "_law_pick", "_law_pick", defArgs (top 6), defBody (top 6), defScope (top 6), [], []⟩
theorem b_f__law_pick {K : PySem.W.Frag} {f : Addr} {fd : FuncData} (F : FunD K "_law_pick" "_law_pick" (defArgs (top 6)) (defBody (top 6)) (defScope (top 6)) [] [] f fd) : Binds K fd [("w" : Str), ("rows" : Str)] [] := F.bindsN fun _ _ _ _ _ _ us hl => match us, hl with | [_, _], _ => rfl
theorem ok_f__law_pick {K : PySem.W.Frag} {mg : Str → Option Value} {f : Addr} {fd : FuncData} (h : mg "_law_pick" = some (.ref f)) (F : FunD K "_law_pick" "_law_pick" (defArgs (top 6)) (defBody (top 6)) (defScope (top 6)) [] [] f fd) : DefOk TT DD K mg 4 "_law_pick" 2 := ⟨f, fd, [("w" : Str), ("rows" : Str)], N_f__law_pick, _, _, _, _, [], c_f__law_pick, h, F, b_f__law_pick F, sc_f__law_pick, rfl, rfl, fun Φ X g hF => w_f__law_pick g hF⟩
theorem sc_f__law_alike : FnScope N_f__law_alike [("given" : Str), ("due" : Str)] (defScope (top 7)) := ⟨rfl, rfl, rfl, by decide +kernel, rfl, by decide +kernel, by decide +kernel⟩
def D_f__law_alike : He.DefD := ⟨("_law_alike", none), "_law_alike", "_law_alike", defArgs (top 7), defBody (top 7), defScope (top 7), [], []⟩
theorem b_f__law_alike {K : PySem.W.Frag} {f : Addr} {fd : FuncData} (F : FunD K "_law_alike" "_law_alike" (defArgs (top 7)) (defBody (top 7)) (defScope (top 7)) [] [] f fd) : Binds K fd [("given" : Str), ("due" : Str)] [] := F.bindsN fun _ _ _ _ _ _ us hl => match us, hl with | [_, _], _ => rfl
theorem ok_f__law_alike {K : PySem.W.Frag} {mg : Str → Option Value} {f : Addr} {fd : FuncData} (h : mg "_law_alike" = some (.ref f)) (F : FunD K "_law_alike" "_law_alike" (defArgs (top 7)) (defBody (top 7)) (defScope (top 7)) [] [] f fd) : DefOk TT DD K mg 5 "_law_alike" 2 := ⟨f, fd, [("given" : Str), ("due" : Str)], N_f__law_alike, _, _, _, _, [], c_f__law_alike, h, F, b_f__law_alike F, sc_f__law_alike, rfl, rfl, fun Φ X g hF => w_f__law_alike g hF⟩
theorem sc_f__law_order : FnScope N_f__law_order [("w" : Str), ("things" : Str)] (defScope (top 8)) := ⟨rfl, rfl, rfl, by decide +kernel, rfl, by decide +kernel, by decide +kernel⟩
def D_f__law_order : He.DefD := ⟨("_law_order", none), "_law_order", "_law_order", defArgs (top 8), defBody (top 8), defScope (top 8), [], []⟩
theorem b_f__law_order {K : PySem.W.Frag} {f : Addr} {fd : FuncData} (F : FunD K "_law_order" "_law_order" (defArgs (top 8)) (defBody (top 8)) (defScope (top 8)) [] [] f fd) : Binds K fd [("w" : Str), ("things" : Str)] [] := F.bindsN fun _ _ _ _ _ _ us hl => match us, hl with | [_, _], _ => rfl
theorem ok_f__law_order {K : PySem.W.Frag} {mg : Str → Option Value} {f : Addr} {fd : FuncData} (h : mg "_law_order" = some (.ref f)) (F : FunD K "_law_order" "_law_order" (defArgs (top 8)) (defBody (top 8)) (defScope (top 8)) [] [] f fd) : DefOk TT DD K mg 6 "_law_order" 2 := ⟨f, fd, [("w" : Str), ("things" : Str)], N_f__law_order, _, _, _, _, [], c_f__law_order, h, F, b_f__law_order F, sc_f__law_order, rfl, rfl, fun Φ X g hF => w_f__law_order g hF⟩
theorem sc_f__law_blocks : FnScope N_f__law_blocks [("wishes" : Str), ("ranks" : Str), ("row" : Str)] (defScope (top 9)) := ⟨rfl, rfl, rfl, by decide +kernel, rfl, by decide +kernel, by decide +kernel⟩
def D_f__law_blocks : He.DefD := ⟨("_law_blocks", none), "_law_blocks", "_law_blocks", defArgs (top 9), defBody (top 9), defScope (top 9), [], []⟩
theorem b_f__law_blocks {K : PySem.W.Frag} {f : Addr} {fd : FuncData} (F : FunD K "_law_blocks" "_law_blocks" (defArgs (top 9)) (defBody (top 9)) (defScope (top 9)) [] [] f fd) : Binds K fd [("wishes" : Str), ("ranks" : Str), ("row" : Str)] [] := F.bindsN fun _ _ _ _ _ _ us hl => match us, hl with | [_, _, _], _ => rfl
theorem ok_f__law_blocks {K : PySem.W.Frag} {mg : Str → Option Value} {f : Addr} {fd : FuncData} (h : mg "_law_blocks" = some (.ref f)) (F : FunD K "_law_blocks" "_law_blocks" (defArgs (top 9)) (defBody (top 9)) (defScope (top 9)) [] [] f fd) : DefOk TT DD K mg 7 "_law_blocks" 3 := ⟨f, fd, [("wishes" : Str), ("ranks" : Str), ("row" : Str)], N_f__law_blocks, _, _, _, _, [], c_f__law_blocks, h, F, b_f__law_blocks F, sc_f__law_blocks, rfl, rfl, fun Φ X g hF => w_f__law_blocks g hF⟩
theorem sc_f_law : FnScope N_f_law [("script" : Str)] (defScope (top 10)) := ⟨rfl, rfl, rfl, by decide +kernel, rfl, by decide +kernel, by decide +kernel⟩
def D_f_law : He.DefD := ⟨("law", none), "law", "law", defArgs (top 10), defBody (top 10), defScope (top 10), [], []⟩
theorem b_f_law {K : PySem.W.Frag} {f : Addr} {fd : FuncData} (F : FunD K "law" "law" (defArgs (top 10)) (defBody (top 10)) (defScope (top 10)) [] [] f fd) : Binds K fd [("script" : Str)] [] := F.bindsN fun _ _ _ _ _ _ us hl => match us, hl with | [_], _ => rfl
theorem ok_f_law {K : PySem.W.Frag} {mg : Str → Option Value} {f : Addr} {fd : FuncData} (h : mg "law" = some (.ref f)) (F : FunD K "law" "law" (defArgs (top 10)) (defBody (top 10)) (defScope (top 10)) [] [] f fd) : DefOk TT DD K mg 8 "law" 1 := ⟨f, fd, [("script" : Str)], N_f_law, _, _, _, _, [], c_f_law, h, F, b_f_law F, sc_f_law, rfl, rfl, fun Φ X g hF => w_f_law g hF⟩
def fn : List He.DefD := [D_f_stable, D_f_blocking, D_f__law_draws, D_f__law_next, D_f__law_pick, D_f__law_alike, D_f__law_order, D_f__law_blocks, D_f_law]
def fa : List He.Fa := [.glo "stable", .glo "blocking", .glo "_law_draws", .glo "_law_next", .glo "_law_pick", .glo "_law_alike", .glo "_law_order", .glo "_law_blocks", .glo "law", .free "abs", .free "bool", .free "dict", .free "enumerate", .free "int", .free "isinstance", .free "len", .free "list", .free "min", .free "range", .free "sorted", .free "str", .free "tuple"]
section
variable {P : Program} {w : World} {K : PySem.W.Frag} {h : Heap} {mg : Str → Option Value} {f : Addr}
theorem frees (X : K.In h) (G : h.Ns mainGlobals mg) (c : He.SaysD fa fn K) : ∀ (j : Nat) (x : Str), TT.fr[j]? = some x → mg x = none
  | 0, _, e => by cases (show some ("abs" : Str) = some _ from e); exact He.free_ok X G (c.fact 9 (f := .free "abs") rfl)
  | 1, _, e => by cases (show some ("bool" : Str) = some _ from e); exact He.free_ok X G (c.fact 10 (f := .free "bool") rfl)
  | 2, _, e => by cases (show some ("dict" : Str) = some _ from e); exact He.free_ok X G (c.fact 11 (f := .free "dict") rfl)
  | 3, _, e => by cases (show some ("enumerate" : Str) = some _ from e); exact He.free_ok X G (c.fact 12 (f := .free "enumerate") rfl)
  | 4, _, e => by cases (show some ("int" : Str) = some _ from e); exact He.free_ok X G (c.fact 13 (f := .free "int") rfl)
  | 5, _, e => by cases (show some ("isinstance" : Str) = some _ from e); exact He.free_ok X G (c.fact 14 (f := .free "isinstance") rfl)
  | 6, _, e => by cases (show some ("len" : Str) = some _ from e); exact He.free_ok X G (c.fact 15 (f := .free "len") rfl)
  | 7, _, e => by cases (show some ("list" : Str) = some _ from e); exact He.free_ok X G (c.fact 16 (f := .free "list") rfl)
  | 8, _, e => by cases (show some ("min" : Str) = some _ from e); exact He.free_ok X G (c.fact 17 (f := .free "min") rfl)
  | 9, _, e => by cases (show some ("range" : Str) = some _ from e); exact He.free_ok X G (c.fact 18 (f := .free "range") rfl)
  | 10, _, e => by cases (show some ("sorted" : Str) = some _ from e); exact He.free_ok X G (c.fact 19 (f := .free "sorted") rfl)
  | 11, _, e => by cases (show some ("str" : Str) = some _ from e); exact He.free_ok X G (c.fact 20 (f := .free "str") rfl)
  | 12, _, e => by cases (show some ("tuple" : Str) = some _ from e); exact He.free_ok X G (c.fact 21 (f := .free "tuple") rfl)
  | _ + 13, _, e => nomatch e
theorem csts (X : K.In h) (G : h.Ns mainGlobals mg) (c : He.SaysD fa fn K) : ∀ (j : Nat) (x s : Str), TT.cs[j]? = some (x, s) → ∃ t, mg x = some (.str s t)
  | _ + 0, _, _, e => nomatch e
theorem defs (X : K.In h) (G : h.Ns mainGlobals mg) (c : He.SaysD fa fn K) : ∀ (g : Nat) (x : Str) (m : Nat), TT.fns[g]? = some (x, m) → DefOk TT DD K mg g x m
  | 0, _, _, e => by
    cases (show some (("stable" : Str), 3) = some _ from e)
    obtain ⟨fd, F⟩ := c.def_ 0 (d := D_f_stable) rfl
    exact ok_f_stable (He.glo_ok X G (c.fact 0 (f := .glo "stable") rfl)) F
  | 1, _, _, e => by
    cases (show some (("blocking" : Str), 3) = some _ from e)
    obtain ⟨fd, F⟩ := c.def_ 1 (d := D_f_blocking) rfl
    exact ok_f_blocking (He.glo_ok X G (c.fact 1 (f := .glo "blocking") rfl)) F
  | 2, _, _, e => by
    cases (show some (("_law_draws" : Str), 2) = some _ from e)
    obtain ⟨fd, F⟩ := c.def_ 2 (d := D_f__law_draws) rfl
    exact ok_f__law_draws (He.glo_ok X G (c.fact 2 (f := .glo "_law_draws") rfl)) F
  | 3, _, _, e => by
    cases (show some (("_law_next" : Str), 2) = some _ from e)
    obtain ⟨fd, F⟩ := c.def_ 3 (d := D_f__law_next) rfl
    exact ok_f__law_next (He.glo_ok X G (c.fact 3 (f := .glo "_law_next") rfl)) F
  | 4, _, _, e => by
    cases (show some (("_law_pick" : Str), 2) = some _ from e)
    obtain ⟨fd, F⟩ := c.def_ 4 (d := D_f__law_pick) rfl
    exact ok_f__law_pick (He.glo_ok X G (c.fact 4 (f := .glo "_law_pick") rfl)) F
  | 5, _, _, e => by
    cases (show some (("_law_alike" : Str), 2) = some _ from e)
    obtain ⟨fd, F⟩ := c.def_ 5 (d := D_f__law_alike) rfl
    exact ok_f__law_alike (He.glo_ok X G (c.fact 5 (f := .glo "_law_alike") rfl)) F
  | 6, _, _, e => by
    cases (show some (("_law_order" : Str), 2) = some _ from e)
    obtain ⟨fd, F⟩ := c.def_ 6 (d := D_f__law_order) rfl
    exact ok_f__law_order (He.glo_ok X G (c.fact 6 (f := .glo "_law_order") rfl)) F
  | 7, _, _, e => by
    cases (show some (("_law_blocks" : Str), 3) = some _ from e)
    obtain ⟨fd, F⟩ := c.def_ 7 (d := D_f__law_blocks) rfl
    exact ok_f__law_blocks (He.glo_ok X G (c.fact 7 (f := .glo "_law_blocks") rfl)) F
  | 8, _, _, e => by
    cases (show some (("law" : Str), 1) = some _ from e)
    obtain ⟨fd, F⟩ := c.def_ 8 (d := D_f_law) rfl
    exact ok_f_law (He.glo_ok X G (c.fact 8 (f := .glo "law") rfl)) F
  | _ + 9, _, _, e => nomatch e
abbrev R : PySem.W.OpenRow := PySem.W.OpenLaw.row PySem.Challenge.rw_toolslent_k04_dealings_that_none_blocks
abbrev hk : PySem.W.Hook := He.hookD 4 fa fn
def ob (s : PySem.W.SharedT) : He.AlD := He.obsDG 4 fa fn (HandSHeadRun.getT s)
theorem ob_eq (s : PySem.W.SharedT) : ob s = hk.obs s.abs := He.obsDG_eq (HandSHeadRun.getT_eq s)
def loose : List Str := [("stable" : Str), ("blocking" : Str), ("_law_draws" : Str), ("_law_next" : Str), ("_law_pick" : Str), ("_law_alike" : Str), ("_law_order" : Str), ("_law_blocks" : Str)]
theorem run (w : World) : HandSHeadRun.RunEq R (PySem.W.view R.prog [10]) hk ob 4000 loose w := by
  intro os
  kernel_rfl
theorem facts (X : K.In h) (G : h.Ns mainGlobals mg) (hfa : mg ("law" : Str) = some (.ref f)) (c : He.SaysD fa fn K) :
    ∃ fd : FuncData, (∀ (s : Shared) (v : Value), BindsTo s fd ⟨[v], []⟩ [("script", v)]) ∧ ∀ base : Heap, K.In base → base.Ns mainGlobals mg → FnOk P w K mg base CX0 41 f fd ["script"] (spOf K (sem DD 41 8) 1) := by
  obtain ⟨fd, F⟩ := c.def_ 8 (d := D_f_law) rfl
  have e := hfa.symm.trans (He.glo_ok X G (c.fact 8 (f := .glo "law") rfl))
  cases e
  have b := FunD.bindsA (ps := ["script"]) F fun _ _ _ _ _ _ us hl => match us, hl with | [_], _ => rfl
  exact ⟨fd, fun s v => b s [v] rfl, fun base _ _ => fn_step (all_fn (defs X G c) (frees X G c) (csts X G c) 40) (frees X G c) (csts X G c) (g := 8) F sc_f_law rfl fun Φ X g hF => w_f_law g hF⟩
end
end MP.K04

/-! MP pure: how the evaluator is worked with, in plain Lean. -/
namespace MP
open PySem

section
variable {Φ : Fns} {ρ : Envi} {D : DS} {i : Nat} {a b c e k v : CE} {es : CEs}
@[simp] theorem ev_var : ev Φ (.var i) ρ D = (getS ρ i).map fun x => (x, D) := rfl
@[simp] theorem ev_bor : ev Φ (.bor i) ρ D = (borS ρ i).map fun x => (x, D) := rfl
@[simp] theorem ev_int {n : Int} : ev Φ (.int n) ρ D = some (.int n, D) := rfl
@[simp] theorem ev_bl {n : Bool} : ev Φ (.bl n) ρ D = some (.bl n, D) := rfl
@[simp] theorem ev_non : ev Φ .non ρ D = some (.non, D) := rfl
@[simp] theorem ev_str {s : Str} : ev Φ (.str s) ρ D = some (.str s, D) := rfl
@[simp] theorem ev_cst {x s : Str} : ev Φ (.cst x s) ρ D = some (.str s, D) := rfl
@[simp] theorem ev_tup : ev Φ (.tup es) ρ D = (evs Φ es ρ D).map fun r => (.tup r.1, r.2) := rfl
@[simp] theorem ev_lst : ev Φ (.lst es) ρ D = (evs Φ es ρ D).map fun r => (.lst r.1, r.2) := rfl
@[simp] theorem ev_dsp {t : Nat} {ps : CPs} : ev Φ (.dsp t ps) ρ D = (evd Φ ps ρ D).bind fun r => if (r.1.all fun p => isKey t p.1) then some (.dct t (dMerge [] r.1), r.2) else none := rfl
@[simp] theorem ev_bin {op : Bo} : ev Φ (.bin op a b) ρ D = (ev Φ a ρ D).bind fun r => (ev Φ b ρ r.2).bind fun q => (pBin op r.1 q.1).map fun z => (z, q.2) := rfl
@[simp] theorem ev_neg : ev Φ (.neg a) ρ D = (ev Φ a ρ D).bind fun r => (pNeg r.1).map fun z => (z, r.2) := rfl
@[simp] theorem ev_cmp {op : Co} : ev Φ (.cmp op a b) ρ D = (ev Φ a ρ D).bind fun r => (ev Φ b ρ r.2).bind fun q => (opd q.2 q.1).bind fun o => (pCmp op r.1 o).map fun z => (.bl z, q.2) := rfl
@[simp] theorem ev_chn {op op2 : Co} : ev Φ (.chn op op2 a b c) ρ D = (ev Φ a ρ D).bind fun r => (ev Φ b ρ r.2).bind fun q => (pCmp op r.1 q.1).bind fun z => if z then (ev Φ c ρ q.2).bind fun t => (pCmp op2 q.1 t.1).map fun y => (.bl y, t.2) else some (.bl false, q.2) := rfl
@[simp] theorem ev_and : ev Φ (.and_ es) ρ D = evand Φ es ρ D := rfl
@[simp] theorem ev_or : ev Φ (.or_ es) ρ D = evor Φ es ρ D := rfl
@[simp] theorem ev_not : ev Φ (.not_ a) ρ D = (ev Φ a ρ D).bind fun r => (blOf r.1).map fun z => (.bl (!z), r.2) := rfl
@[simp] theorem ev_ite : ev Φ (.ite c a b) ρ D = (ev Φ c ρ D).bind fun r => (blOf r.1).bind fun z => if z then ev Φ a ρ r.2 else ev Φ b ρ r.2 := rfl
@[simp] theorem ev_idx : ev Φ (.idx a k) ρ D = (ev Φ a ρ D).bind fun r => (ev Φ k ρ r.2).bind fun q => (opd q.2 r.1).bind fun o => (pIdx o q.1).map fun z => (z, q.2) := rfl
@[simp] theorem ev_cut {lo hi : CEs} : ev Φ (.cut a lo hi) ρ D = (ev Φ a ρ D).bind fun r => (evo Φ lo ρ r.2).bind fun l => (evo Φ hi ρ l.2).bind fun h => (pCut r.1 l.1 h.1).map fun z => (z, h.2) := rfl
@[simp] theorem ev_rev : ev Φ (.rev a) ρ D = (ev Φ a ρ D).bind fun r => (pRev r.1).map fun z => (z, r.2) := rfl
@[simp] theorem ev_call {g : Nat} : ev Φ (.call g es) ρ D = (evs Φ es ρ D).bind fun r => Φ g r.1 r.2 := rfl
@[simp] theorem ev_bi {b : Bi} : ev Φ (.bi b es) ρ D = (evs Φ es ρ D).bind fun r => (mapO (opd r.2) r.1).bind fun xs => (pBi b xs).map fun z => (z, r.2) := rfl
@[simp] theorem ev_isi {t : Ty} : ev Φ (.isi t a) ρ D = (ev Φ a ρ D).bind fun r => (pIs t r.1).map fun z => (.bl z, r.2) := rfl
@[simp] theorem ev_met {m : Me} : ev Φ (.met m a es) ρ D = (ev Φ a ρ D).bind fun r => (evs Φ es ρ r.2).bind fun q => (pMe m r.1 q.1).map fun z => (z, q.2) := rfl
@[simp] theorem ev_inr : ev Φ (.inr e a b) ρ D = (ev Φ e ρ D).bind fun r => (ev Φ a ρ r.2).bind fun q => (ev Φ b ρ q.2).bind fun t => (intOf r.1).bind fun i => (intOf q.1).bind fun m => (intOf t.1).map fun n => (.bl (decide (m ≤ i ∧ i < n)), t.2) := rfl
@[simp] theorem evs_nil : evs Φ .nil ρ D = some ([], D) := rfl
@[simp] theorem evs_cons : evs Φ (.cons e es) ρ D = (ev Φ e ρ D).bind fun r => (evs Φ es ρ r.2).map fun q => (r.1 :: q.1, q.2) := rfl
@[simp] theorem evd_nil : evd Φ .nil ρ D = some ([], D) := rfl
@[simp] theorem evd_cons {r : CPs} : evd Φ (.cons k v r) ρ D = (ev Φ k ρ D).bind fun x => (ev Φ v ρ x.2).bind fun q => (evd Φ r ρ q.2).map fun z => ((x.1, q.1) :: z.1, z.2) := rfl
@[simp] theorem evand_one : evand Φ (.cons e .nil) ρ D = ev Φ e ρ D := rfl
@[simp] theorem evand_cons {f : CE} : evand Φ (.cons e (.cons f es)) ρ D = (ev Φ e ρ D).bind fun r => (blOf r.1).bind fun z => if z then evand Φ (.cons f es) ρ r.2 else some (.bl false, r.2) := rfl
@[simp] theorem evor_one : evor Φ (.cons e .nil) ρ D = ev Φ e ρ D := rfl
@[simp] theorem evor_cons {f : CE} : evor Φ (.cons e (.cons f es)) ρ D = (ev Φ e ρ D).bind fun r => (blOf r.1).bind fun z => if z then some (.bl true, r.2) else evor Φ (.cons f es) ρ r.2 := rfl
@[simp] theorem evo_nil : evo Φ .nil ρ D = some (none, D) := rfl
@[simp] theorem evo_one : evo Φ (.cons e .nil) ρ D = (ev Φ e ρ D).bind fun r => (intOf r.1).map fun i => (some i, r.2) := rfl
@[simp] theorem evt_nil : evt Φ .nil ρ D = some (true, D) := rfl
@[simp] theorem evt_one : evt Φ (.cons e .nil) ρ D = (ev Φ e ρ D).bind fun r => (blOf r.1).map fun z => (z, r.2) := rfl
@[simp] theorem evi_over : evi Φ (.over e) ρ D = (ev Φ e ρ D).bind fun r => (itOf r.1).map fun xs => (xs, r.2) := rfl
@[simp] theorem evi_rng1 : evi Φ (.rng1 a) ρ D = (ev Φ a ρ D).bind fun r => (intOf r.1).bind fun n => if rngOk 0 n then some (rngL 0 n, r.2) else none := rfl
@[simp] theorem evi_rng2 : evi Φ (.rng2 a b) ρ D = (ev Φ a ρ D).bind fun r => (ev Φ b ρ r.2).bind fun q => (intOf r.1).bind fun m => (intOf q.1).bind fun n => if rngOk m n then some (rngL m n, q.2) else none := rfl
@[simp] theorem evi_enum : evi Φ (.enum e) ρ D = (ev Φ e ρ D).bind fun r => (seqOf r.1).map fun xs => (enumL xs, r.2) := rfl
@[simp] theorem evi_zip : evi Φ (.zip a b) ρ D = (ev Φ a ρ D).bind fun r => (ev Φ b ρ r.2).bind fun q => (zipOf r.1 q.1).map fun xs => (xs, q.2) := rfl
@[simp] theorem evi_keys : evi Φ (.keys i) ρ D = ((borS ρ i).bind keysOf).map fun xs => (xs, D) := rfl
end
/-- one turn of a comprehension with one clause -/
def st1 (Φ : Fns) (own : List Nat) (ce : CE) (pt : Pat) (ct : CEs) (ρ : Envi) : PV → DS → Option (List PV × DS) := fun x D1 =>
  (bindP pt x (wipE ρ own)).bind fun ρ1 => (evt Φ ct ρ1 D1).bind fun c => if c.1 then (ev Φ ce ρ1 c.2).map fun y => ([y.1], y.2) else some ([], c.2)
theorem ev_lc1 {Φ : Fns} {ρ : Envi} {D : DS} {own : List Nat} {ce : CE} {pt : Pat} {ci : CI} {ct : CEs} : ev Φ (.lc1 own ce pt ci ct) ρ D = (evi Φ ci ρ D).bind fun r => (lcF (st1 Φ own ce pt ct ρ) r.1 r.2).map fun q => (.lst q.1, q.2) := rfl
/-- a comprehension that changes nothing: what stands, and its value -/
theorem lcF_pure {f : PV → DS → Option (List PV × DS)} {D : DS} {h : PV → List PV} : ∀ {xs : List PV}, (∀ x ∈ xs, f x D = some (h x, D)) → lcF f xs D = some (xs.flatMap h, D)
  | [], _ => rfl
  | x :: xs, H => by
    rw [lcF, H x List.mem_cons_self, Option.bind_some, lcF_pure fun y hy => H y (List.mem_cons_of_mem _ hy)]
    rfl
theorem flatMap_if {α β : Type} (xs : List α) (p : α → Bool) (f : α → β) : (xs.flatMap fun x => if p x then [f x] else []) = (xs.filter p).map f := by
  induction xs with
  | nil => rfl
  | cons x xs ih =>
    rw [List.flatMap_cons, ih]
    by_cases h : p x = true
    · simp [h]
    · simp [h]
/-- .. over ints: the test and the value -/
theorem lc_ints {f : PV → DS → Option (List PV × DS)} {D : DS} {ns : List Int} {p : Int → Bool} {g : Int → PV} (H : ∀ n ∈ ns, f (.int n) D = some (if p n then [g n] else [], D)) : lcF f (ns.map .int) D = some ((ns.filter p).map g, D) := by
  rw [lcF_pure (h := fun x => match x with | .int n => if p n then [g n] else [] | _ => [])]
  · rw [List.flatMap_map, ← flatMap_if]
  · intro x hx
    obtain ⟨n, hn, rfl⟩ := List.mem_map.mp hx
    exact H n hn
/-- with some state threaded -/
theorem lcF_inv {f : PV → DS → Option (List PV × DS)} (I : DS → Prop) (R : PV → List PV → Prop) : ∀ {xs : List PV} {D : DS}, I D → (∀ x ∈ xs, ∀ D, I D → ∃ l D', f x D = some (l, D') ∧ I D' ∧ R x l) → ∃ ls D', lcF f xs D = some (ls.flatten, D') ∧ I D' ∧ ls.length = xs.length ∧ ∀ p ∈ xs.zip ls, R p.1 p.2
  | [], D, h, _ => ⟨[], D, rfl, h, rfl, fun p hp => absurd hp (by simp)⟩
  | x :: xs, D, h, H => by
    obtain ⟨l, D1, e1, h1, r1⟩ := H x List.mem_cons_self D h
    obtain ⟨ls, D2, e2, h2, hl, r2⟩ := lcF_inv I R h1 fun y hy => H y (List.mem_cons_of_mem _ hy)
    refine ⟨l :: ls, D2, ?_, h2, by simp [hl], fun p hp => ?_⟩
    · rw [lcF, e1, Option.bind_some, e2, Option.bind_some, List.flatten_cons]
    · rw [List.zip_cons_cons] at hp
      rcases List.mem_cons.mp hp with e | hp
      · rw [e]; exact r1
      · exact r2 p hp
/-! ### statements, a step at a time -/
section
variable {Φ : Fns} {ρ ρ1 : Envi} {D D1 : DS} {s : CS} {r : CSs} {R : XR}
theorem xs_nx (h : ex Φ s ρ D = some (.nx, ρ1, D1)) : exs Φ (.cons s r) ρ D = exs Φ r ρ1 D1 := by
  show (ex Φ s ρ D).bind _ = _
  rw [h]
  rfl
theorem xs_rt {x : PV} (h : ex Φ s ρ D = some (.rt x, ρ1, D1)) : exs Φ (.cons s r) ρ D = some (.rt x, ρ1, D1) := by
  show (ex Φ s ρ D).bind _ = _
  rw [h]
  rfl
@[simp] theorem exs_nil : exs Φ .nil ρ D = some (.nx, ρ, D) := rfl
@[simp] theorem exs_frz {is : List Nat} : exs Φ (.frz is r) ρ D = exs Φ r (frzL ρ is) D := rfl
@[simp] theorem exs_cons : exs Φ (.cons s r) ρ D = (ex Φ s ρ D).bind fun q => match q.1 with
    | .nx => exs Φ r q.2.1 q.2.2
    | _ => some q := rfl
variable {i : Nat} {e k c : CE} {a b : CSs} {op : Bo} {o : Bool}
@[simp] theorem ex_asg : ex Φ (.asg o i e) ρ D = (ev Φ e ρ D).map fun r => (.nx, ρ.set i (some (o, r.1)), r.2) := rfl
@[simp] theorem ex_asgP {p : Pat} : ex Φ (.asgP p e) ρ D = (ev Φ e ρ D).bind fun r => (bindP p r.1 ρ).map fun ρ1 => (.nx, ρ1, r.2) := rfl
@[simp] theorem ex_asgS : ex Φ (.asgS i e) ρ D = (ev Φ e ρ D).map fun r => (.nx, ρ.set i (some (false, .shr r.2.length)), r.2 ++ [r.1]) := rfl
@[simp] theorem ex_par {ts : List Tg} {os : List Bool} {es : CEs} : ex Φ (.par ts os es) ρ D = (evs Φ es ρ D).bind fun r => (storeT Φ ts os r.1 ρ r.2).map fun q => (.nx, q.1, q.2) := rfl
@[simp] theorem ex_aug : ex Φ (.aug i op e) ρ D = (getS ρ i).bind fun x => (ev Φ e ρ D).bind fun r => (pIp op x r.1).map fun z => (.nx, ρ.set i (some (false, z)), r.2) := rfl
@[simp] theorem ex_setI : ex Φ (.setI i k e) ρ D = (ev Φ e ρ D).bind fun r => (ev Φ k ρ r.2).bind fun q => (chg (fun y => pSet y q.1 r.1) i ρ q.2).map fun z => (.nx, z.1, z.2) := rfl
@[simp] theorem ex_augI : ex Φ (.augI i k op e) ρ D = (ev Φ k ρ D).bind fun q => (borS ρ i).bind fun c => (opd q.2 c).bind fun o => (if isLD o then pIdx o q.1 else none).bind fun old => (ev Φ e ρ q.2).bind fun r => (pIp op old r.1).bind fun z =>
      (chg (fun y => pSet y q.1 z) i ρ r.2).map fun t => (.nx, t.1, t.2) := rfl
@[simp] theorem ex_app : ex Φ (.app i e) ρ D = (ev Φ e ρ D).bind fun r => (chgO (pApp r.1) i ρ r.2).map fun z => (.nx, z.1, z.2) := rfl
@[simp] theorem ex_ext : ex Φ (.ext i e) ρ D = (ev Φ e ρ D).bind fun r => (chgO (pExt r.1) i ρ r.2).map fun z => (.nx, z.1, z.2) := rfl
@[simp] theorem ex_ins : ex Φ (.ins i k e) ρ D = (ev Φ k ρ D).bind fun q => (ev Φ e ρ q.2).bind fun r => (chgO (pInsAt q.1 r.1) i ρ r.2).map fun z => (.nx, z.1, z.2) := rfl
@[simp] theorem ex_rem : ex Φ (.rem i e) ρ D = (ev Φ e ρ D).bind fun r => (chgO (pRem r.1) i ρ r.2).map fun z => (.nx, z.1, z.2) := rfl
theorem ex_whl : ex Φ (.whl c b) ρ D = whlL (fun ρ D => (ev Φ c ρ D).bind fun r => (blOf r.1).map fun z => (z, r.2)) (fun ρ D => exs Φ b ρ D) WH ρ D := rfl
theorem ex_pop0 {p : Pat} : ex Φ (.pop0 p i) ρ D = match ρ[i]? with
    | some (some (true, .lst (y :: xs))) => (bindP p y (ρ.set i (some (true, .lst xs)))).map fun ρ1 => (.nx, ρ1, D)
    | _ => none := rfl
@[simp] theorem ex_expr : ex Φ (.expr e) ρ D = (ev Φ e ρ D).map fun r => (.nx, ρ, r.2) := rfl
@[simp] theorem ex_ret : ex Φ (.ret e) ρ D = (ev Φ e ρ D).map fun r => (.rt r.1, ρ, r.2) := rfl
@[simp] theorem ex_retN : ex Φ .retN ρ D = some (.rt .non, ρ, D) := rfl
@[simp] theorem ex_ife : ex Φ (.ife c a b) ρ D = (ev Φ c ρ D).bind fun r => (blOf r.1).bind fun z => if z then exs Φ a ρ r.2 else exs Φ b ρ r.2 := rfl
@[simp] theorem ex_brk : ex Φ .brk ρ D = some (.bk, ρ, D) := rfl
@[simp] theorem ex_cnt : ex Φ .cnt ρ D = some (.ct, ρ, D) := rfl
@[simp] theorem ex_pass : ex Φ .pass ρ D = some (.nx, ρ, D) := rfl
theorem ex_for {p : Pat} {it : CI} : ex Φ (.for_ p it b) ρ D = (evi Φ it ρ D).bind fun r => forL (fun x ρ D => (bindP p x ρ).bind fun ρ1 => exs Φ b ρ1 D) r.1 ρ r.2 := rfl
end
theorem run_rt {Φ : Fns} {d : Def} {args : List PV} {D D' : DS} {x : PV} {ρ' : Envi} (hl : args.length = d.np) (h : exs Φ d.body (args.map (fun x => some (false, x)) ++ List.replicate (d.nn - d.np) none) D = some (.rt x, ρ', D')) (hD : D'.length = D.length) : d.run Φ args D = some (x, D') := by
  unfold Def.run
  rw [if_pos hl, h, Option.bind_some]
  show (some x).bind _ = _
  rw [Option.bind_some, if_pos hD]
/-- a loop that ends by itself: an invariant by the items done -/
theorem for_inv {f : PV → Envi → DS → XR} {xs : List PV} (I : Nat → Envi → DS → Prop) {ρ : Envi} {D : DS} (h0 : I 0 ρ D) (hs : ∀ (i : Nat) (x : PV) (ρ : Envi) (D : DS), xs[i]? = some x → I i ρ D → ∃ o ρ' D', f x ρ D = some (o, ρ', D') ∧ (o = .nx ∨ o = .ct) ∧ I (i + 1) ρ' D') :
    ∃ ρ' D', forL f xs ρ D = some (.nx, ρ', D') ∧ I xs.length ρ' D' := by
  induction xs generalizing I ρ D with
  | nil => exact ⟨ρ, D, rfl, h0⟩
  | cons x xs ih =>
    obtain ⟨o, ρ1, D1, e1, ho, h1⟩ := hs 0 x ρ D rfl h0
    obtain ⟨ρ2, D2, e2, h2⟩ := ih (fun i => I (i + 1)) h1 fun i y ρ D hy hI => hs (i + 1) y ρ D (by simpa using hy) hI
    refine ⟨ρ2, D2, ?_, by simpa using h2⟩
    rw [forL, e1, Option.bind_some]
    rcases ho with rfl | rfl
    · exact e2
    · exact e2
/-- a while loop: an invariant by a measure -/
theorem while_inv {c : Envi → DS → Option (Bool × DS)} {f : Envi → DS → XR} {P : Envi → DS → Prop} (I : Nat → Envi → DS → Prop) (hs : ∀ (m : Nat) (ρ : Envi) (D : DS), I m ρ D → (∃ D', c ρ D = some (false, D') ∧ P ρ D') ∨ ∃ D1 ρ' D' m', c ρ D = some (true, D1) ∧ m = m' + 1 ∧ f ρ D1 = some (.nx, ρ', D') ∧ I m' ρ' D') :
    ∀ (m n : Nat) (ρ : Envi) (D : DS), m < n → I m ρ D → ∃ ρ' D', whlL c f n ρ D = some (.nx, ρ', D') ∧ P ρ' D' := by
  intro m
  induction m with
  | zero =>
    intro n ρ D hn h
    cases n with
    | zero => omega
    | succ n =>
      rcases hs 0 ρ D h with ⟨D', e, p⟩ | ⟨D1, ρ', D', m', e, z, _, _⟩
      · refine ⟨ρ, D', ?_, p⟩
        rw [whlL, e, Option.bind_some]
        rfl
      · omega
  | succ m ih =>
    intro n ρ D hn h
    cases n with
    | zero => omega
    | succ n =>
      rcases hs (m + 1) ρ D h with ⟨D', e, p⟩ | ⟨D1, ρ', D', m', e, z, e2, h2⟩
      · refine ⟨ρ, D', ?_, p⟩
        rw [whlL, e, Option.bind_some]
        rfl
      · obtain rfl : m' = m := by omega
        obtain ⟨ρ2, D2, e3, p⟩ := ih n ρ' D' (by omega) h2
        refine ⟨ρ2, D2, ?_, p⟩
        rw [whlL, e, Option.bind_some]
        show ((f ρ D1).bind _) = _
        rw [e2, Option.bind_some]
        exact e3
/-! ### values -/
section
variable {D : DS}
@[simp] theorem opd_int {i : Int} : opd D (.int i) = some (.int i) := rfl
@[simp] theorem opd_bl {i : Bool} : opd D (.bl i) = some (.bl i) := rfl
@[simp] theorem opd_non : opd D .non = some .non := rfl
@[simp] theorem opd_str {i : Str} : opd D (.str i) = some (.str i) := rfl
@[simp] theorem opd_lst {i : List PV} : opd D (.lst i) = some (.lst i) := rfl
@[simp] theorem opd_tup {i : List PV} : opd D (.tup i) = some (.tup i) := rfl
@[simp] theorem opd_dct {t : Nat} {i : List (PV × PV)} : opd D (.dct t i) = some (.dct t i) := rfl
@[simp] theorem opd_scr {i : List Int} : opd D (.scr i) = some (.scr i) := rfl
@[simp] theorem mapO_nil {α β : Type} {f : α → Option β} : mapO f [] = some [] := rfl
@[simp] theorem mapO_cons {α β : Type} {f : α → Option β} {x : α} {xs : List α} : mapO f (x :: xs) = (f x).bind fun y => (mapO f xs).bind fun ys => some (y :: ys) := rfl
@[simp] theorem blOf_bl {b : Bool} : blOf (.bl b) = some b := rfl
@[simp] theorem intOf_int {b : Int} : intOf (.int b) = some b := rfl
@[simp] theorem seqOf_lst {b : List PV} : seqOf (.lst b) = some b := rfl
@[simp] theorem seqOf_tup {b : List PV} : seqOf (.tup b) = some b := rfl
@[simp] theorem itOf_lst {b : List PV} : itOf (.lst b) = some b := rfl
@[simp] theorem itOf_tup {b : List PV} : itOf (.tup b) = some b := rfl
end
section
variable {ns ms : List Int} {i j : Int}
theorem shp_ints {n : Nat} : ∀ ns : List Int, (ns.map PV.int).all (shp n) = true
  | [] => rfl
  | _ :: r => by rw [List.map_cons, List.all_cons, shp_ints r]; cases n <;> rfl
@[simp] theorem shp_int {n : Nat} : shp n (.int i) = true := by cases n <;> rfl
@[simp] theorem shp_bl {n : Nat} {b : Bool} : shp n (.bl b) = true := by cases n <;> rfl
@[simp] theorem shp_non {n : Nat} : shp n .non = true := by cases n <;> rfl
@[simp] theorem peq_int : peq (.int i) (.int j) = (i == j) := by rw [peq]
theorem any_peq : ∀ ns : List Int, ((ns.map PV.int).any fun y => peq y (.int i)) = decide (i ∈ ns)
  | [] => rfl
  | n :: r => by
    rw [List.map_cons, List.any_cons, any_peq r, peq_int]
    by_cases h : n = i
    · subst h; simp
    · have : ¬ i = n := fun e => h e.symm
      simp [h, this]
@[simp] theorem pIn_tup : pIn (.int i) (.tup (ns.map .int)) = some (decide (i ∈ ns)) := by
  show (if (shp DEP (.int i) && (ns.map PV.int).all (shp DEP)) = true then some ((ns.map PV.int).any fun y => peq y (.int i)) else none) = _
  rw [shp_int, shp_ints, any_peq]; rfl
@[simp] theorem pIn_lst : pIn (.int i) (.lst (ns.map .int)) = some (decide (i ∈ ns)) := by
  show (if (shp DEP (.int i) && (ns.map PV.int).all (shp DEP)) = true then some ((ns.map PV.int).any fun y => peq y (.int i)) else none) = _
  rw [shp_int, shp_ints, any_peq]; rfl
@[simp] theorem pEq_int : pEq (.int i) (.int j) = some (i == j) := by
  show (if (shp DEP (.int i) && shp DEP (.int j)) = true then some (peq (.int i) (.int j)) else none) = _
  simp
@[simp] theorem pLt_int : pLt (.int i) (.int j) = some (decide (i < j)) := by
  show (if (shp DEP (.int i) && shp DEP (.int j) && cmpOk (.int i) (.int j)) = true then some (plt (.int i) (.int j)) else none) = _
  simp [cmpOk, plt]
/-- the ints a .. b - 1 -/
def rg (a b : Int) : List Int := (List.range (b - a).toNat).map fun (k : Nat) => a + k
theorem rngL_rg (a b : Int) : rngL a b = (rg a b).map .int := by unfold rngL rg; rw [List.map_map]; rfl
theorem mem_rg {a b x : Int} : x ∈ rg a b ↔ a ≤ x ∧ x < b := by
  unfold rg
  rw [List.mem_map]
  constructor
  · rintro ⟨k, hk, rfl⟩
    have := List.mem_range.mp hk
    omega
  · rintro ⟨h1, h2⟩
    exact ⟨(x - a).toNat, List.mem_range.mpr (by omega), by omega⟩
end
end MP

/-! MP law: the defs that all laws share. -/
namespace MP
open PySem

/-! ### draws -/
/-- the law's dict of draws -/
def wD (ds : List Int) (at_ : Int) : PV := .dct 0 [(.str "draws", .lst (ds.map .int)), (.str "at", .int at_)]
def Wst (D : DS) : Prop := ∃ (ds : List Int) (at_ : Int), D = [wD ds at_] ∧ 0 ≤ at_ ∧ ∀ d ∈ ds, 0 ≤ d
def cNext : CSs := (.cons (.augI 0 (.str "at") .add (.int 1))
 (.cons (.ife (.cmp .gt (.idx (.var 0) (.str "at")) (.bi .len (.cons (.idx (.var 0) (.str "draws")) .nil))) (.cons (.ret (.int 0))
 .nil) .nil)
 (.cons (.ret (.bin .mod (.bi .int (.cons (.idx (.idx (.var 0) (.str "draws")) (.bin .sub (.idx (.var 0) (.str "at")) (.int 1))) .nil)) (.var 1)))
 .nil)))
theorem k1 : peq (.str "draws") (.str "at") = false := by decide +kernel
theorem k2 : peq (.str "draws") (.str "draws") = true := by decide +kernel
theorem k3 : peq (.str "at") (.str "at") = true := by decide +kernel
theorem k4 : peq (.str "at") (.str "draws") = false := by decide +kernel
theorem idx_at (ds : List Int) (a : Int) : pIdx (wD ds a) (.str "at") = some (.int a) := by
  show (if isKey 0 (.str "at") = true then dGet (.str "at") _ else none) = _
  rw [if_pos (show isKey 0 (.str "at") = true from rfl), dGet, k1, if_neg Bool.false_ne_true, dGet, k3]
  rfl
theorem idx_dr (ds : List Int) (a : Int) : pIdx (wD ds a) (.str "draws") = some (.lst (ds.map .int)) := by
  show (if isKey 0 (.str "draws") = true then dGet (.str "draws") _ else none) = _
  rw [if_pos (show isKey 0 (.str "draws") = true from rfl), dGet, k2]
  rfl
theorem set_at (ds : List Int) (a b : Int) : pSet (wD ds a) (.str "at") (.int b) = some (wD ds b) := by
  show (if (isKey 0 (.str "at") && decide (2 < LIM)) = true then some (PV.dct 0 (dPut (.str "at") (.int b) _)) else none) = _
  rw [if_pos (by decide)]
  unfold dPut
  simp [k1, k3, wD]
theorem isLD_w (ds : List Int) (a : Int) : isLD (wD ds a) = true := rfl
theorem opd_w (ds : List Int) (a : Int) : opd [wD ds a] (.shr 0) = some (wD ds a) := rfl
theorem ixN_ok {n : Nat} {i : Int} (h0 : 0 ≤ i) (h1 : i < n) : ixN n i = some i.toNat := by
  unfold ixN
  rw [if_pos h0, if_pos h1]
theorem next_ok {Φ : Fns} {D : DS} {m : Int} (h : Wst D) (hm : 0 < m) : ∃ r D', (Def.mk 2 2 cNext).run Φ [.shr 0, .int m] D = some (.int r, D') ∧ 0 ≤ r ∧ r < m ∧ Wst D' := by
  obtain ⟨ds, a, rfl, ha, hd⟩ := h
  have e1 : ex Φ (.augI 0 (.str "at") .add (.int 1)) [some (false, .shr 0), some (false, .int m)] [wD ds a] = some (.nx, [some (false, .shr 0), some (false, .int m)], [wD ds (a + 1)]) := by
    simp [borS, opd_w, isLD_w, idx_at, pIp, chg, set_at]
  by_cases hl : a + 1 > ds.length
  · refine ⟨0, [wD ds (a + 1)], ?_, Int.le_refl _, hm, ds, a + 1, rfl, by omega, hd⟩
    refine run_rt (ρ' := [some (false, .shr 0), some (false, .int m)]) rfl ?_ rfl
    show exs Φ cNext [some (false, .shr 0), some (false, .int m)] _ = _
    unfold cNext
    rw [xs_nx e1]
    have e2 : ev Φ (.cmp .gt (.idx (.var 0) (.str "at")) (.bi .len (.cons (.idx (.var 0) (.str "draws")) .nil))) [some (false, .shr 0), some (false, .int m)] [wD ds (a + 1)] = some (.bl true, [wD ds (a + 1)]) := by
      simp [getS, opd_w, idx_at, idx_dr, pBi, pCmp]
      omega
    rw [exs_cons, ex_ife, e2]
    rfl
  · have hr : ∃ d, ds[a.toNat]? = some d := ⟨ds[a.toNat]'(by omega), List.getElem?_eq_getElem _⟩
    obtain ⟨d, hdd⟩ := hr
    have hd0 := hd d (List.mem_of_getElem? hdd)
    refine ⟨d.fmod m, [wD ds (a + 1)], ?_, Int.fmod_nonneg_of_pos _ hm, Int.fmod_lt_of_pos _ hm, ds, a + 1, rfl, by omega, hd⟩
    refine run_rt (ρ' := [some (false, .shr 0), some (false, .int m)]) rfl ?_ rfl
    show exs Φ cNext [some (false, .shr 0), some (false, .int m)] _ = _
    unfold cNext
    rw [xs_nx e1]
    have e2 : ev Φ (.cmp .gt (.idx (.var 0) (.str "at")) (.bi .len (.cons (.idx (.var 0) (.str "draws")) .nil))) [some (false, .shr 0), some (false, .int m)] [wD ds (a + 1)] = some (.bl false, [wD ds (a + 1)]) := by
      simp [getS, opd_w, idx_at, idx_dr, pBi, pCmp]
      omega
    have e3 : ev Φ (.bin .mod (.bi .int (.cons (.idx (.idx (.var 0) (.str "draws")) (.bin .sub (.idx (.var 0) (.str "at")) (.int 1))) .nil)) (.var 1)) [some (false, .shr 0), some (false, .int m)] [wD ds (a + 1)] = some (.int (d.fmod m), [wD ds (a + 1)]) := by
      have ix : pIdx (.lst (ds.map .int)) (.int a) = some (.int d) := by
        show (ixN (ds.map PV.int).length a).bind (fun j => (ds.map PV.int)[j]?) = _
        rw [List.length_map, ixN_ok ha (by omega), Option.bind_some, List.getElem?_map, hdd]
        rfl
      have hm0 : m ≠ 0 := by omega
      simp [getS, opd_w, idx_at, idx_dr, pBi, pBin, ix, hm0]
    rw [exs_cons, ex_ife, e2]
    show exs Φ (.cons _ .nil) _ _ = _
    rw [exs_cons, ex_ret, e3]
    rfl
def cDr2 : CSs := (.cons (.ife (.cmp .gt (.var 6) (.int 0)) (.cons (.app 2 (.bin .mod (.bi .int (.cons (.var 6) .nil)) (.int 997)))
 (.cons (.asg false 6 (.bin .div (.var 6) (.int 997)))
 .nil)) .nil)
 .nil)
def cDr1 : CSs := (.cons (.asg false 5 (.bi .abs (.cons (.bi .int (.cons (.idx (.var 0) (.var 4)) .nil)) .nil)))
 (.cons (.asg false 3 (.bin .mod (.bi .int (.cons (.bin .add (.bin .add (.bin .mul (.var 3) (.int 48271)) (.bin .mod (.var 5) (.int 1000003))) (.var 4)) .nil)) (.int 65537)))
 (.cons (.asg false 6 (.int 0))
 (.cons (.ife (.cmp .ge (.var 5) (.bin .pow (.int 10) (.int 18))) (.cons (.asg false 6 (.var 5))
 .nil) (.cons (.app 2 (.bin .mod (.bi .int (.cons (.var 5) .nil)) (.int 997)))
 (.cons (.app 2 (.bin .mod (.bin .mod (.bi .int (.cons (.bin .add (.bin .mul (.var 3) (.int 69621)) (.int 5)) .nil)) (.int 65521)) (.int 997)))
 .nil)))
 (.cons (.for_ (.nm 7) (.rng1 (.int 60)) cDr2)
 .nil)))))
def cDr3 : CSs := (.cons (.asg false 3 (.bin .mod (.bi .int (.cons (.bin .add (.bin .add (.bin .mul (.var 3) (.int 16807)) (.var 4)) (.int 1)) .nil)) (.int 65537)))
 (.cons (.app 2 (.bin .mod (.bi .int (.cons (.var 3) .nil)) (.int 997)))
 .nil))
def cDraws : CSs := (.cons (.asg true 2 (.lst .nil))
 (.cons (.asg false 3 (.int 7))
 (.cons (.for_ (.nm 4) (.rng1 (.bi .len (.cons (.var 0) .nil))) cDr1)
 (.cons (.for_ (.nm 4) (.rng1 (.var 1)) cDr3)
 (.cons (.ret (.cut (.bor 2) .nil (.cons (.var 1) .nil)))
 .nil)))))
theorem mul_ok {a b : Int} (h : b.natAbs < 1000000) : pBin .mul (.int a) (.int b) = some (.int (a * b)) := by
  show (if (-two64 < a ∧ a < two64) ∨ (-two64 < b ∧ b < two64) then some (PV.int (a * b)) else none) = _
  rw [if_pos]
  right
  unfold two64
  omega
theorem mod_ok {a b : Int} (h : b ≠ 0) : pBin .mod (.int a) (.int b) = some (.int (a.fmod b)) := by
  show (if b ≠ 0 then some (PV.int (a.fmod b)) else none) = _
  rw [if_pos h]
theorem div_ok {a b : Int} (h : b ≠ 0) (h2 : b.natAbs < 1073741824) : pBin .div (.int a) (.int b) = some (.int (a.fdiv b)) := by
  show (if b ≠ 0 ∧ b.natAbs < 1073741824 then some (PV.int (a.fdiv b)) else none) = _
  rw [if_pos ⟨h, h2⟩]
@[simp] theorem add_ok {a b : Int} : pBin .add (.int a) (.int b) = some (.int (a + b)) := rfl
@[simp] theorem sub_ok {a b : Int} : pBin .sub (.int a) (.int b) = some (.int (a - b)) := rfl
theorem app_ok {xs : List PV} {v : PV} (h : xs.length < LIM) : pApp v (.lst xs) = some (.lst (xs ++ [v])) := by
  show (if xs.length < LIM then some (PV.lst (xs ++ [v])) else none) = _
  rw [if_pos h]
/-- the state of the draws' def -/
def drI (q0 : Int) (ns : List Int) (D0 : DS) (k : Nat) (ρ : Envi) (D : DS) : Prop := ∃ (ds : List Int) (m : Int) (x4 x5 x6 x7 : Option (Bool × PV)), ρ = [some (false, .scr ns), some (false, .int q0), some (true, .lst (ds.map .int)), some (false, .int m), x4, x5, x6, x7] ∧ D = D0 ∧ (∀ d ∈ ds, 0 ≤ d) ∧ ds.length ≤ k
theorem pow18 : pBin .pow (.int 10) (.int 18) = some (.int 1000000000000000000) := by rfl
theorem draws_ok {q0 : Int} {Φ : Fns} {ns : List Int} {D0 : DS} (hn : ns.length ≤ 63) (q1 : 0 ≤ q0 := by decide) (q2 : q0 ≤ 1000 := by decide) : ∃ ds : List Int, (Def.mk 8 2 cDraws).run Φ [.scr ns, .int q0] D0 = some (.lst (ds.map .int), D0) ∧ ∀ d ∈ ds, 0 ≤ d := by
  have h997 : ∀ a : Int, 0 ≤ a.fmod 997 := fun a => Int.fmod_nonneg_of_pos _ (by decide)
  have rgk : ∀ n : Int, 0 ≤ n → n ≤ 1000 → rngOk 0 n = true := fun n h1 h2 => by
    unfold rngOk
    have : ((LIM : Nat) : Int) = 1000000 := rfl
    exact decide_eq_true (by omega)
  -- the inner loop
  have inner : ∀ (K : Nat) (ds : List Int) (m : Int) (x4 x5 x7 : Option (Bool × PV)) (rest : Int), (∀ d ∈ ds, 0 ≤ d) → ds.length ≤ K → K ≤ 100000 →
      ∃ ρ' D', forL (fun x ρ D => (bindP (.nm 7) x ρ).bind fun ρ1 => exs Φ cDr2 ρ1 D) (rngL 0 60)
        [some (false, .scr ns), some (false, .int q0), some (true, .lst (ds.map .int)), some (false, .int m), x4, x5, some (false, .int rest), x7] D0 = some (.nx, ρ', D') ∧ drI q0 ns D0 (K + 60) ρ' D' := by
    intro K ds m x4 x5 x7 rest hd hl hK
    obtain ⟨ρ', D', e, ds', m', r', x7', hρ, hD, h1, h2⟩ := for_inv (f := fun x ρ D => (bindP (.nm 7) x ρ).bind fun ρ1 => exs Φ cDr2 ρ1 D) (xs := rngL 0 60)
      (I := fun i ρ D => ∃ (ds : List Int) (m : Int) (r : Int) (x7 : Option (Bool × PV)), ρ = [some (false, .scr ns), some (false, .int q0), some (true, .lst (ds.map .int)), some (false, .int m), x4, x5, some (false, .int r), x7] ∧ D = D0 ∧ (∀ d ∈ ds, 0 ≤ d) ∧ ds.length ≤ K + i)
      (h0 := ⟨ds, m, rest, x7, rfl, rfl, hd, hl⟩) (fun i x ρ D hx ⟨ds, m, r, x7, hρ, hD, hd, hl⟩ => by
        subst hρ hD
        have hi : i < 60 := by
          have := (List.getElem?_eq_some_iff.mp hx).1
          simpa [rngL] using this
        have hlen : (ds.map PV.int).length < LIM := by rw [List.length_map]; have : LIM = 1000000 := rfl; omega
        by_cases hr : 0 < r
        · refine ⟨.nx, [some (false, .scr ns), some (false, .int q0), some (true, .lst ((ds ++ [r.fmod 997]).map .int)), some (false, .int m), x4, x5, some (false, .int (r.fdiv 997)), some (false, x)], D, ?_, .inl rfl, ds ++ [r.fmod 997], m, _, _, rfl, rfl, ?_, ?_⟩
          · simp [cDr2, bindP, getS, pCmp, hr, pBi, mod_ok, div_ok, chgO, app_ok hlen]
          · intro d hd'
            rcases List.mem_append.mp hd' with h | h
            · exact hd d h
            · rw [List.mem_singleton.mp h]; exact h997 r
          · rw [List.length_append, List.length_singleton]; omega
        · refine ⟨.nx, [some (false, .scr ns), some (false, .int q0), some (true, .lst (ds.map .int)), some (false, .int m), x4, x5, some (false, .int r), some (false, x)], D, ?_, .inl rfl, ds, m, _, _, rfl, rfl, hd, by omega⟩
          simp [cDr2, bindP, getS, pCmp, hr])
    have hl60 : (rngL 0 60).length = 60 := by simp [rngL]
    exact ⟨ρ', D', e, ds', m', _, _, _, _, hρ, hD, h1, by omega⟩
  -- the first loop
  obtain ⟨ρ1, D1, e1, ds1, m1, y4, y5, y6, y7, hρ1, hD1, h1, h2⟩ := for_inv (f := fun x ρ D => (bindP (.nm 4) x ρ).bind fun ρ1 => exs Φ cDr1 ρ1 D) (xs := rngL 0 ns.length)
    (I := fun i ρ D => drI q0 ns D0 (62 * i) ρ D) (h0 := ⟨[], 7, none, none, none, none, rfl, rfl, by simp, by simp⟩) (fun i x ρ D hx ⟨ds, m, x4, x5, x6, x7, hρ, hD, hd, hl⟩ => by
      subst hρ hD
      have hi : i < ns.length := by
        have := (List.getElem?_eq_some_iff.mp hx).1
        simpa [rngL] using this
      have hxi : x = .int i := by
        unfold rngL at hx
        rw [List.getElem?_map, List.getElem?_range (by simpa using hi)] at hx
        simpa using (Option.some.inj hx).symm
      subst hxi
      have ix : pIdx (.scr ns) (.int i) = some (.int ns[i]) := by
        show (ixN ns.length (i : Int)).bind (fun j => (ns[j]?).map PV.int) = _
        rw [ixN_ok (by omega) (by omega), Option.bind_some]
        simp [hi]
      have hlen : (ds.map PV.int).length < LIM := by rw [List.length_map]; have : LIM = 1000000 := rfl; omega
      generalize hcell : (if ns[i] < 0 then -ns[i] else ns[i]) = cell
      have hc0 : 0 ≤ cell := by rw [← hcell]; split <;> omega
      by_cases hbig : 1000000000000000000 ≤ cell
      · obtain ⟨ρ', D', e, hI⟩ := inner (62 * i) ds ((m * 48271 + cell.fmod 1000003 + i).fmod 65537) (some (false, .int i)) (some (false, .int cell)) x7 cell hd hl (by omega)
        refine ⟨.nx, ρ', D', ?_, .inl rfl, ?_⟩
        · simp [cDr1, bindP, getS, ix, pBi, hcell, mul_ok, mod_ok, pow18, pCmp, hbig, ex_for, rgk]
          simp [bindP] at e
          rw [e]
          rfl
        · obtain ⟨a1, a2, a3, a4, a5, a6, a7, a8, a9, a10⟩ := hI
          exact ⟨a1, a2, a3, a4, a5, a6, a7, a8, a9, by omega⟩
      · have hl2 : ((ds ++ [cell.fmod 997]).map PV.int).length < LIM := by rw [List.length_map, List.length_append, List.length_singleton]; have : LIM = 1000000 := rfl; omega
        obtain ⟨ρ', D', e, hI⟩ := inner (62 * i + 2) (ds ++ [cell.fmod 997] ++ [(((m * 48271 + cell.fmod 1000003 + i).fmod 65537 * 69621 + 5).fmod 65521).fmod 997]) ((m * 48271 + cell.fmod 1000003 + i).fmod 65537) (some (false, .int i)) (some (false, .int cell)) x7 0
          (by
            intro d hd'
            rcases List.mem_append.mp hd' with h | h
            · rcases List.mem_append.mp h with h | h
              · exact hd d h
              · rw [List.mem_singleton.mp h]; exact h997 _
            · rw [List.mem_singleton.mp h]; exact h997 _) (by rw [List.length_append, List.length_append, List.length_singleton, List.length_singleton]; omega) (by omega)
        refine ⟨.nx, ρ', D', ?_, .inl rfl, ?_⟩
        · simp [cDr1, bindP, getS, ix, pBi, hcell, mul_ok, mod_ok, pow18, pCmp, hbig, ex_for, rgk, chgO, app_ok hlen]
          rw [app_ok (by simpa using hl2)]
          simp [bindP] at e ⊢
          rw [e]
          rfl
        · obtain ⟨a1, a2, a3, a4, a5, a6, a7, a8, a9, a10⟩ := hI
          exact ⟨a1, a2, a3, a4, a5, a6, a7, a8, a9, by omega⟩)
  -- the second loop
  obtain ⟨ρ2, D2, e2, ds2, m2, z4, z5, z6, z7, hρ2, hD2, h3, h4⟩ := for_inv (f := fun x ρ D => (bindP (.nm 4) x ρ).bind fun ρ1 => exs Φ cDr3 ρ1 D) (xs := rngL 0 q0)
    (I := fun i ρ D => drI q0 ns D0 (62 * ns.length + i) ρ D) (h0 := ⟨ds1, m1, y4, y5, y6, y7, hρ1, hD1, h1, by simpa [rngL] using h2⟩) (fun i x ρ D hx ⟨ds, m, x4, x5, x6, x7, hρ, hD, hd, hl⟩ => by
      subst hρ hD
      have hi : i < q0.toNat := by
        have := (List.getElem?_eq_some_iff.mp hx).1
        simpa [rngL] using this
      have hxi : x = .int i := by
        unfold rngL at hx
        rw [List.getElem?_map, List.getElem?_range (by simpa using hi)] at hx
        simpa using (Option.some.inj hx).symm
      subst hxi
      have hlen : (ds.map PV.int).length < LIM := by rw [List.length_map]; have : LIM = 1000000 := rfl; omega
      refine ⟨.nx, [some (false, .scr ns), some (false, .int q0), some (true, .lst ((ds ++ [((m * 16807 + i + 1).fmod 65537).fmod 997]).map .int)), some (false, .int ((m * 16807 + i + 1).fmod 65537)), some (false, .int i), x5, x6, x7], D, ?_, .inl rfl, _, _, _, _, _, _, rfl, rfl, ?_, ?_⟩
      · simp [cDr3, bindP, getS, pBi, mul_ok, mod_ok, chgO, app_ok hlen]
      · intro d hd'
        rcases List.mem_append.mp hd' with h | h
        · exact hd d h
        · rw [List.mem_singleton.mp h]; exact h997 _
      · rw [List.length_append, List.length_singleton]; omega)
  subst hρ2 hD2
  refine ⟨ds2.take (min q0.toNat ds2.length), run_rt (ρ' := [some (false, .scr ns), some (false, .int q0), some (true, .lst (ds2.map .int)), some (false, .int m2), z4, z5, z6, z7]) rfl ?_ rfl, fun d hd => h3 d (List.mem_of_mem_take hd)⟩
  · show exs Φ cDraws [some (false, .scr ns), some (false, .int q0), none, none, none, none, none, none] D2 = _
    have s1 : ex Φ (.for_ (.nm 4) (.rng1 (.bi .len (.cons (.var 0) .nil))) cDr1) [some (false, .scr ns), some (false, .int q0), some (true, .lst []), some (false, .int 7), none, none, none, none] D2 = some (.nx, ρ1, D1) := by
      have q : evi Φ (.rng1 (.bi .len (.cons (.var 0) .nil))) [some (false, .scr ns), some (false, .int q0), some (true, .lst []), some (false, .int 7), none, none, none, none] D2 = some (rngL 0 ns.length, D2) := by
        simp [getS, pBi, rgk ns.length (by omega) (by omega)]
      rw [ex_for, q, Option.bind_some]
      exact e1
    have s2 : ex Φ (.for_ (.nm 4) (.rng1 (.var 1)) cDr3) ρ1 D1 = some (.nx, [some (false, .scr ns), some (false, .int q0), some (true, .lst (ds2.map .int)), some (false, .int m2), z4, z5, z6, z7], D2) := by
      have q : evi Φ (.rng1 (.var 1)) ρ1 D1 = some (rngL 0 q0, D1) := by
        subst hρ1
        simp [getS, rgk q0 q1 q2]
      rw [ex_for, q, Option.bind_some]
      exact e2
    unfold cDraws
    rw [xs_nx (show ex Φ _ _ _ = some (.nx, [some (false, .scr ns), some (false, .int q0), some (true, .lst []), none, none, none, none, none], D2) from rfl),
      xs_nx (show ex Φ _ _ _ = some (.nx, [some (false, .scr ns), some (false, .int q0), some (true, .lst []), some (false, .int 7), none, none, none, none], D2) from rfl), xs_nx s1, xs_nx s2]
    simp [borS, pCut, cutL, cutN, getS, show ¬ q0 < 0 by omega]
end MP

/-! MP srt: strictly rising lists of ints. -/
namespace MP
open PySem
abbrev Srt (xs : List Int) : Prop := xs.Pairwise (· < ·)
theorem srt_ext : ∀ {xs ys : List Int}, Srt xs → Srt ys → (∀ x, x ∈ xs ↔ x ∈ ys) → xs = ys
  | [], [], _, _, _ => rfl
  | [], y :: ys, _, _, h => absurd ((h y).mpr List.mem_cons_self) (by simp)
  | x :: xs, [], _, _, h => absurd ((h x).mp List.mem_cons_self) (by simp)
  | x :: xs, y :: ys, hx, hy, h => by
    have hx1 := List.pairwise_cons.mp hx
    have hy1 := List.pairwise_cons.mp hy
    have e : x = y := by
      rcases List.mem_cons.mp ((h x).mp List.mem_cons_self) with e | m
      · exact e
      · rcases List.mem_cons.mp ((h y).mpr List.mem_cons_self) with e | m2
        · exact e.symm
        · have := hx1.1 y m2
          have := hy1.1 x m
          omega
    subst e
    congr 1
    refine srt_ext hx1.2 hy1.2 fun z => ⟨fun m => ?_, fun m => ?_⟩
    · rcases List.mem_cons.mp ((h z).mp (List.mem_cons_of_mem _ m)) with e | m2
      · have := hx1.1 z m; omega
      · exact m2
    · rcases List.mem_cons.mp ((h z).mpr (List.mem_cons_of_mem _ m)) with e | m2
      · have := hy1.1 z m; omega
      · exact m2
theorem srt_rg (a b : Int) : Srt (rg a b) := by
  unfold rg
  refine List.Pairwise.map _ (fun x y (h : x < y) => ?_) List.pairwise_lt_range
  omega
theorem srt_filter {xs : List Int} (p : Int → Bool) (h : Srt xs) : Srt (xs.filter p) := h.sublist List.filter_sublist
theorem head_srt {xs : List Int} {r : Int} (h : Srt xs) (hm : r ∈ xs) (hl : ∀ x ∈ xs, r ≤ x) : xs[0]? = some r := by
  cases xs with
  | nil => exact absurd hm (by simp)
  | cons x xs =>
    rcases List.mem_cons.mp hm with e | m
    · subst e; rfl
    · have := (List.pairwise_cons.mp h).1 r m
      have := hl x List.mem_cons_self
      omega
theorem last_srt : ∀ {xs : List Int} {r : Int}, Srt xs → r ∈ xs → (∀ x ∈ xs, x ≤ r) → xs[xs.length - 1]? = some r
  | [], _, _, hm, _ => absurd hm (by simp)
  | [x], r, _, hm, _ => by
    rw [List.mem_singleton.mp hm]; rfl
  | x :: y :: xs, r, h, hm, hl => by
    have h1 := List.pairwise_cons.mp h
    have hr : r ∈ y :: xs := by
      rcases List.mem_cons.mp hm with e | m
      · have := h1.1 y List.mem_cons_self
        have := hl y (List.mem_cons_of_mem _ List.mem_cons_self)
        omega
      · exact m
    have := last_srt h1.2 hr fun z hz => hl z (List.mem_cons_of_mem _ hz)
    simpa using this
theorem mem_insU {x y : Int} : ∀ {r : List Int}, y ∈ insU x r ↔ y = x ∨ y ∈ r
  | [] => by simp [insU]
  | z :: r => by
    unfold insU
    split
    · simp
    · split
      · rename_i h; subst h; simp
      · simp [mem_insU (r := r)]
        constructor <;> rintro (h | h | h) <;> simp [h]
theorem srt_insU {x : Int} : ∀ {r : List Int}, Srt r → Srt (insU x r)
  | [], _ => by simp [insU]
  | z :: r, h => by
    have h1 := List.pairwise_cons.mp h
    unfold insU
    split
    · refine List.pairwise_cons.mpr ⟨fun y hy => ?_, h⟩
      rcases List.mem_cons.mp hy with e | m
      · omega
      · have := h1.1 y m; omega
    · split
      · exact h
      · refine List.pairwise_cons.mpr ⟨fun y hy => ?_, srt_insU h1.2⟩
        rcases mem_insU.mp hy with e | m
        · omega
        · exact h1.1 y m
theorem srt_sset : ∀ ns : List Int, Srt (sset ns)
  | [] => List.Pairwise.nil
  | n :: ns => srt_insU (srt_sset ns)
theorem mem_sset {y : Int} : ∀ {ns : List Int}, y ∈ sset ns ↔ y ∈ ns
  | [] => by simp [sset]
  | n :: ns => by
    show y ∈ insU n (sset ns) ↔ _
    rw [mem_insU, mem_sset (ns := ns), List.mem_cons]
/-- a rising list within bounds is short -/
theorem srt_len {a b : Int} : ∀ {xs : List Int}, Srt xs → (∀ x ∈ xs, a ≤ x ∧ x < b) → a ≤ b → (xs.length : Int) ≤ b - a
  | [], _, _, h => by simp; omega
  | x :: xs, h, hb, hab => by
    have h1 := List.pairwise_cons.mp h
    have hx := hb x List.mem_cons_self
    have := srt_len (a := x + 1) (b := b) h1.2 (fun y hy => ⟨by have := h1.1 y hy; omega, (hb y (List.mem_cons_of_mem _ hy)).2⟩) (by omega)
    simp
    omega
theorem mapO_pints : ∀ ns : List Int, mapO intOf (ns.map .int) = some ns
  | [] => rfl
  | n :: ns => by rw [List.map_cons, mapO, mapO_pints ns]; rfl
theorem sortedSet_tup {ns : List Int} (h : ns.length ≤ 4000) (h2 : (sset ns).length < 64) : pBi .sortedSet [.tup (ns.map .int)] = some (.lst ((sset ns).map .int)) := by
  show ((some (ns.map PV.int)).bind fun xs => (mapO intOf xs).bind _) = _
  rw [Option.bind_some, mapO_pints, Option.bind_some, if_pos ⟨h, h2⟩]
theorem sortedSet_lst {ns : List Int} (h : ns.length ≤ 4000) (h2 : (sset ns).length < 64) : pBi .sortedSet [.lst (ns.map .int)] = some (.lst ((sset ns).map .int)) := by
  show ((some (ns.map PV.int)).bind fun xs => (mapO intOf xs).bind _) = _
  rw [Option.bind_some, mapO_pints, Option.bind_some, if_pos ⟨h, h2⟩]
/-! ### sorting ints -/
theorem cmpOk_ints {ns : List Int} {m : Int} : ((ns.map PV.int).all fun y => cmpOk (.int m) y) = true := by
  rw [List.all_map, List.all_eq_true]; intro x _; rfl
theorem ordOk_ints (ns : List Int) : ordOk (ns.map .int) = true := by
  unfold ordOk
  rw [List.all_eq_true]
  intro x hx
  obtain ⟨n, _, rfl⟩ := List.mem_map.mp hx
  rw [shp_int, cmpOk_ints]; rfl
theorem srtOk_ints (ns : List Int) : srtOk (ns.map .int) = true := by
  unfold srtOk
  rw [Bool.or_eq_true]
  right
  rw [List.all_map, List.all_eq_true]; intro x _; rfl
/-- a list without doubles, sorted -/
theorem pSort_ints {ns : List Int} (hn : ns.Nodup) : pSort (ns.map .int) = some ((sset ns).map .int) := by
  unfold pSort
  rw [ordOk_ints, srtOk_ints, if_pos (show (true && true) = true from rfl)]
  congr 1
  have e : ((ns.map PV.int).mergeSort fun a b => !plt b a) = (ns.mergeSort fun a b => decide (a ≤ b)).map .int := by
    refine (List.map_mergeSort ?_).symm
    intro a _ b _
    by_cases h : a ≤ b
    · have : ¬ b < a := by omega
      simp [plt, h, this]
    · have : b < a := by omega
      simp [plt, h, this]
  rw [e]
  congr 1
  have hp := List.mergeSort_perm ns (fun a b => decide (a ≤ b))
  have hs : (ns.mergeSort fun a b => decide (a ≤ b)).Pairwise (fun a b => decide (a ≤ b) = true) := List.pairwise_mergeSort (fun a b c h1 h2 => by simp at *; omega) (fun a b => by simp; omega) ns
  have hnd : (ns.mergeSort fun a b => decide (a ≤ b)).Nodup := hp.nodup_iff.mpr hn
  refine srt_ext ?_ (srt_sset ns) fun x => by rw [hp.mem_iff, mem_sset]
  refine (hs.and hnd).imp ?_
  rintro a b ⟨h1, h2⟩
  simp at h1
  omega
/-- keys of a dict made from a list of pairs -/
theorem dMerge_keys (v : Int → PV) : ∀ (ns : List Int) (acc : List Int), acc.Nodup → ∃ ks : List Int, ks.Nodup ∧ (∀ x, x ∈ ks ↔ x ∈ acc ∨ x ∈ ns) ∧ ∃ kvs, dMerge (acc.map fun n => (PV.int n, v n)) (ns.map fun n => (PV.int n, v n)) = kvs ∧ kvs = ks.map fun n => (PV.int n, v n)
  | [], acc, h => ⟨acc, h, by simp, _, rfl, rfl⟩
  | n :: ns, acc, h => by
    have ha : ((acc.map fun n => (PV.int n, v n)).any fun p => peq p.1 (.int n)) = decide (n ∈ acc) := by
      have := any_peq (i := n) acc
      rw [← this, List.any_map, List.any_map]; rfl
    have e : dMerge (acc.map fun n => (PV.int n, v n)) ((n :: ns).map fun n => (PV.int n, v n)) = dMerge (dPut (.int n) (v n) (acc.map fun n => (PV.int n, v n))) (ns.map fun n => (PV.int n, v n)) := rfl
    by_cases hm : n ∈ acc
    · obtain ⟨ks, h1, h2, kvs, h3, h4⟩ := dMerge_keys v ns acc h
      refine ⟨ks, h1, fun x => ?_, kvs, ?_, h4⟩
      · rw [h2, List.mem_cons]
        constructor
        · rintro (h | h) <;> simp [h]
        · rintro (h | h | h)
          · exact .inl h
          · subst h; exact .inl hm
          · exact .inr h
      · rw [e, ← h3]
        congr 1
        unfold dPut
        rw [ha, if_pos (by simpa using hm), List.map_map]
        refine List.map_congr_left fun x _ => ?_
        show (if peq (PV.int x) (.int n) = true then (PV.int x, v n) else (PV.int x, v x)) = _
        rw [peq_int]
        by_cases hx : x = n
        · subst hx; simp
        · simp [hx]
    · obtain ⟨ks, h1, h2, kvs, h3, h4⟩ := dMerge_keys v ns (acc ++ [n]) (List.nodup_append.mpr ⟨h, by simp, by
        intro x hx y hy
        rw [List.mem_singleton.mp hy]
        rintro rfl
        exact hm hx⟩)
      refine ⟨ks, h1, fun x => ?_, kvs, ?_, h4⟩
      · rw [h2, List.mem_append, List.mem_singleton, List.mem_cons, or_assoc]
      · rw [e, ← h3]
        congr 1
        unfold dPut
        rw [ha, if_neg (by simpa using hm), List.map_append]
        rfl
/-- a comprehension over ints, with one test -/
theorem lcI {Φ : Fns} {ρ : Envi} {D : DS} {own : List Nat} {ce : CE} {pt : Pat} {ci : CI} {ct : CEs} {ns : List Int} {p : Int → Bool} {g : Int → PV} (hi : evi Φ ci ρ D = some (ns.map .int, D)) (H : ∀ n ∈ ns, st1 Φ own ce pt ct ρ (.int n) D = some (if p n then [g n] else [], D)) :
    ev Φ (.lc1 own ce pt ci ct) ρ D = some (.lst ((ns.filter p).map g), D) := by
  rw [ev_lc1, hi, Option.bind_some, lc_ints H]; rfl
/-- .. with no test -/
theorem lcA {Φ : Fns} {ρ : Envi} {D : DS} {own : List Nat} {ce : CE} {pt : Pat} {ci : CI} {ct : CEs} {ns : List Int} {g : Int → PV} (hi : evi Φ ci ρ D = some (ns.map .int, D)) (H : ∀ n ∈ ns, st1 Φ own ce pt ct ρ (.int n) D = some ([g n], D)) :
    ev Φ (.lc1 own ce pt ci ct) ρ D = some (.lst (ns.map g), D) := by
  rw [lcI (p := fun _ => true) hi (by simpa using H), List.filter_eq_self.mpr (fun _ _ => rfl)]
theorem rngOk_of {a b : Int} (h1 : -100000 ≤ a) (h2 : a ≤ 100000) (h3 : -100000 ≤ b) (h4 : b ≤ 100000) : rngOk a b = true := by
  unfold rngOk
  have : ((LIM : Nat) : Int) = 1000000 := rfl
  exact decide_eq_true (by omega)
/-- draws while a comprehension runs over ints: some of them stay -/
theorem lcW {Φ : Fns} {ρ : Envi} {own : List Nat} {ce : CE} {pt : Pat} {ci : CI} {ct : CEs} {ns : List Int} {D : DS} (Q : Int → Prop) (h : Wst D) (hi : evi Φ ci ρ D = some (ns.map .int, D)) (H : ∀ n ∈ ns, ∀ D, Wst D → ∃ (b : Bool) (D' : DS), st1 Φ own ce pt ct ρ (.int n) D = some (if b then [.int n] else [], D') ∧ Wst D' ∧ (b = true → Q n)) :
    ∃ (ms : List Int) (D' : DS), ev Φ (.lc1 own ce pt ci ct) ρ D = some (.lst (ms.map .int), D') ∧ Wst D' ∧ ms.Sublist ns ∧ ∀ m ∈ ms, Q m := by
  have key : ∀ (ns : List Int) (D : DS), Wst D → (∀ n ∈ ns, ∀ D, Wst D → ∃ (b : Bool) (D' : DS), st1 Φ own ce pt ct ρ (.int n) D = some (if b then [.int n] else [], D') ∧ Wst D' ∧ (b = true → Q n)) → ∃ (ms : List Int) (D' : DS), lcF (st1 Φ own ce pt ct ρ) (ns.map .int) D = some (ms.map .int, D') ∧ Wst D' ∧ ms.Sublist ns ∧ ∀ m ∈ ms, Q m := by
    intro ns
    induction ns with
    | nil => exact fun D h _ => ⟨[], D, rfl, h, List.Sublist.refl _, by simp⟩
    | cons n ns ih =>
      intro D h H
      obtain ⟨b, D1, e1, h1, hq⟩ := H n List.mem_cons_self D h
      obtain ⟨ms, D2, e2, h2, hs, hQ⟩ := ih D1 h1 fun m hm => H m (List.mem_cons_of_mem _ hm)
      cases b with
      | true =>
        refine ⟨n :: ms, D2, ?_, h2, List.Sublist.cons₂ _ hs, fun m hm => ?_⟩
        · rw [List.map_cons, lcF, e1, Option.bind_some, e2]; rfl
        · rcases List.mem_cons.mp hm with e | hm
          · rw [e]; exact hq rfl
          · exact hQ m hm
      | false =>
        refine ⟨ms, D2, ?_, h2, List.Sublist.cons _ hs, hQ⟩
        rw [List.map_cons, lcF, e1, Option.bind_some, e2]; rfl
  obtain ⟨ms, D', e, h1, h2⟩ := key ns D h H
  refine ⟨ms, D', ?_, h1, h2⟩
  rw [ev_lc1, hi, Option.bind_some, e]; rfl
/-- .. and other things are made -/
theorem lcV {α : Type} {Φ : Fns} {ρ : Envi} {own : List Nat} {ce : CE} {pt : Pat} {ci : CI} {ct : CEs} {xs : List PV} {D : DS} (f : α → PV) (Q : α → Prop) (h : Wst D) (hi : evi Φ ci ρ D = some (xs, D)) (H : ∀ x ∈ xs, ∀ D, Wst D → ∃ (l : List α) (D' : DS), st1 Φ own ce pt ct ρ x D = some (l.map f, D') ∧ Wst D' ∧ ∀ y ∈ l, Q y) :
    ∃ (ms : List α) (D' : DS), ev Φ (.lc1 own ce pt ci ct) ρ D = some (.lst (ms.map f), D') ∧ Wst D' ∧ ∀ m ∈ ms, Q m := by
  have key : ∀ (xs : List PV) (D : DS), Wst D → (∀ x ∈ xs, ∀ D, Wst D → ∃ (l : List α) (D' : DS), st1 Φ own ce pt ct ρ x D = some (l.map f, D') ∧ Wst D' ∧ ∀ y ∈ l, Q y) → ∃ (ms : List α) (D' : DS), lcF (st1 Φ own ce pt ct ρ) xs D = some (ms.map f, D') ∧ Wst D' ∧ ∀ m ∈ ms, Q m := by
    intro xs
    induction xs with
    | nil => exact fun D h _ => ⟨[], D, rfl, h, by simp⟩
    | cons x xs ih =>
      intro D h H
      obtain ⟨l, D1, e1, h1, hq⟩ := H x List.mem_cons_self D h
      obtain ⟨ms, D2, e2, h2, hQ⟩ := ih D1 h1 fun m hm => H m (List.mem_cons_of_mem _ hm)
      refine ⟨l ++ ms, D2, ?_, h2, fun m hm => ?_⟩
      · rw [lcF, e1, Option.bind_some, e2, List.map_append]; rfl
      · rcases List.mem_append.mp hm with hm | hm
        · exact hq m hm
        · exact hQ m hm
  obtain ⟨ms, D', e, h1, h2⟩ := key xs D h H
  refine ⟨ms, D', ?_, h1, h2⟩
  rw [ev_lc1, hi, Option.bind_some, e]; rfl
/-! ### pairs of ints -/
def pv2 (q : Int × Int) : PV := .tup [.int q.1, .int q.2]
def lexlt (q r : Int × Int) : Prop := q.1 < r.1 ∨ (q.1 = r.1 ∧ q.2 < r.2)
instance (q r : Int × Int) : Decidable (lexlt q r) := by unfold lexlt; infer_instance
theorem plt_pv2 (q r : Int × Int) : plt (pv2 q) (pv2 r) = decide (lexlt q r) := by
  unfold pv2 lexlt
  rw [plt, pltL, peq_int]
  by_cases h : q.1 = r.1
  · rw [if_pos (by simpa using h), pltL, peq_int, plt]
    by_cases h2 : q.2 = r.2
    · rw [if_pos (by simpa using h2), pltL]; simp [h, h2]
    · rw [if_neg (by simpa using h2)]; simp [h]
  · rw [if_neg (by simpa using h), plt]; simp [h]
theorem ordOk_pairs (L : List (Int × Int)) : ordOk (L.map pv2) = true := by
  unfold ordOk
  rw [List.all_eq_true]
  intro x hx
  obtain ⟨q, _, rfl⟩ := List.mem_map.mp hx
  rw [Bool.and_eq_true]
  refine ⟨rfl, ?_⟩
  rw [List.all_map, List.all_eq_true]
  intro r _
  show cmpOk (.tup [.int q.1, .int q.2]) (.tup [.int r.1, .int r.2]) = true
  rw [cmpOk, cmpOkL, cmpOkL, cmpOkL, cmpOk, cmpOk]
  · rfl
  · simp
theorem minL_pairs : ∀ (L : List (Int × Int)) (q : Int × Int), ∃ r, (r = q ∨ r ∈ L) ∧ minL (pv2 q) (L.map pv2) = pv2 r ∧ ¬ lexlt q r ∧ ∀ x ∈ L, ¬ lexlt x r
  | [], q => ⟨q, .inl rfl, rfl, by unfold lexlt; omega, by simp⟩
  | x :: L, q => by
    have e : minL (pv2 q) ((x :: L).map pv2) = minL (if plt (pv2 x) (pv2 q) then pv2 x else pv2 q) (L.map pv2) := rfl
    rw [plt_pv2] at e
    by_cases h : lexlt x q
    · rw [if_pos (by simpa using h)] at e
      obtain ⟨r, h1, h2, h3, h4⟩ := minL_pairs L x
      refine ⟨r, ?_, by rw [e, h2], ?_, ?_⟩
      · rcases h1 with h1 | h1 <;> simp [h1]
      · unfold lexlt at *; omega
      · intro y hy
        rcases List.mem_cons.mp hy with e | hy
        · rw [e]; exact h3
        · exact h4 y hy
    · rw [if_neg (by simpa using h)] at e
      obtain ⟨r, h1, h2, h3, h4⟩ := minL_pairs L q
      refine ⟨r, ?_, by rw [e, h2], h3, ?_⟩
      · rcases h1 with h1 | h1 <;> simp [h1]
      · intro y hy
        rcases List.mem_cons.mp hy with e | hy
        · rw [e]; unfold lexlt at *; omega
        · exact h4 y hy
theorem pMin_pairs {L : List (Int × Int)} (h : L ≠ []) : ∃ r ∈ L, (∀ x ∈ L, ¬ lexlt x r) ∧ pMin (L.map pv2) = some (pv2 r) := by
  cases L with
  | nil => exact absurd rfl h
  | cons q L =>
    obtain ⟨r, h1, h2, h3, h4⟩ := minL_pairs L q
    refine ⟨r, by rcases h1 with h1 | h1 <;> simp [h1], fun x hx => ?_, ?_⟩
    · rcases List.mem_cons.mp hx with e | hx
      · rw [e]; exact h3
      · exact h4 x hx
    · show (if ordOk ((q :: L).map pv2) = true then some (minL (pv2 q) (L.map pv2)) else none) = _
      rw [ordOk_pairs, if_pos rfl, h2]
theorem lex_anti {q r : Int × Int} (h : ¬ lexlt q r) (h2 : ¬ lexlt r q) : q = r := by
  unfold lexlt at *
  refine Prod.ext ?_ ?_ <;> omega
/-! ### the greatest of ints -/
theorem maxL_ints : ∀ (L : List Int) (q : Int), ∃ r, (r = q ∨ r ∈ L) ∧ maxL (.int q) (L.map .int) = .int r ∧ q ≤ r ∧ ∀ x ∈ L, x ≤ r
  | [], q => ⟨q, .inl rfl, rfl, by omega, by simp⟩
  | x :: L, q => by
    have e : maxL (.int q) ((x :: L).map .int) = maxL (if decide (q < x) then .int x else .int q) (L.map .int) := by
      show maxL (if plt (.int q) (.int x) then .int x else .int q) (L.map .int) = _
      rw [plt]
    by_cases h : q < x
    · rw [if_pos (by simpa using h)] at e
      obtain ⟨r, h1, h2, h3, h4⟩ := maxL_ints L x
      refine ⟨r, by rcases h1 with h1 | h1 <;> simp [h1], by rw [e, h2], by omega, fun y hy => ?_⟩
      rcases List.mem_cons.mp hy with e | hy
      · omega
      · exact h4 y hy
    · rw [if_neg (by simpa using h)] at e
      obtain ⟨r, h1, h2, h3, h4⟩ := maxL_ints L q
      refine ⟨r, by rcases h1 with h1 | h1 <;> simp [h1], by rw [e, h2], h3, fun y hy => ?_⟩
      rcases List.mem_cons.mp hy with e | hy
      · omega
      · exact h4 y hy
theorem pMax_ints {L : List Int} (h : L ≠ []) : ∃ r ∈ L, (∀ x ∈ L, x ≤ r) ∧ pMax (L.map .int) = some (.int r) := by
  cases L with
  | nil => exact absurd rfl h
  | cons q L =>
    obtain ⟨r, h1, h2, h3, h4⟩ := maxL_ints L q
    refine ⟨r, by rcases h1 with h1 | h1 <;> simp [h1], fun x hx => ?_, ?_⟩
    · rcases List.mem_cons.mp hx with e | hx
      · omega
      · exact h4 x hx
    · show (if ordOk ((q :: L).map .int) = true then some (maxL (.int q) (L.map .int)) else none) = _
      rw [ordOk_ints, if_pos rfl, h2]
/-! ### equality with an empty thing -/
@[simp] theorem pEq_tupN {ns : List Int} : pEq (.tup (ns.map .int)) (.tup []) = some (decide (ns = [])) := by
  have h1 : shp DEP (.tup (ns.map .int)) = true := shp_ints ns
  have h2 : shp DEP (.tup []) = true := rfl
  show (if (shp DEP (.tup (ns.map .int)) && shp DEP (.tup [])) = true then some (peq _ _) else none) = _
  rw [h1, h2, if_pos (show (true && true) = true from rfl)]
  cases ns with
  | nil => rfl
  | cons n ns => simp [peq, peqs]
@[simp] theorem pEq_lstN {ns : List Int} : pEq (.lst (ns.map .int)) (.lst []) = some (decide (ns = [])) := by
  have h1 : shp DEP (.lst (ns.map .int)) = true := shp_ints ns
  have h2 : shp DEP (.lst []) = true := rfl
  show (if (shp DEP (.lst (ns.map .int)) && shp DEP (.lst [])) = true then some (peq _ _) else none) = _
  rw [h1, h2, if_pos (show (true && true) = true from rfl)]
  cases ns with
  | nil => rfl
  | cons n ns => simp [peq, peqs]
@[simp] theorem pEq_lst2N {ns : List (Int × Int)} : pEq (.lst (ns.map pv2)) (.lst []) = some (decide (ns = [])) := by
  have h1 : shp DEP (.lst (ns.map pv2)) = true := by
    show (ns.map pv2).all (shp 19) = true
    rw [List.all_map, List.all_eq_true]; intro x _; rfl
  have h2 : shp DEP (.lst []) = true := rfl
  show (if (shp DEP (.lst (ns.map pv2)) && shp DEP (.lst [])) = true then some (peq _ _) else none) = _
  rw [h1, h2, if_pos (show (true && true) = true from rfl)]
  cases ns with
  | nil => rfl
  | cons n ns => simp [peq, peqs]
theorem all_bl {α : Type} (p : α → Bool) (ns : List α) : pBi .all [.lst (ns.map fun x => .bl (p x))] = some (.bl (ns.all p)) := by
  have : mapO blOf (ns.map fun x => PV.bl (p x)) = some (ns.map p) := by
    induction ns with
    | nil => rfl
    | cons n ns ih => rw [List.map_cons, mapO, ih]; rfl
  show ((mapO blOf _).map _) = _
  rw [this, Option.map_some, List.all_map]; rfl
/-! ### deep equality of a thing with itself -/
def ag : Nat → PV → Bool
  | _, .non | _, .bl _ | _, .int _ => true
  | _, .str s => PySem.PyData.strOk s
  | n + 1, .tup xs => decide (xs.length ≤ 100000) && xs.all (ag n)
  | _, _ => false
def cAlike (g : Nat) : CSs := (.cons (.ife (.isi .ttup (.var 1)) (.cons (.ife (.or_ (.cons (.not_ (.isi .ttup (.var 0))) (.cons (.cmp .ne (.bi .len (.cons (.var 0) .nil)) (.bi .len (.cons (.var 1) .nil))) .nil))) (.cons (.ret (.bl false))
 .nil) .nil)
 (.cons (.ret (.cmp .eq (.lc1 [2] (.var 2) (.nm 2) (.rng1 (.bi .len (.cons (.var 1) .nil))) (.cons (.not_ (.call g (.cons (.idx (.var 0) (.var 2)) (.cons (.idx (.var 1) (.var 2)) .nil)))) .nil)) (.lst .nil)))
 .nil)) .nil)
 (.cons (.ife (.cmp .is_ (.var 1) .non) (.cons (.ret (.cmp .is_ (.var 0) .non))
 .nil) .nil)
 (.cons (.ife (.isi .tbool (.var 1)) (.cons (.ret (.and_ (.cons (.isi .tbool (.var 0)) (.cons (.cmp .eq (.var 0) (.var 1)) .nil))))
 .nil) .nil)
 (.cons (.ife (.isi .tint (.var 1)) (.cons (.ret (.and_ (.cons (.isi .tint (.var 0)) (.cons (.not_ (.isi .tbool (.var 0))) (.cons (.cmp .eq (.var 0) (.var 1)) .nil)))))
 .nil) .nil)
 (.cons (.ret (.and_ (.cons (.isi .tstr (.var 0)) (.cons (.cmp .eq (.var 0) (.var 1)) .nil))))
 .nil)))))
theorem alike_non {Φ : Fns} {g : Nat} {D : DS} : (Def.mk 3 2 (cAlike g)).run Φ [.non, .non] D = some (.bl true, D) := by
  refine run_rt (ρ' := [some (false, .non), some (false, .non), none]) rfl ?_ rfl
  simp [cAlike, getS, pIs, pCmp, isNon]
theorem alike_int {Φ : Fns} {g : Nat} {D : DS} {i : Int} : (Def.mk 3 2 (cAlike g)).run Φ [.int i, .int i] D = some (.bl true, D) := by
  refine run_rt (ρ' := [some (false, .int i), some (false, .int i), none]) rfl ?_ rfl
  simp [cAlike, getS, pIs, pCmp, isNon]
theorem pEq_bl {a b : Bool} : pEq (.bl a) (.bl b) = some (a == b) := by
  cases a <;> cases b <;> rfl
theorem alike_bl {Φ : Fns} {g : Nat} {D : DS} {i : Bool} : (Def.mk 3 2 (cAlike g)).run Φ [.bl i, .bl i] D = some (.bl true, D) := by
  refine run_rt (ρ' := [some (false, .bl i), some (false, .bl i), none]) rfl ?_ rfl
  simp [cAlike, getS, pIs, pCmp, isNon, pEq_bl]
theorem alike_str {Φ : Fns} {g : Nat} {D : DS} {i : Str} (h : PySem.PyData.strOk i = true) : (Def.mk 3 2 (cAlike g)).run Φ [.str i, .str i] D = some (.bl true, D) := by
  refine run_rt (ρ' := [some (false, .str i), some (false, .str i), none]) rfl ?_ rfl
  have e : pEq (.str i) (.str i) = some true := by
    show (if (shp DEP (.str i) && shp DEP (.str i)) = true then some (peq (.str i) (.str i)) else none) = _
    rw [if_pos (by show (PySem.PyData.strOk i && PySem.PyData.strOk i) = true; rw [h]; rfl)]
    simp [peq]
  simp [cAlike, getS, pIs, pCmp, isNon, e]
theorem pLen_tup {xs : List PV} : pBi .len [.tup xs] = some (.int xs.length) := rfl
theorem pLen_lst {xs : List PV} : pBi .len [.lst xs] = some (.int xs.length) := rfl
theorem alike_tup {Φ : Fns} {g : Nat} {D : DS} {xs : List PV} (hl : xs.length ≤ 100000) (H : ∀ x ∈ xs, Φ g [x, x] D = some (.bl true, D)) : (Def.mk 3 2 (cAlike g)).run Φ [.tup xs, .tup xs] D = some (.bl true, D) := by
  refine run_rt (ρ' := [some (false, .tup xs), some (false, .tup xs), none]) rfl ?_ rfl
  have q := lcI (Φ := Φ) (D := D) (ρ := [some (false, .tup xs), some (false, .tup xs), none]) (own := [2]) (ce := .var 2) (pt := .nm 2) (ci := .rng1 (.bi .len (.cons (.var 1) .nil)))
    (ct := .cons (.not_ (.call g (.cons (.idx (.var 0) (.var 2)) (.cons (.idx (.var 1) (.var 2)) .nil)))) .nil) (ns := rg 0 xs.length) (p := fun _ => false) (g := .int)
    (by simp [getS, pLen_tup, rngOk_of (a := 0) (b := xs.length) (by omega) (by omega) (by omega) (by omega), rngL_rg])
    (fun i hi => by
      obtain ⟨h0, h1⟩ := mem_rg.mp hi
      obtain ⟨x, hx⟩ : ∃ x, xs[i.toNat]? = some x := ⟨xs[i.toNat]'(by omega), List.getElem?_eq_getElem _⟩
      have ix : pIdx (.tup xs) (.int i) = some x := by
        show (ixN xs.length i).bind (fun j => xs[j]?) = _
        rw [ixN_ok h0 h1, Option.bind_some, hx]
      simp [st1, bindP, wipE, getS, ix, H x (List.mem_of_getElem? hx)])
  have e : (List.filter (fun _ => false) (rg 0 xs.length)).map PV.int = [] := by simp
  rw [e] at q
  have e2 : pCmp .eq (.lst []) (.lst []) = some true := rfl
  have e3 : pCmp .ne (.int xs.length) (.int xs.length) = some false := by simp [pCmp]
  simp [cAlike, getS, pIs, pLen_tup, e3, q, e2]
theorem alike_ok {Fs : Nat → Fns} {g : Nat} {D : DS} (hF : ∀ n args D, Fs (n + 1) g args D = (Def.mk 3 2 (cAlike g)).run (Fs n) args D) : ∀ (k n : Nat) (x : PV), ag k x = true → k < n → Fs n g [x, x] D = some (.bl true, D) := by
  intro k
  induction k with
  | zero =>
    intro n x hx hn
    obtain ⟨m, rfl⟩ : ∃ m, n = m + 1 := ⟨n - 1, by omega⟩
    rw [hF]
    cases x with
    | non => exact alike_non
    | bl b => exact alike_bl
    | int i => exact alike_int
    | str s => exact alike_str hx
    | _ => exact absurd hx (by simp [ag])
  | succ k ih =>
    intro n x hx hn
    obtain ⟨m, rfl⟩ : ∃ m, n = m + 1 := ⟨n - 1, by omega⟩
    rw [hF]
    cases x with
    | non => exact alike_non
    | bl b => exact alike_bl
    | int i => exact alike_int
    | str s => exact alike_str hx
    | tup xs =>
      unfold ag at hx
      rw [Bool.and_eq_true, List.all_eq_true] at hx
      exact alike_tup (of_decide_eq_true hx.1) fun x h => ih m x (hx.2 x h) (by omega)
    | _ => exact absurd hx (by simp [ag])
theorem ag_ints {k : Nat} {ns : List Int} (h : ns.length ≤ 100000) : ag (k + 1) (.tup (ns.map .int)) = true := by
  unfold ag
  rw [List.length_map, List.all_map, Bool.and_eq_true, List.all_eq_true]
  exact ⟨decide_eq_true h, fun x _ => by cases k <;> rfl⟩
end MP

/-! MP tk: more of the plain side: slots, comprehensions and loops over encoded lists, order, subsets. -/
namespace MP
open PySem
/-! ### slots -/
@[simp] theorem getS_set {ρ : Envi} {i j : Nat} {v : PV} : getS (ρ.set i (some (false, v))) j = if i = j then (if i < ρ.length then some v else none) else getS ρ j := by
  unfold getS
  by_cases h : i = j
  · subst h
    by_cases h2 : i < ρ.length
    · simp [h2]
    · simp [h2]
  · simp [h]
@[simp] theorem getS_setO {ρ : Envi} {i j : Nat} {v : PV} : getS (ρ.set i (some (true, v))) j = if i = j then none else getS ρ j := by
  unfold getS
  by_cases h : i = j
  · subst h
    by_cases h2 : i < ρ.length
    · simp [h2]
    · simp [h2]
  · simp [h]
@[simp] theorem getS_setN {ρ : Envi} {i j : Nat} : getS (ρ.set i none) j = if i = j then none else getS ρ j := by
  unfold getS
  by_cases h : i = j
  · subst h
    by_cases h2 : i < ρ.length
    · simp [h2]
    · simp [h2]
  · simp [h]
@[simp] theorem borS_set {ρ : Envi} {i j : Nat} {o : Bool} {v : PV} : borS (ρ.set i (some (o, v))) j = if i = j then (if i < ρ.length then some v else none) else borS ρ j := by
  unfold borS
  by_cases h : i = j
  · subst h
    by_cases h2 : i < ρ.length
    · simp [h2]
    · simp [h2]
  · simp [h]
@[simp] theorem borS_setN {ρ : Envi} {i j : Nat} : borS (ρ.set i none) j = if i = j then none else borS ρ j := by
  unfold borS
  by_cases h : i = j
  · subst h
    by_cases h2 : i < ρ.length
    · simp [h2]
    · simp [h2]
  · simp [h]
theorem slotv_of {ρ : Envi} {i : Nat} {v : PV} (h : getS ρ i = some v) : ρ[i]? = some (some (false, v)) := by
  unfold getS at h
  split at h
  · rename_i x e
    cases h; exact e
  · cases h
theorem bor_of {ρ : Envi} {i : Nat} {v : PV} (h : getS ρ i = some v) : borS ρ i = some v := by
  unfold borS; rw [slotv_of h]
theorem frz_of {ρ : Envi} {i : Nat} {v : PV} (h : getS ρ i = some v) : frzL ρ [i] = ρ := by
  unfold frzL frzL frz1; rw [slotv_of h]
/-! ### subscripts -/
theorem ix_lst {α : Type} (enc : α → PV) {L : List α} {i : Int} {x : α} (h0 : 0 ≤ i) (h : L[i.toNat]? = some x) : pIdx (.lst (L.map enc)) (.int i) = some (enc x) := by
  have hk := (List.getElem?_eq_some_iff.mp h).1
  show (ixN (L.map enc).length i).bind (fun j => (L.map enc)[j]?) = _
  rw [List.length_map, ixN_ok h0 (by omega), Option.bind_some, List.getElem?_map, h]; rfl
theorem ix_tup {α : Type} (enc : α → PV) {L : List α} {i : Int} {x : α} (h0 : 0 ≤ i) (h : L[i.toNat]? = some x) : pIdx (.tup (L.map enc)) (.int i) = some (enc x) := ix_lst enc h0 h
theorem ix_last {α : Type} (enc : α → PV) {L : List α} {x : α} (h : L.getLast? = some x) : pIdx (.lst (L.map enc)) (.int (-1)) = some (enc x) := by
  rw [List.getLast?_eq_getElem?] at h
  have hk := (List.getElem?_eq_some_iff.mp h).1
  show (ixN (L.map enc).length (-1)).bind (fun j => (L.map enc)[j]?) = _
  have : ixN L.length (-1) = some (L.length - 1) := by
    unfold ixN
    rw [if_neg (by decide), if_pos (by omega)]
    congr 1
    omega
  rw [List.length_map, this, Option.bind_some, List.getElem?_map, h]; rfl
theorem lst_add {a b : List PV} (h : a.length + b.length ≤ 1000000) : pBin .add (.lst a) (.lst b) = some (.lst (a ++ b)) := by
  show (if a.length + b.length ≤ LIM then some (PV.lst (a ++ b)) else none) = _
  rw [if_pos h]
theorem tup_add {a b : List PV} (h : a.length + b.length ≤ 1000000) : pBin .add (.tup a) (.tup b) = some (.tup (a ++ b)) := by
  show (if a.length + b.length ≤ LIM then some (PV.tup (a ++ b)) else none) = _
  rw [if_pos h]
/-- xs + (k,) of ints -/
theorem row_add {r : List Int} {k : Int} (h : r.length ≤ 1000) : pBin .add (.tup (r.map .int)) (.tup [.int k]) = some (.tup ((r ++ [k]).map .int)) := by
  rw [tup_add (by simp; omega)]; simp
/-! ### comprehensions over encoded lists -/
section
variable {α β : Type} {Φ : Fns} {ρ : Envi} {D : DS} {own own2 : List Nat} {ce : CE} {pt pt2 : Pat} {ci ci2 : CI} {ct ct2 : CEs}
theorem lcG (enc : α → PV) (xs : List α) (f : α → List PV) (hi : evi Φ ci ρ D = some (xs.map enc, D)) (H : ∀ x ∈ xs, st1 Φ own ce pt ct ρ (enc x) D = some (f x, D)) : ev Φ (.lc1 own ce pt ci ct) ρ D = some (.lst (xs.flatMap f), D) := by
  have : lcF (st1 Φ own ce pt ct ρ) (xs.map enc) D = some (xs.flatMap f, D) := by
    clear hi
    induction xs with
    | nil => rfl
    | cons x xs ih =>
      rw [List.map_cons, lcF, H x List.mem_cons_self, Option.bind_some, ih fun y hy => H y (List.mem_cons_of_mem _ hy)]
      rfl
  rw [ev_lc1, hi, Option.bind_some, this]; rfl
theorem lcP (enc : α → PV) (xs : List α) (p : α → Bool) (g : α → PV) (hi : evi Φ ci ρ D = some (xs.map enc, D)) (H : ∀ x ∈ xs, st1 Φ own ce pt ct ρ (enc x) D = some (if p x then [g x] else [], D)) : ev Φ (.lc1 own ce pt ci ct) ρ D = some (.lst ((xs.filter p).map g), D) := by
  rw [lcG enc xs _ hi H, flatMap_if]
theorem lcM (enc : α → PV) (xs : List α) (g : α → PV) (hi : evi Φ ci ρ D = some (xs.map enc, D)) (H : ∀ x ∈ xs, st1 Φ own ce pt ct ρ (enc x) D = some ([g x], D)) : ev Φ (.lc1 own ce pt ci ct) ρ D = some (.lst (xs.map g), D) := by
  rw [lcG enc xs _ hi H]
  have : ∀ xs : List α, (xs.flatMap fun x => [g x]) = xs.map g := fun xs => by
    induction xs with
    | nil => rfl
    | cons x xs ih => rw [List.flatMap_cons, ih]; rfl
  rw [this]
theorem lc2G (enc : α → PV) (xs : List α) (enc2 : β → PV) (ys : α → List β) (h : α → β → List PV) (r1 : α → Envi) (hi : evi Φ ci ρ D = some (xs.map enc, D)) (H1 : ∀ x ∈ xs, bindP pt (enc x) (wipE ρ own) = some (r1 x)) (H2 : ∀ x ∈ xs, evt Φ ct (r1 x) D = some (true, D))
    (H3 : ∀ x ∈ xs, evi Φ ci2 (r1 x) D = some ((ys x).map enc2, D)) (H4 : ∀ x ∈ xs, ∀ y ∈ ys x, st1 Φ own2 ce pt2 ct2 (r1 x) (enc2 y) D = some (h x y, D)) (hl : (xs.flatMap fun x => (ys x).flatMap (h x)).length ≤ 1000000) :
    ev Φ (.lc2 own ce pt ci ct own2 pt2 ci2 ct2) ρ D = some (.lst (xs.flatMap fun x => (ys x).flatMap (h x)), D) := by
  have inner : ∀ (ys : List β) (ρ1 : Envi) (h : β → List PV), (∀ y ∈ ys, st1 Φ own2 ce pt2 ct2 ρ1 (enc2 y) D = some (h y, D)) → lcF (st1 Φ own2 ce pt2 ct2 ρ1) (ys.map enc2) D = some (ys.flatMap h, D) := fun ys ρ1 h H => by
    induction ys with
    | nil => rfl
    | cons x xs ih =>
      rw [List.map_cons, lcF, H x List.mem_cons_self, Option.bind_some, ih fun y hy => H y (List.mem_cons_of_mem _ hy)]
      rfl
  have outer : lcF (fun x D1 => (bindP pt x (wipE ρ own)).bind fun ρ1 => (evt Φ ct ρ1 D1).bind fun c => if c.1 then (evi Φ ci2 ρ1 c.2).bind fun r2 => lcF (st1 Φ own2 ce pt2 ct2 ρ1) r2.1 r2.2 else some ([], c.2)) (xs.map enc) D = some (xs.flatMap fun x => (ys x).flatMap (h x), D) := by
    clear hi hl
    induction xs with
    | nil => rfl
    | cons x xs ih =>
      rw [List.map_cons, lcF, H1 x List.mem_cons_self, Option.bind_some, H2 x List.mem_cons_self, Option.bind_some, if_pos rfl, H3 x List.mem_cons_self, Option.bind_some, inner _ _ _ (H4 x List.mem_cons_self), Option.bind_some,
        ih (fun y hy => H1 y (List.mem_cons_of_mem _ hy)) (fun y hy => H2 y (List.mem_cons_of_mem _ hy)) (fun y hy => H3 y (List.mem_cons_of_mem _ hy)) (fun y hy => H4 y (List.mem_cons_of_mem _ hy))]
      rfl
  show ((evi Φ ci ρ D).bind fun r => (lcF (fun x D1 => (bindP pt x (wipE ρ own)).bind fun ρ1 => (evt Φ ct ρ1 D1).bind fun c => if c.1 then (evi Φ ci2 ρ1 c.2).bind fun r2 => lcF (st1 Φ own2 ce pt2 ct2 ρ1) r2.1 r2.2 else some ([], c.2)) r.1 r.2).bind fun q => if q.1.length ≤ LIM then some (PV.lst q.1, q.2) else none) = _
  rw [hi, Option.bind_some, outer, Option.bind_some, if_pos hl]
/-! ### loops over encoded lists -/
theorem forF {σ : Type} {f : PV → Envi → DS → XR} (enc : α → PV) (R : σ → Envi → Prop) (step : σ → α → σ) : ∀ (xs : List α) (s : σ) (ρ : Envi), R s ρ → (∀ s x ρ, x ∈ xs → R s ρ → ∃ o ρ', f (enc x) ρ D = some (o, ρ', D) ∧ (o = .nx ∨ o = .ct) ∧ R (step s x) ρ') →
    ∃ ρ', forL f (xs.map enc) ρ D = some (.nx, ρ', D) ∧ R (xs.foldl step s) ρ'
  | [], s, ρ, h, _ => ⟨ρ, rfl, h⟩
  | x :: xs, s, ρ, h, H => by
    obtain ⟨o, ρ1, e1, ho, h1⟩ := H s x ρ List.mem_cons_self h
    obtain ⟨ρ2, e2, h2⟩ := forF enc R step xs (step s x) ρ1 h1 fun s y ρ hy hr => H s y ρ (List.mem_cons_of_mem _ hy) hr
    refine ⟨ρ2, ?_, h2⟩
    rw [List.map_cons, forL, e1, Option.bind_some]
    rcases ho with rfl | rfl <;> exact e2
/-- .. that may end by a value -/
theorem forE {σ : Type} {f : PV → Envi → DS → XR} (enc : α → PV) (R : σ → Envi → Prop) (step : σ → α → Except PV σ) : ∀ (xs : List α) (s : σ) (ρ : Envi), R s ρ → (∀ s x ρ, x ∈ xs → R s ρ → match step s x with
      | .ok s' => ∃ o ρ', f (enc x) ρ D = some (o, ρ', D) ∧ (o = .nx ∨ o = .ct) ∧ R s' ρ'
      | .error v => ∃ ρ', f (enc x) ρ D = some (.rt v, ρ', D)) →
    match xs.foldlM step s with
      | .ok s' => ∃ ρ', forL f (xs.map enc) ρ D = some (.nx, ρ', D) ∧ R s' ρ'
      | .error v => ∃ ρ', forL f (xs.map enc) ρ D = some (.rt v, ρ', D)
  | [], s, ρ, h, _ => ⟨ρ, rfl, h⟩
  | x :: xs, s, ρ, h, H => by
    have h1 := H s x ρ List.mem_cons_self h
    rw [List.foldlM_cons]
    cases e : step s x with
    | error v =>
      rw [e] at h1
      obtain ⟨ρ1, e1⟩ := h1
      show ∃ ρ', _
      refine ⟨ρ1, ?_⟩
      rw [List.map_cons, forL, e1, Option.bind_some]
    | ok s1 =>
      rw [e] at h1
      obtain ⟨o, ρ1, e1, ho, h1⟩ := h1
      have h2 := forE enc R step xs s1 ρ1 h1 fun s y ρ hy hr => H s y ρ (List.mem_cons_of_mem _ hy) hr
      show match xs.foldlM step s1 with
        | .ok s' => _
        | .error v => _
      have cn : forL f ((x :: xs).map enc) ρ D = forL f (xs.map enc) ρ1 D := by
        rw [List.map_cons, forL, e1, Option.bind_some]
        rcases ho with rfl | rfl <;> rfl
      rw [cn]
      exact h2
end
/-! ### the order of ints and tuples of these -/
mutual
def gd : PV → Bool
  | .int _ => true
  | .tup xs => gdL xs
  | _ => false
def gdL : List PV → Bool
  | [] => true
  | x :: xs => gd x && gdL xs
end
theorem gdL_all : ∀ {xs : List PV}, gdL xs = xs.all gd
  | [] => rfl
  | x :: xs => by rw [gdL, List.all_cons, gdL_all]
theorem gdL_ints (ns : List Int) : gdL (ns.map .int) = true := by
  induction ns with
  | nil => rfl
  | cons n ns ih => rw [List.map_cons, gdL, ih]; rfl
mutual
theorem peq_gd : ∀ (x y : PV), gd x = true → gd y = true → (peq x y = true ↔ x = y)
  | .int i, .int j, _, _ => by rw [peq_int]; simp
  | .int i, .tup ys, _, _ => by rw [peq] <;> simp
  | .tup xs, .int j, _, _ => by rw [peq] <;> simp
  | .tup xs, .tup ys, h1, h2 => by
    rw [peq, peqs_gd xs ys h1 h2]; simp
theorem peqs_gd : ∀ (xs ys : List PV), gdL xs = true → gdL ys = true → (peqs xs ys = true ↔ xs = ys)
  | [], [], _, _ => by rw [peqs]; simp
  | [], _ :: _, _, _ => by rw [peqs] <;> simp
  | _ :: _, [], _, _ => by rw [peqs] <;> simp
  | x :: xs, y :: ys, h1, h2 => by
    rw [gdL, Bool.and_eq_true] at h1 h2
    rw [peqs, Bool.and_eq_true, peq_gd x y h1.1 h2.1, peqs_gd xs ys h1.2 h2.2]; simp
end
mutual
theorem plt_irr : ∀ (x : PV), gd x = true → plt x x = false
  | .int i, _ => by rw [plt]; simp
  | .tup xs, h => by rw [plt]; exact pltL_irr xs h
theorem pltL_irr : ∀ (xs : List PV), gdL xs = true → pltL xs xs = false
  | [], _ => by rw [pltL]
  | x :: xs, h => by
    rw [gdL, Bool.and_eq_true] at h
    rw [pltL, if_pos ((peq_gd x x h.1 h.1).mpr rfl)]
    exact pltL_irr xs h.2
end
mutual
theorem plt_con : ∀ (x y : PV), gd x = true → gd y = true → cmpOk x y = true → plt x y = false → plt y x = false → x = y
  | .int i, .int j, _, _, _, h1, h2 => by
    rw [plt] at h1 h2
    have a := of_decide_eq_false h1
    have b := of_decide_eq_false h2
    congr 1; omega
  | .int i, .tup ys, _, _, h, _, _ => absurd h (by simp [cmpOk])
  | .tup xs, .int j, _, _, h, _, _ => absurd h (by simp [cmpOk])
  | .tup xs, .tup ys, g1, g2, h, h1, h2 => by
    rw [cmpOk] at h
    rw [plt] at h1 h2
    rw [pltL_con xs ys g1 g2 h h1 h2]
theorem pltL_con : ∀ (xs ys : List PV), gdL xs = true → gdL ys = true → cmpOkL xs ys = true → pltL xs ys = false → pltL ys xs = false → xs = ys
  | [], [], _, _, _, _, _ => rfl
  | [], _ :: _, _, _, _, h, _ => by rw [pltL] at h; cases h
  | _ :: _, [], _, _, _, _, h => by rw [pltL] at h; cases h
  | x :: xs, y :: ys, g1, g2, h, h1, h2 => by
    rw [gdL, Bool.and_eq_true] at g1 g2
    rw [cmpOkL, Bool.and_eq_true] at h
    rw [pltL] at h1 h2
    by_cases e : x = y
    · subst e
      rw [if_pos ((peq_gd x x g1.1 g1.1).mpr rfl)] at h1 h2
      rw [pltL_con xs ys g1.2 g2.2 h.2 h1 h2]
    · rw [if_neg (fun q => e ((peq_gd x y g1.1 g2.1).mp q))] at h1
      rw [if_neg (fun q => e ((peq_gd y x g2.1 g1.1).mp q).symm)] at h2
      exact absurd (plt_con x y g1.1 g2.1 h.1 h1 h2) e
end
mutual
theorem plt_tr : ∀ (x y z : PV), gd x = true → gd y = true → gd z = true → plt x y = true → plt y z = true → plt x z = true
  | .int i, .int j, .int k, _, _, _, h1, h2 => by
    rw [plt] at h1 h2 ⊢
    have a := of_decide_eq_true h1
    have b := of_decide_eq_true h2
    exact decide_eq_true (by omega)
  | .int i, .int j, .tup zs, _, _, _, _, h => absurd h (by simp [plt])
  | .int i, .tup ys, _, _, _, _, h, _ => absurd h (by simp [plt])
  | .tup xs, .int j, _, _, _, _, h, _ => absurd h (by simp [plt])
  | .tup xs, .tup ys, .int k, _, _, _, _, h => absurd h (by simp [plt])
  | .tup xs, .tup ys, .tup zs, g1, g2, g3, h1, h2 => by
    rw [plt] at h1 h2 ⊢
    exact pltL_tr xs ys zs g1 g2 g3 h1 h2
theorem pltL_tr : ∀ (xs ys zs : List PV), gdL xs = true → gdL ys = true → gdL zs = true → pltL xs ys = true → pltL ys zs = true → pltL xs zs = true
  | [], [], _, _, _, _, h, _ => by rw [pltL] at h; cases h
  | _ :: _, [], _, _, _, _, h, _ => by rw [pltL] at h; cases h
  | _, _ :: _, [], _, _, _, _, h => by rw [pltL] at h; cases h
  | [], _ :: _, _ :: _, _, _, _, _, _ => by rw [pltL]
  | x :: xs, y :: ys, z :: zs, g1, g2, g3, h1, h2 => by
    rw [gdL, Bool.and_eq_true] at g1 g2 g3
    rw [pltL] at h1 h2 ⊢
    by_cases e1 : x = y
    · subst e1
      rw [if_pos ((peq_gd x x g1.1 g1.1).mpr rfl)] at h1
      by_cases e2 : x = z
      · subst e2
        rw [if_pos ((peq_gd x x g1.1 g1.1).mpr rfl)] at h2 ⊢
        exact pltL_tr xs ys zs g1.2 g2.2 g3.2 h1 h2
      · have e3 : ¬ peq x z = true := fun q => e2 ((peq_gd x z g1.1 g3.1).mp q)
        rw [if_neg e3] at h2 ⊢
        exact h2
    · rw [if_neg (fun q => e1 ((peq_gd x y g1.1 g2.1).mp q))] at h1
      by_cases e2 : y = z
      · subst e2
        rw [if_neg (fun q => e1 ((peq_gd x y g1.1 g2.1).mp q))]
        exact h1
      · rw [if_neg (fun q => e2 ((peq_gd y z g2.1 g3.1).mp q))] at h2
        have t := plt_tr x y z g1.1 g2.1 g3.1 h1 h2
        have e3 : ¬ peq x z = true := fun q => by
          obtain rfl := (peq_gd x z g1.1 g3.1).mp q
          rw [plt_irr x g1.1] at t; cases t
        rw [if_neg e3]
        exact t
end
/-- ints and tuples of these, any two of them comparable -/
structure Cmp (xs : List PV) : Prop where
  g : ∀ x ∈ xs, gd x = true
  o : ordOk xs = true
theorem Cmp.c {xs : List PV} (h : Cmp xs) {x y : PV} (hx : x ∈ xs) (hy : y ∈ xs) : cmpOk x y = true := by
  have := List.all_eq_true.mp h.o x hx
  rw [Bool.and_eq_true] at this
  exact List.all_eq_true.mp this.2 y hy
theorem Cmp.ext {xs ys : List PV} (h : Cmp xs) (e : ∀ y ∈ ys, y ∈ xs) : Cmp ys := by
  refine ⟨fun x hx => h.g x (e x hx), List.all_eq_true.mpr fun x hx => ?_⟩
  have := List.all_eq_true.mp h.o x (e x hx)
  rw [Bool.and_eq_true] at this ⊢
  exact ⟨this.1, List.all_eq_true.mpr fun y hy => List.all_eq_true.mp this.2 y (e y hy)⟩
theorem Cmp.of {α : Type} {enc : α → PV} (L : List α) (h1 : ∀ a, gd (enc a) = true) (h2 : ∀ a, shp DEP (enc a) = true) (h3 : ∀ a b, cmpOk (enc a) (enc b) = true) : Cmp (L.map enc) := by
  refine ⟨fun x hx => ?_, List.all_eq_true.mpr fun x hx => ?_⟩
  · obtain ⟨a, _, rfl⟩ := List.mem_map.mp hx
    exact h1 a
  · obtain ⟨a, _, rfl⟩ := List.mem_map.mp hx
    rw [h2, Bool.true_and]
    refine List.all_eq_true.mpr fun y hy => ?_
    obtain ⟨b, _, rfl⟩ := List.mem_map.mp hy
    exact h3 a b
theorem minL_ok : ∀ (xs : List PV) (a : PV), Cmp (a :: xs) → ∃ r, minL a xs = r ∧ r ∈ a :: xs ∧ ∀ y ∈ a :: xs, plt y r = false
  | [], a, h => ⟨a, rfl, List.mem_cons_self, fun y hy => by
    rw [List.mem_singleton] at hy
    subst hy
    exact plt_irr y (h.g y List.mem_cons_self)⟩
  | x :: xs, a, h => by
    have gx := h.g x (List.mem_cons_of_mem _ List.mem_cons_self)
    have ga := h.g a List.mem_cons_self
    by_cases e : plt x a = true
    · obtain ⟨r, h1, h2, h3⟩ := minL_ok xs x (h.ext fun y hy => List.mem_cons_of_mem _ hy)
      refine ⟨r, ?_, List.mem_cons_of_mem _ h2, fun y hy => ?_⟩
      · show (xs.foldl _ (if plt x a = true then x else a)) = r
        rw [if_pos e]; exact h1
      · rcases List.mem_cons.mp hy with rfl | hy
        · cases q : plt y r with
          | false => rfl
          | true =>
            have := plt_tr x y r gx ga (h.g r (List.mem_cons_of_mem _ h2)) e q
            rw [h3 x List.mem_cons_self] at this; cases this
        · exact h3 y hy
    · obtain ⟨r, h1, h2, h3⟩ := minL_ok xs a (h.ext fun y hy => by
        rcases List.mem_cons.mp hy with rfl | hy
        · exact List.mem_cons_self
        · exact List.mem_cons_of_mem _ (List.mem_cons_of_mem _ hy))
      have hr : r ∈ a :: x :: xs := by
        rcases List.mem_cons.mp h2 with rfl | h2
        · exact List.mem_cons_self
        · exact List.mem_cons_of_mem _ (List.mem_cons_of_mem _ h2)
      refine ⟨r, ?_, hr, fun y hy => ?_⟩
      · show (xs.foldl _ (if plt x a = true then x else a)) = r
        rw [if_neg e]; exact h1
      · rcases List.mem_cons.mp hy with rfl | hy
        · exact h3 y List.mem_cons_self
        · rcases List.mem_cons.mp hy with rfl | hy
          · cases q : plt y r with
            | false => rfl
            | true =>
              have e' : plt y a = false := by simpa using e
              cases q2 : plt a y with
              | true =>
                have := plt_tr a y r ga gx (h.g r hr) q2 q
                rw [h3 a List.mem_cons_self] at this; cases this
              | false =>
                have := plt_con a y ga gx (h.c List.mem_cons_self (List.mem_cons_of_mem _ List.mem_cons_self)) q2 e'
                subst this
                rw [h3 a List.mem_cons_self] at q; cases q
          · exact h3 y (List.mem_cons_of_mem _ hy)
theorem pMin_ok {xs : List PV} (h : Cmp xs) (hne : xs ≠ []) : ∃ r, pMin xs = some r ∧ r ∈ xs ∧ ∀ y ∈ xs, plt y r = false := by
  cases xs with
  | nil => exact absurd rfl hne
  | cons a xs =>
    obtain ⟨r, h1, h2, h3⟩ := minL_ok xs a h
    refine ⟨r, ?_, h2, h3⟩
    show (if ordOk (a :: xs) then some (minL a xs) else none) = _
    rw [if_pos h.o, h1]
theorem min_uni {xs : List PV} (h : Cmp xs) {r s : PV} (hr : r ∈ xs) (hs : s ∈ xs) (h1 : ∀ y ∈ xs, plt y r = false) (h2 : ∀ y ∈ xs, plt y s = false) : r = s :=
  plt_con r s (h.g r hr) (h.g s hs) (h.c hr hs) (h2 r hr) (h1 s hs)
/-- the least of lists with the same members is the same -/
theorem pMin_ext {xs ys : List PV} (h : Cmp xs) (hne : xs ≠ []) (e : ∀ x, x ∈ xs ↔ x ∈ ys) : pMin xs = pMin ys := by
  have hy : Cmp ys := h.ext fun y hy => (e y).mpr hy
  have hne2 : ys ≠ [] := fun z => by
    cases xs with
    | nil => exact hne rfl
    | cons a xs =>
      have := (e a).mp List.mem_cons_self
      rw [z] at this; cases this
  obtain ⟨r, e1, m1, l1⟩ := pMin_ok h hne
  obtain ⟨s, e2, m2, l2⟩ := pMin_ok hy hne2
  rw [e1, e2, min_uni h m1 ((e s).mpr m2) l1 fun y hy => l2 y ((e y).mp hy)]
theorem pSort_ok {xs : List PV} (h : Cmp xs) (ht : srtOk xs = true) : ∃ s, pSort xs = some s ∧ s.Perm xs ∧ s.Pairwise fun a b => plt b a = false := by
  refine ⟨xs.mergeSort fun a b => !plt b a, ?_, List.mergeSort_perm _ _, ?_⟩
  · show (if ordOk xs && srtOk xs then some _ else none) = _
    rw [if_pos (by rw [h.o, ht]; rfl)]
  · have tot : ∀ a b : {x // x ∈ xs}, (!plt b.1 a.1 || !plt a.1 b.1) = true := fun a b => by
      cases q : plt b.1 a.1 with
      | false => rfl
      | true =>
        cases q2 : plt a.1 b.1 with
        | false => rfl
        | true =>
          have := plt_tr _ _ _ (h.g _ a.2) (h.g _ b.2) (h.g _ a.2) q2 q
          rw [plt_irr _ (h.g _ a.2)] at this; cases this
    have tr : ∀ a b c : {x // x ∈ xs}, (!plt b.1 a.1) = true → (!plt c.1 b.1) = true → (!plt c.1 a.1) = true := fun a b c h1 h2 => by
      rw [Bool.not_eq_true'] at h1 h2 ⊢
      cases q : plt c.1 a.1 with
      | false => rfl
      | true =>
        cases q2 : plt b.1 c.1 with
        | true =>
          have := plt_tr _ _ _ (h.g _ b.2) (h.g _ c.2) (h.g _ a.2) q2 q
          rw [h1] at this; cases this
        | false =>
          have := plt_con _ _ (h.g _ b.2) (h.g _ c.2) (h.c b.2 c.2) q2 h2
          rw [this, q] at h1; cases h1
    have p := List.pairwise_mergeSort (le := fun a b : {x // x ∈ xs} => !plt b.1 a.1) (fun a b c => tr a b c) (fun a b => tot a b) xs.attach
    have e : (xs.attach.mergeSort fun a b => !plt b.1 a.1).map Subtype.val = xs.mergeSort fun a b => !plt b a := by
      rw [List.map_mergeSort (s := fun a b => !plt b a) (fun _ _ _ _ => rfl), List.attach_map_subtype_val]
    rw [← e, List.pairwise_map]
    exact p.imp fun {a b} q => by simpa using q
/-- the first of those that stay in a sorted list is the least of them -/
theorem srt_head {s : List PV} (h : Cmp s) (hp : s.Pairwise fun a b => plt b a = false) (p : PV → Bool) (hne : s.filter p ≠ []) : pMin (s.filter p) = (s.filter p)[0]? := by
  have hc : Cmp (s.filter p) := h.ext fun y hy => (List.mem_filter.mp hy).1
  obtain ⟨r, e1, m1, l1⟩ := pMin_ok hc hne
  have hp2 := hp.sublist (List.filter_sublist (p := p))
  cases q : s.filter p with
  | nil => exact absurd q hne
  | cons a t =>
    rw [q] at hp2 hc m1 l1 e1
    rw [e1]
    show some r = some a
    rw [min_uni hc m1 List.mem_cons_self l1 fun y hy => ?_]
    rcases List.mem_cons.mp hy with rfl | hy
    · exact plt_irr y (hc.g y List.mem_cons_self)
    · exact (List.pairwise_cons.mp hp2).1 y hy
/-! ### subsets -/
section
variable {α : Type}
def subsP (p : List α → Bool) (ks : List α) : List (List α) := ks.foldl (fun rows k => rows ++ (rows.filter p).map (· ++ [k])) [[]]
def subs (ks : List α) : List (List α) := ks.foldl (fun rows k => rows ++ rows.map (· ++ [k])) [[]]
theorem snoc_ind {P : List α → Prop} (h0 : P []) (h1 : ∀ ks k, P ks → P (ks ++ [k])) (ks : List α) : P ks := by
  have : ∀ l : List α, P l.reverse := fun l => by
    induction l with
    | nil => exact h0
    | cons a l ih => rw [List.reverse_cons]; exact h1 _ _ ih
  rw [← List.reverse_reverse ks]
  exact this _
theorem sub_snoc {r ks : List α} {k : α} : r.Sublist (ks ++ [k]) ↔ r.Sublist ks ∨ ∃ s, r = s ++ [k] ∧ s.Sublist ks := by
  rw [List.sublist_append_iff]
  constructor
  · rintro ⟨l1, l2, rfl, h1, h2⟩
    rcases List.sublist_cons_iff.mp h2 with h3 | ⟨r, e, h3⟩
    · have e := List.sublist_nil.mp h3
      subst e
      rw [List.append_nil]; exact .inl h1
    · have e2 := List.sublist_nil.mp h3
      subst e2 e
      exact .inr ⟨l1, rfl, h1⟩
  · rintro (h | ⟨s, rfl, h⟩)
    · exact ⟨r, [], by simp, h, List.nil_sublist _⟩
    · exact ⟨s, [k], rfl, h, List.Sublist.refl _⟩
theorem mem_subs {r : List α} (ks : List α) : r ∈ subs ks ↔ r.Sublist ks := by
  unfold subs
  revert r
  refine snoc_ind (P := fun ks => ∀ {r : List α}, r ∈ ks.foldl (fun rows k => rows ++ rows.map (· ++ [k])) [[]] ↔ r.Sublist ks) ?_ ?_ ks
  · intro r; simp
  · intro ks k ih r
    rw [List.foldl_append, List.foldl_cons, List.foldl_nil, List.mem_append, ih, sub_snoc, List.mem_map]
    constructor
    · rintro (h | ⟨s, hs, rfl⟩)
      · exact .inl h
      · exact .inr ⟨s, rfl, ih.mp hs⟩
    · rintro (h | ⟨s, rfl, hs⟩)
      · exact .inl h
      · exact .inr ⟨s, ih.mpr hs, rfl⟩
/-- at most m of them -/
theorem mem_subsP {r : List α} {m : Int} (hm : 0 ≤ m) (ks : List α) : r ∈ subsP (fun r => decide ((r.length : Int) < m)) ks ↔ r.Sublist ks ∧ (r.length : Int) ≤ m := by
  unfold subsP
  revert r
  refine snoc_ind (P := fun ks => ∀ {r : List α}, r ∈ ks.foldl (fun rows k => rows ++ (rows.filter fun r => decide ((r.length : Int) < m)).map (· ++ [k])) [[]] ↔ r.Sublist ks ∧ (r.length : Int) ≤ m) ?_ ?_ ks
  · intro r
    simp
    intro h; subst h; simpa using hm
  · intro ks k ih r
    rw [List.foldl_append, List.foldl_cons, List.foldl_nil, List.mem_append, ih, sub_snoc, List.mem_map]
    constructor
    · rintro (h | ⟨s, hs, rfl⟩)
      · exact ⟨.inl h.1, h.2⟩
      · rw [List.mem_filter, ih] at hs
        have := of_decide_eq_true hs.2
        exact ⟨.inr ⟨s, rfl, hs.1.1⟩, by simp; omega⟩
    · rintro ⟨h | ⟨s, rfl, hs⟩, hl⟩
      · exact .inl ⟨h, hl⟩
      · right
        have : (s.length : Int) < m := by simp at hl; omega
        exact ⟨s, List.mem_filter.mpr ⟨ih.mpr ⟨hs, by omega⟩, decide_eq_true this⟩, rfl⟩
theorem subs_len (ks : List α) : (subs ks).length = 2 ^ ks.length := by
  unfold subs
  refine snoc_ind (P := fun ks => (ks.foldl (fun rows k => rows ++ rows.map (· ++ [k])) [[]]).length = 2 ^ ks.length) rfl (fun ks k ih => ?_) ks
  · rw [List.foldl_append, List.foldl_cons, List.foldl_nil, List.length_append, List.length_map, ih, List.length_append, List.length_singleton, Nat.pow_succ]; omega
theorem sub_filter {p : α → Bool} {r ks : List α} : r.Sublist (ks.filter p) ↔ r.Sublist ks ∧ ∀ x ∈ r, p x = true := by
  constructor
  · intro h
    exact ⟨h.trans List.filter_sublist, fun x hx => (List.mem_filter.mp (h.subset hx)).2⟩
  · rintro ⟨h1, h2⟩
    have := h1.filter p
    rwa [List.filter_eq_self.mpr h2] at this
end
/-! ### a def's run, a statement at a time -/
section
variable {α : Type} {Φ : Fns} {ρ : Envi} {D D1 D' : DS} {v : PV} {r b : CSs} {e : CE} {i : Nat} {o : Bool} {p : Pat} {it : CI}
theorem run_ex {d : Def} {args : List PV} (hl : args.length = d.np) (h : ∃ ρ', exs Φ d.body (args.map (fun x => some (false, x)) ++ List.replicate (d.nn - d.np) none) D = some (.rt v, ρ', D')) (hD : D'.length = D.length := by rfl) : d.run Φ args D = some (v, D') := by
  obtain ⟨ρ', h⟩ := h
  exact run_rt hl h hD
theorem go_nx {s : CS} {ρ1 : Envi} (h : ex Φ s ρ D = some (.nx, ρ1, D1)) (k : ∃ ρ', exs Φ r ρ1 D1 = some (.rt v, ρ', D')) : ∃ ρ', exs Φ (.cons s r) ρ D = some (.rt v, ρ', D') := by
  obtain ⟨ρ', k⟩ := k
  exact ⟨ρ', by rw [xs_nx h, k]⟩
theorem go_asg (x : PV) (h : ev Φ e ρ D = some (x, D)) (k : ∃ ρ', exs Φ r (ρ.set i (some (o, x))) D = some (.rt v, ρ', D')) : ∃ ρ', exs Φ (.cons (.asg o i e) r) ρ D = some (.rt v, ρ', D') :=
  go_nx (by rw [ex_asg, h]; rfl) k
theorem go_asgD (x : PV) (h : ev Φ e ρ D = some (x, D1)) (k : ∃ ρ', exs Φ r (ρ.set i (some (o, x))) D1 = some (.rt v, ρ', D')) : ∃ ρ', exs Φ (.cons (.asg o i e) r) ρ D = some (.rt v, ρ', D') :=
  go_nx (by rw [ex_asg, h]; rfl) k
theorem go_ret (h : ev Φ e ρ D = some (v, D')) : ∃ ρ', exs Φ (.cons (.ret e) r) ρ D = some (.rt v, ρ', D') :=
  ⟨ρ, by rw [xs_rt (by rw [ex_ret, h]; rfl)]⟩
theorem go_forF {σ : Type} (enc : α → PV) (xs : List α) (R : σ → Envi → Prop) (step : σ → α → σ) (s0 : σ) (hi : evi Φ it ρ D = some (xs.map enc, D)) (h0 : R s0 ρ)
    (H : ∀ s x ρ, x ∈ xs → R s ρ → ∃ o ρ', ((bindP p (enc x) ρ).bind fun ρ1 => exs Φ b ρ1 D) = some (o, ρ', D) ∧ (o = .nx ∨ o = .ct) ∧ R (step s x) ρ')
    (k : ∀ ρ1, R (xs.foldl step s0) ρ1 → ∃ ρ', exs Φ r ρ1 D = some (.rt v, ρ', D')) : ∃ ρ', exs Φ (.cons (.for_ p it b) r) ρ D = some (.rt v, ρ', D') := by
  obtain ⟨ρ1, e1, h1⟩ := forF (f := fun x ρ D => (bindP p x ρ).bind fun ρ1 => exs Φ b ρ1 D) enc R step xs s0 ρ h0 H
  exact go_nx (by rw [ex_for, hi, Option.bind_some]; exact e1) (k ρ1 h1)
theorem go_forE {σ : Type} (enc : α → PV) (xs : List α) (R : σ → Envi → Prop) (step : σ → α → Except PV σ) (s0 : σ) (hi : evi Φ it ρ D = some (xs.map enc, D)) (h0 : R s0 ρ)
    (H : ∀ s x ρ, x ∈ xs → R s ρ → match step s x with
      | .ok s' => ∃ o ρ', ((bindP p (enc x) ρ).bind fun ρ1 => exs Φ b ρ1 D) = some (o, ρ', D) ∧ (o = .nx ∨ o = .ct) ∧ R s' ρ'
      | .error v => ∃ ρ', ((bindP p (enc x) ρ).bind fun ρ1 => exs Φ b ρ1 D) = some (.rt v, ρ', D))
    (k : ∀ s1, xs.foldlM step s0 = .ok s1 → ∀ ρ1, R s1 ρ1 → ∃ ρ', exs Φ r ρ1 D = some (.rt v, ρ', D)) (ke : ∀ w, xs.foldlM step s0 = .error w → v = w) : ∃ ρ', exs Φ (.cons (.for_ p it b) r) ρ D = some (.rt v, ρ', D) := by
  have h := forE (f := fun x ρ D => (bindP p x ρ).bind fun ρ1 => exs Φ b ρ1 D) enc R step xs s0 ρ h0 H
  cases e : xs.foldlM step s0 with
  | ok s1 =>
    rw [e] at h
    obtain ⟨ρ1, e1, h1⟩ := h
    exact go_nx (by rw [ex_for, hi, Option.bind_some]; exact e1) (k s1 e ρ1 h1)
  | error w =>
    rw [e] at h
    obtain ⟨ρ1, e1⟩ := h
    obtain rfl := ke w e
    exact ⟨ρ1, by rw [xs_rt (by rw [ex_for, hi, Option.bind_some]; exact e1)]⟩
end
section
variable {α : Type} {Φ : Fns} {ρ : Envi} {D D1 D' : DS} {v : PV} {r b : CSs} {p : Pat} {it : CI}
theorem forP {σ : Type} {f : PV → Envi → DS → XR} (enc : α → PV) (R : σ → Envi → Prop) (step : σ → α → σ) (s0 : σ) (xs : List α) : ∀ (post pre : List α) (ρ : Envi), xs = pre ++ post → R (pre.foldl step s0) ρ →
    (∀ pre x post ρ, xs = pre ++ x :: post → R (pre.foldl step s0) ρ → ∃ o ρ', f (enc x) ρ D = some (o, ρ', D) ∧ (o = .nx ∨ o = .ct) ∧ R (step (pre.foldl step s0) x) ρ') →
    ∃ ρ', forL f (post.map enc) ρ D = some (.nx, ρ', D) ∧ R (xs.foldl step s0) ρ'
  | [], pre, ρ, e, h, _ => ⟨ρ, rfl, by rw [e, List.append_nil]; exact h⟩
  | x :: post, pre, ρ, e, h, H => by
    obtain ⟨o, ρ1, e1, ho, h1⟩ := H pre x post ρ e h
    obtain ⟨ρ2, e2, h2⟩ := forP enc R step s0 xs post (pre ++ [x]) ρ1 (by rw [e]; simp) (by rw [List.foldl_append]; exact h1) H
    refine ⟨ρ2, ?_, h2⟩
    rw [List.map_cons, forL, e1, Option.bind_some]
    rcases ho with rfl | rfl <;> exact e2
theorem go_forP {σ : Type} (enc : α → PV) (xs : List α) (R : σ → Envi → Prop) (step : σ → α → σ) (s0 : σ) (hi : evi Φ it ρ D = some (xs.map enc, D)) (h0 : R s0 ρ)
    (H : ∀ pre x post ρ, xs = pre ++ x :: post → R (pre.foldl step s0) ρ → ∃ o ρ', ((bindP p (enc x) ρ).bind fun ρ1 => exs Φ b ρ1 D) = some (o, ρ', D) ∧ (o = .nx ∨ o = .ct) ∧ R (step (pre.foldl step s0) x) ρ')
    (k : ∀ ρ1, R (xs.foldl step s0) ρ1 → ∃ ρ', exs Φ r ρ1 D = some (.rt v, ρ', D')) : ∃ ρ', exs Φ (.cons (.for_ p it b) r) ρ D = some (.rt v, ρ', D') := by
  obtain ⟨ρ1, e1, h1⟩ := forP (f := fun x ρ D => (bindP p x ρ).bind fun ρ1 => exs Φ b ρ1 D) enc R step s0 xs xs [] ρ rfl h0 H
  exact go_nx (by rw [ex_for, hi, Option.bind_some]; exact e1) (k ρ1 h1)
theorem mapO_map (f : α → Int) (xs : List α) : mapO intOf (xs.map fun x => PV.int (f x)) = some (xs.map f) := by
  induction xs with
  | nil => rfl
  | cons x xs ih => rw [List.map_cons, mapO_cons, ih]; rfl
theorem pSum_lst (f : α → Int) (xs : List α) : pBi .sum [.lst (xs.map fun x => PV.int (f x))] = some (.int (xs.map f).sum) := by
  show (some (xs.map fun x => PV.int (f x))).bind (fun xs => (mapO intOf xs).map fun ns => PV.int ns.sum) = _
  rw [Option.bind_some, mapO_map]; rfl
theorem rg_succ {a b : Int} (h : a ≤ b) : rg a (b + 1) = rg a b ++ [b] := by
  unfold rg
  have : (b + 1 - a).toNat = (b - a).toNat + 1 := by omega
  rw [this, List.range_succ, List.map_append]
  simp
  omega
theorem rg_nil {a b : Int} (h : b ≤ a) : rg a b = [] := by
  unfold rg
  have : (b - a).toNat = 0 := by omega
  rw [this]; rfl
theorem rg_len (a b : Int) : (rg a b).length = (b - a).toNat := by unfold rg; simp
theorem evi_r1 {e : CE} {m : Int} (h : ev Φ e ρ D = some (.int m, D1)) (h0 : -1000 ≤ m) (h1 : m ≤ 100000) : evi Φ (.rng1 e) ρ D = some ((rg 0 m).map .int, D1) := by
  rw [evi_rng1, h, Option.bind_some, intOf_int, Option.bind_some, if_pos (rngOk_of (by omega) (by omega) (by omega) (by omega)), rngL_rg]
theorem evi_r2 {e f : CE} {a b : Int} {D2 : DS} (h : ev Φ e ρ D = some (.int a, D1)) (h' : ev Φ f ρ D1 = some (.int b, D2)) (h0 : -1000 ≤ a) (h1 : a ≤ 100000) (h2 : -1000 ≤ b) (h3 : b ≤ 100000) : evi Φ (.rng2 e f) ρ D = some ((rg a b).map .int, D2) := by
  rw [evi_rng2, h, Option.bind_some, h', Option.bind_some, intOf_int, Option.bind_some, intOf_int, Option.bind_some, if_pos (rngOk_of (by omega) (by omega) (by omega) (by omega)), rngL_rg]
theorem evi_ov {e : CE} {xs : List PV} (h : ev Φ e ρ D = some (.lst xs, D1)) : evi Φ (.over e) ρ D = some (xs, D1) := by rw [evi_over, h]; rfl
theorem evi_ovT {e : CE} {xs : List PV} (h : ev Φ e ρ D = some (.tup xs, D1)) : evi Φ (.over e) ρ D = some (xs, D1) := by rw [evi_over, h]; rfl
end
theorem foldlM_all {α : Type} (p : α → Bool) (v : PV) (xs : List α) : xs.foldlM (fun (_ : Unit) x => if p x then (.ok () : Except PV Unit) else .error v) () = if xs.all p then .ok () else .error v := by
  induction xs with
  | nil => rfl
  | cons x xs ih =>
    rw [List.foldlM_cons]
    by_cases h : p x = true
    · rw [if_pos h, List.all_cons, h, Bool.true_and]; exact ih
    · rw [if_neg h, List.all_cons, Bool.eq_false_iff.mpr h]; rfl
def hE {β : Type} (w : β → PV) : Option β → Except PV Unit
  | some y => .error (w y)
  | none => .ok ()
/-- a loop that ends at the first c -/
theorem foldlM_find {α : Type} (c : α → Bool) (w : α → PV) (xs : List α) : xs.foldlM (fun (_ : Unit) x => if c x then (.error (w x) : Except PV Unit) else .ok ()) () = hE w (xs.filter c).head? := by
  induction xs with
  | nil => rfl
  | cons x xs ih =>
    rw [List.foldlM_cons]
    by_cases h : c x = true
    · rw [if_pos h, List.filter_cons_of_pos h]; rfl
    · rw [if_neg h, List.filter_cons_of_neg h]; exact ih
theorem foldlM_find2 {α β : Type} (F : α → Except PV Unit) (L : α → List β) (w : β → PV) (hF : ∀ x, F x = hE w (L x).head?) (xs : List α) : xs.foldlM (fun (_ : Unit) x => F x) () = hE w (xs.flatMap L).head? := by
  induction xs with
  | nil => rfl
  | cons x xs ih =>
    rw [List.foldlM_cons, hF, List.flatMap_cons]
    cases e : L x with
    | nil => exact ih
    | cons y ys => rfl
/-- a body that is one loop -/
theorem bd_forE {α σ : Type} {Φ : Fns} {ρ ρ0 : Envi} {D : DS} {b : CSs} {p p0 : Pat} {x0 : PV} {it : CI} {R0 : σ → Envi → Prop} (enc : α → PV) (xs : List α) (R : σ → Envi → Prop) (hR : ∀ s ρ, R s ρ → R0 s ρ) (step : σ → α → Except PV σ) (s0 : σ) (hb : bindP p0 x0 ρ0 = some ρ) (hi : evi Φ it ρ D = some (xs.map enc, D)) (h0 : R s0 ρ)
    (H : ∀ s x ρ, x ∈ xs → R s ρ → match step s x with
      | .ok s' => ∃ o ρ', ((bindP p (enc x) ρ).bind fun ρ1 => exs Φ b ρ1 D) = some (o, ρ', D) ∧ (o = .nx ∨ o = .ct) ∧ R s' ρ'
      | .error v => ∃ ρ', ((bindP p (enc x) ρ).bind fun ρ1 => exs Φ b ρ1 D) = some (.rt v, ρ', D)) :
    match xs.foldlM step s0 with
      | .ok s' => ∃ o ρ', ((bindP p0 x0 ρ0).bind fun ρ1 => exs Φ (.cons (.for_ p it b) .nil) ρ1 D) = some (o, ρ', D) ∧ (o = .nx ∨ o = .ct) ∧ R0 s' ρ'
      | .error v => ∃ ρ', ((bindP p0 x0 ρ0).bind fun ρ1 => exs Φ (.cons (.for_ p it b) .nil) ρ1 D) = some (.rt v, ρ', D) := by
  have h := forE (f := fun x ρ D => (bindP p x ρ).bind fun ρ1 => exs Φ b ρ1 D) enc R step xs s0 ρ h0 H
  rw [hb, Option.bind_some]
  cases e : xs.foldlM step s0 with
  | ok s1 =>
    rw [e] at h
    obtain ⟨ρ1, e1, h1⟩ := h
    exact ⟨.nx, ρ1, by rw [xs_nx (by rw [ex_for, hi, Option.bind_some]; exact e1)]; rfl, .inl rfl, hR _ _ h1⟩
  | error w =>
    rw [e] at h
    obtain ⟨ρ1, e1⟩ := h
    exact ⟨ρ1, by rw [xs_rt (by rw [ex_for, hi, Option.bind_some]; exact e1)]⟩
/-- slices with both ends -/
theorem cut_mid {α : Type} {xs : List α} {i j : Int} (h0 : 0 ≤ i) (h1 : i ≤ j) (h2 : j ≤ xs.length) : cutL xs (some i) (some j) = (xs.drop i.toNat).take (j.toNat - i.toNat) := by
  unfold cutL cutN
  simp only
  rw [if_neg (by omega), if_neg (by omega)]
  rw [Nat.min_eq_left (by omega), Nat.min_eq_left (by omega)]
theorem cut_pre {α : Type} {xs : List α} {j : Int} (h1 : 0 ≤ j) (h2 : j ≤ xs.length) : cutL xs none (some j) = xs.take j.toNat := by
  unfold cutL cutN
  simp only
  rw [if_neg (by omega), Nat.min_eq_left (by omega)]
  simp
theorem pCut_lst {xs : List PV} {lo hi : Option Int} : pCut (.lst xs) lo hi = some (.lst (cutL xs lo hi)) := rfl
theorem pCut_tup {xs : List PV} {lo hi : Option Int} : pCut (.tup xs) lo hi = some (.tup (cutL xs lo hi)) := rfl
theorem cutL_map {α β : Type} (f : α → β) (xs : List α) (lo hi : Option Int) : cutL (xs.map f) lo hi = (cutL xs lo hi).map f := by
  unfold cutL
  rw [List.length_map, List.map_take, List.map_drop]
section
variable {α : Type} {Φ : Fns} {ρ : Envi} {D D1 D' : DS} {v : PV} {r b : CSs} {p : Pat} {it : CI}
/-- .. the state being what the items so far give -/
theorem forEP {σ : Type} {f : PV → Envi → DS → XR} (enc : α → PV) (R : σ → Envi → Prop) (step : σ → α → Except PV σ) (s0 : σ) (xs : List α) : ∀ (post pre : List α) (s : σ) (ρ : Envi), xs = pre ++ post → pre.foldlM step s0 = .ok s → R s ρ →
    (∀ pre x post s ρ, xs = pre ++ x :: post → pre.foldlM step s0 = .ok s → R s ρ → match step s x with
      | .ok s' => ∃ o ρ', f (enc x) ρ D = some (o, ρ', D) ∧ (o = .nx ∨ o = .ct) ∧ R s' ρ'
      | .error v => ∃ ρ', f (enc x) ρ D = some (.rt v, ρ', D)) →
    match xs.foldlM step s0 with
      | .ok s' => ∃ ρ', forL f (post.map enc) ρ D = some (.nx, ρ', D) ∧ R s' ρ'
      | .error v => ∃ ρ', forL f (post.map enc) ρ D = some (.rt v, ρ', D)
  | [], pre, s, ρ, e, hs, h, _ => by
    rw [List.append_nil] at e
    subst e
    rw [hs]
    exact ⟨ρ, rfl, h⟩
  | x :: post, pre, s, ρ, e, hs, h, H => by
    have h1 := H pre x post s ρ e hs h
    cases q : step s x with
    | error v =>
      rw [q] at h1
      obtain ⟨ρ1, e1⟩ := h1
      have : xs.foldlM step s0 = .error v := by
        rw [e, List.foldlM_append, hs]
        show (x :: post).foldlM step s = _
        rw [List.foldlM_cons, q]; rfl
      rw [this]
      show ∃ ρ', _
      refine ⟨ρ1, ?_⟩
      rw [List.map_cons, forL, e1, Option.bind_some]
    | ok s1 =>
      rw [q] at h1
      obtain ⟨o, ρ1, e1, ho, h1⟩ := h1
      have hs2 : (pre ++ [x]).foldlM step s0 = .ok s1 := by
        rw [List.foldlM_append, hs]
        show [x].foldlM step s = _
        rw [List.foldlM_cons, q]; rfl
      have h2 := forEP enc R step s0 xs post (pre ++ [x]) s1 ρ1 (by rw [e]; simp) hs2 h1 H
      have cn : forL f ((x :: post).map enc) ρ D = forL f (post.map enc) ρ1 D := by
        rw [List.map_cons, forL, e1, Option.bind_some]
        rcases ho with rfl | rfl <;> rfl
      rw [cn]
      exact h2
theorem go_forEP {σ : Type} (enc : α → PV) (xs : List α) (R : σ → Envi → Prop) (step : σ → α → Except PV σ) (s0 : σ) (hi : evi Φ it ρ D = some (xs.map enc, D)) (h0 : R s0 ρ)
    (H : ∀ pre x post s ρ, xs = pre ++ x :: post → pre.foldlM step s0 = .ok s → R s ρ → match step s x with
      | .ok s' => ∃ o ρ', ((bindP p (enc x) ρ).bind fun ρ1 => exs Φ b ρ1 D) = some (o, ρ', D) ∧ (o = .nx ∨ o = .ct) ∧ R s' ρ'
      | .error v => ∃ ρ', ((bindP p (enc x) ρ).bind fun ρ1 => exs Φ b ρ1 D) = some (.rt v, ρ', D))
    (k : ∀ s1, xs.foldlM step s0 = .ok s1 → ∀ ρ1, R s1 ρ1 → ∃ ρ', exs Φ r ρ1 D = some (.rt v, ρ', D)) (ke : ∀ w, xs.foldlM step s0 = .error w → v = w) : ∃ ρ', exs Φ (.cons (.for_ p it b) r) ρ D = some (.rt v, ρ', D) := by
  have h := forEP (f := fun x ρ D => (bindP p x ρ).bind fun ρ1 => exs Φ b ρ1 D) enc R step s0 xs xs [] s0 ρ rfl rfl h0 H
  cases e : xs.foldlM step s0 with
  | ok s1 =>
    rw [e] at h
    obtain ⟨ρ1, e1, h1⟩ := h
    exact go_nx (by rw [ex_for, hi, Option.bind_some]; exact e1) (k s1 e ρ1 h1)
  | error w =>
    rw [e] at h
    obtain ⟨ρ1, e1⟩ := h
    obtain rfl := ke w e
    exact ⟨ρ1, by rw [xs_rt (by rw [ex_for, hi, Option.bind_some]; exact e1)]⟩
/-! ### lists with the same first items -/
def FE (xs ys : List α) : Prop := ∀ p : α → Bool, xs.find? p = ys.find? p
theorem findSome_find {β : Type} (g : α → Option β) : ∀ xs : List α, xs.findSome? g = (xs.find? fun x => (g x).isSome).bind g
  | [] => rfl
  | x :: xs => by
    rw [List.findSome?_cons, List.find?_cons]
    cases e : g x with
    | some y => simp [e]
    | none => simp [findSome_find g xs]
theorem FE.flatMap {β : Type} {xs ys : List α} {f g : α → List β} (h : FE xs ys) (h2 : ∀ x ∈ xs, FE (f x) (g x)) (h3 : ∀ x ∈ ys, x ∈ xs) : FE (xs.flatMap f) (ys.flatMap g) := fun p => by
  rw [List.find?_flatMap, List.find?_flatMap, findSome_find, findSome_find]
  have e1 : ∀ zs : List α, (∀ z ∈ zs, z ∈ xs) → (zs.find? fun x => ((f x).find? p).isSome) = zs.find? fun x => ((g x).find? p).isSome := fun zs hz => by
    induction zs with
    | nil => rfl
    | cons z zs ih =>
      rw [List.find?_cons, List.find?_cons, h2 z (hz z List.mem_cons_self) p, ih fun y hy => hz y (List.mem_cons_of_mem _ hy)]
  rw [h, e1 ys h3]
  cases q : ys.find? fun x => ((g x).find? p).isSome with
  | none => rfl
  | some x =>
    show (f x).find? p = (g x).find? p
    exact h2 x (h3 x (List.mem_of_find?_eq_some q)) p
theorem FE.map {β : Type} {xs ys : List α} (h : FE xs ys) (f : α → β) : FE (xs.map f) (ys.map f) := fun p => by
  rw [List.find?_map, List.find?_map, h]
theorem FE.filter {xs ys : List α} (h : FE xs ys) (q : α → Bool) : FE (xs.filter q) (ys.filter q) := fun p => by
  rw [List.find?_filter, List.find?_filter, h]
theorem FE.mem {xs ys : List α} [DecidableEq α] (h : FE xs ys) (x : α) : x ∈ xs ↔ x ∈ ys := by
  have := h fun y => decide (y = x)
  have k : ∀ zs : List α, x ∈ zs ↔ (zs.find? fun y => decide (y = x)).isSome := fun zs => by
    rw [List.find?_isSome]
    exact ⟨fun h => ⟨x, h, by simp⟩, fun ⟨y, h, e⟩ => by simp at e; rw [← e]; exact h⟩
  rw [k, k, this]
theorem FE.head {xs ys : List α} (h : FE xs ys) : xs.head? = ys.head? := by
  have k : ∀ zs : List α, zs.head? = zs.find? fun _ => true := fun zs => by cases zs <;> rfl
  rw [k, k, h]
end
theorem find_srt : ∀ {s : List Int} (p : Int → Bool), s.Pairwise (· ≤ ·) → match s.find? p with
    | some x => x ∈ s ∧ p x = true ∧ ∀ y ∈ s, p y = true → x ≤ y
    | none => ∀ y ∈ s, p y = false
  | [], p, _ => by simp
  | a :: s, p, h => by
    rw [List.pairwise_cons] at h
    rw [List.find?_cons]
    cases e : p a with
    | true =>
      refine ⟨List.mem_cons_self, e, fun y hy _ => ?_⟩
      rcases List.mem_cons.mp hy with rfl | hy
      · exact Int.le_refl _
      · exact h.1 y hy
    | false =>
      have ih := find_srt p h.2
      simp only
      cases q : s.find? p with
      | some x =>
        rw [q] at ih
        refine ⟨List.mem_cons_of_mem _ ih.1, ih.2.1, fun y hy hp => ?_⟩
        rcases List.mem_cons.mp hy with rfl | hy
        · rw [e] at hp; cases hp
        · exact ih.2.2 y hy hp
      | none =>
        rw [q] at ih
        intro y hy
        rcases List.mem_cons.mp hy with rfl | hy
        · exact e
        · exact ih y hy
theorem FE_srt {s t : List Int} (hs : s.Pairwise (· ≤ ·)) (ht : t.Pairwise (· ≤ ·)) (h : ∀ x, x ∈ s ↔ x ∈ t) : FE s t := fun p => by
  have a := find_srt p hs
  have b := find_srt p ht
  cases e1 : s.find? p with
  | none =>
    rw [e1] at a
    cases e2 : t.find? p with
    | none => rfl
    | some y =>
      rw [e2] at b
      have := a y ((h y).mpr b.1)
      rw [b.2.1] at this; cases this
  | some x =>
    rw [e1] at a
    cases e2 : t.find? p with
    | none =>
      rw [e2] at b
      have := b x ((h x).mp a.1)
      rw [a.2.1] at this; cases this
    | some y =>
      rw [e2] at b
      have h1 := a.2.2 y ((h y).mpr b.1) b.2.1
      have h2 := b.2.2 x ((h x).mp a.1) a.2.1
      have : x = y := by omega
      rw [this]
/-! ### sorted ints, with doubles -/
def sI (L : List Int) : List Int := L.mergeSort fun a b => decide (a ≤ b)
theorem pSort_I (L : List Int) : pSort (L.map .int) = some ((sI L).map .int) := by
  show (if ordOk (L.map .int) && srtOk (L.map .int) then some ((L.map PV.int).mergeSort fun a b => !plt b a) else none) = _
  rw [ordOk_ints, srtOk_ints]
  show some ((L.map PV.int).mergeSort fun a b => !plt b a) = _
  unfold sI
  rw [List.map_mergeSort (s := fun a b => !plt b a)]
  intro a _ b _
  rw [plt]
  by_cases h : b < a
  · have : ¬ a ≤ b := by omega
    simp [h, this]
  · have : a ≤ b := by omega
    simp [h, this]
theorem sI_srt (L : List Int) : (sI L).Pairwise (· ≤ ·) := by
  have := List.pairwise_mergeSort (le := fun a b : Int => decide (a ≤ b)) (fun a b c h1 h2 => by simp at *; omega) (fun a b => by simp; omega) L
  exact this.imp fun {a b} h => by simpa using h
theorem sI_mem {L : List Int} {x : Int} : x ∈ sI L ↔ x ∈ L := List.mem_mergeSort
theorem sI_len (L : List Int) : (sI L).length = L.length := List.length_mergeSort L
theorem zipL_map {α β : Type} (f : α → PV) (g : β → PV) : ∀ (a : List α) (b : List β), zipL (a.map f) (b.map g) = (a.zip b).map fun p => .tup [f p.1, g p.2]
  | [], _ => rfl
  | _ :: _, [] => rfl
  | x :: a, y :: b => by
    show (PV.tup [f x, g y]) :: zipL (a.map f) (b.map g) = _
    rw [zipL_map f g a b]; rfl
end MP

/-! MP tl: general lemmas first proved for k13, for the later laws. -/
namespace MP
open PySem
section
variable {D : DS} {n : Nat}
abbrev ET (r : List Int) : PV := .tup (r.map .int)
@[simp] theorem pLenT {xs : List PV} : pBi .len [.tup xs] = some (.int xs.length) := rfl
@[simp] theorem pLenL {xs : List PV} : pBi .len [.lst xs] = some (.int xs.length) := rfl
@[simp] theorem pTupL {xs : List PV} : pBi .tuple [.lst xs] = some (.tup xs) := rfl
@[simp] theorem pTupT {xs : List PV} : pBi .tuple [.tup xs] = some (.tup xs) := rfl
theorem evi_len {Φ : Fns} {ρ : Envi} {e : CE} {xs : List PV} (h : ev Φ e ρ D = some (.tup xs, D)) (hl : xs.length ≤ 1000) : evi Φ (.rng1 (.bi .len (.cons e .nil))) ρ D = some ((rg 0 xs.length).map .int, D) := by
  simp [h, rngOk_of (a := 0) (b := xs.length) (by omega) (by omega) (by omega) (by omega), rngL_rg]
abbrev vI (i : Int) : Option (Bool × PV) := some (false, .int i)
theorem sum_nn : ∀ {xs : List Int}, (∀ x ∈ xs, 0 ≤ x) → 0 ≤ xs.sum
  | [], _ => by simp
  | x :: xs, h => by
    have := sum_nn fun y hy => h y (List.mem_cons_of_mem x hy)
    have := h x List.mem_cons_self
    rw [List.sum_cons]; omega
theorem sum_le {m : Int} : ∀ {xs : List Int}, (∀ x ∈ xs, x ≤ m) → xs.sum ≤ m * xs.length
  | [], _ => by simp
  | x :: xs, h => by
    have := sum_le fun y hy => h y (List.mem_cons_of_mem x hy)
    have := h x List.mem_cons_self
    rw [List.sum_cons, List.length_cons]
    have : m * ((xs.length + 1 : Nat) : Int) = m * xs.length + m := by rw [Int.natCast_add, Int.mul_add]; simp
    omega
def kv (r : List Int) : PV := .tup [.int r.length, ET r]
theorem shp_ET {m : Nat} {r : List Int} : shp (m + 1) (ET r) = true := shp_ints r
theorem kv_gd (r : List Int) : gd (kv r) = true := by
  show (gd (.int r.length) && (gd (ET r) && true)) = true
  have : gd (ET r) = true := gdL_ints r
  rw [this]; rfl
theorem kv_shp (r : List Int) : shp DEP (kv r) = true := by
  show (shp 19 (.int r.length) && (shp 19 (ET r) && true)) = true
  rw [shp_ET]; rfl
theorem cmpL_ints : ∀ a b : List Int, cmpOkL (a.map .int) (b.map .int) = true
  | [], [] => by simp [cmpOkL]
  | [], _ :: _ => by simp [cmpOkL]
  | _ :: _, [] => by simp [cmpOkL]
  | x :: a, y :: b => by simp [cmpOkL, cmpOk, cmpL_ints a b]
theorem kv_cmp (a b : List Int) : cmpOk (kv a) (kv b) = true := by simp [kv, cmpOk, cmpOkL, cmpL_ints]
theorem kv_C (L : List (List Int)) : Cmp (L.map kv) := Cmp.of L kv_gd kv_shp kv_cmp
theorem kv_lt {a b : List Int} (h : a.length < b.length) : plt (kv a) (kv b) = true := by
  have : ¬ (peq (.int a.length) (.int b.length) = true) := by rw [peq_int]; simp; omega
  simp only [kv, plt, pltL]
  rw [if_neg this]
  exact decide_eq_true (by omega)
theorem kv1 {r : List Int} : pIdx (kv r) (.int 1) = some (ET r) := rfl
theorem okv {r : List Int} : opd D (kv r) = some (kv r) := rfl
theorem ints_inj : ∀ {a b : List Int}, a.map PV.int = b.map PV.int → a = b
  | [], [], _ => rfl
  | [], _ :: _, h => by cases h
  | _ :: _, [], h => by cases h
  | x :: a, y :: b, h => by
    rw [List.map_cons, List.map_cons, List.cons.injEq] at h
    have h1 : x = y := by injection h.1
    rw [h1, ints_inj h.2]
theorem kv_inj {a b : List Int} (h : kv a = kv b) : a = b := by
  have : ET a = ET b := by
    have := congrArg (fun v => pIdx v (.int 1)) h
    simpa [kv1] using this
  have h2 : a.map PV.int = b.map PV.int := by injection this
  exact ints_inj h2
theorem min_kv {L : List (List Int)} (h : L ≠ []) : ∃ r ∈ L, pMin (L.map kv) = some (kv r) ∧ ∀ y ∈ L, plt (kv y) (kv r) = false := by
  obtain ⟨v, h1, h2, h3⟩ := pMin_ok (kv_C L) (by simpa using h)
  obtain ⟨r, hr, rfl⟩ := List.mem_map.mp h2
  exact ⟨r, hr, h1, fun y hy => h3 _ (List.mem_map.mpr ⟨y, hy, rfl⟩)⟩
theorem min_kv_uni {a b : List Int} (h1 : plt (kv a) (kv b) = false) (h2 : plt (kv b) (kv a) = false) : a = b :=
  kv_inj (plt_con _ _ (kv_gd a) (kv_gd b) (kv_cmp a b) h1 h2)
theorem yy : pEq (.str "yes") (.str "yes") = some true := by decide +kernel
theorem ny : pEq (.str "no") (.str "yes") = some false := by decide +kernel
theorem enumL_g {α : Type} (enc : α → PV) (d : α) (xs : List α) : enumL (xs.map enc) = (rg 0 xs.length).map fun k => .tup [.int k, enc (xs.getD k.toNat d)] := by
  unfold enumL rg
  apply List.ext_getElem
  · simp
  · intro i h1 h2
    have : i < xs.length := by simpa using h1
    simp [this]
theorem ixT {W : List Int} {k : Int} (h0 : 0 ≤ k) (h1 : k < W.length) : pIdx (ET W) (.int k) = some (.int (W.getD k.toNat 0)) := by
  have hk : k.toNat < W.length := by omega
  refine ix_tup PV.int h0 ?_
  rw [List.getD_eq_getElem?_getD, List.getElem?_eq_getElem hk] <;> rfl
theorem ev_brk {Φ : Fns} {ρ : Envi} {a : CE} {L : List Int} (ha : ev Φ a ρ D = some (.lst (L.map .int), D)) : ev Φ (.ite (.cmp .ne a (.lst .nil)) (.idx a (.int 0)) .non) ρ D = some (match L.head? with
    | some k => PV.int k
    | none => .non, D) := by
  cases L with
  | nil =>
    rw [ev_ite, ev_cmp, ha]
    simp [pCmp]
    rfl
  | cons x L =>
    have e : pCmp .ne (.lst ((x :: L).map .int)) (.lst []) = some true := by
      show (pEq _ _).map _ = _
      rw [pEq_lstN]; simp
    have i0 : pIdx (.lst ((x :: L).map .int)) (.int 0) = some (.int x) := ix_lst PV.int (by decide) rfl
    rw [ev_ite, ev_cmp, ha]
    simp only [Option.bind_some, ev_lst, evs_nil, Option.map_some, opd_lst, e, blOf_bl, if_true, ev_idx, ha, ev_int, i0]
    rfl
def mxf (W : List Int) : Int := W.foldl (fun a y => if a < y then y else a) 0
theorem pMax_mxf (W : List Int) : pBi .max [.tup (.int 0 :: W.map .int)] = some (.int (mxf W)) := by
  have key : ∀ (W : List Int) (a : Int), maxL (.int a) (W.map .int) = .int (W.foldl (fun a y => if a < y then y else a) a) := fun W => by
    induction W with
    | nil => exact fun a => rfl
    | cons x W ih =>
      intro a
      show ((W.map PV.int).foldl _ (if plt (.int a) (.int x) = true then PV.int x else .int a)) = _
      rw [List.foldl_cons]
      have : (if plt (.int a) (.int x) = true then PV.int x else .int a) = .int (if a < x then x else a) := by
        by_cases h : a < x <;> simp [plt, h]
      rw [this]
      exact ih _
  have o : ordOk (.int 0 :: W.map .int) = true := ordOk_ints (0 :: W)
  show (if ordOk (.int 0 :: W.map .int) then some (maxL (.int 0) (W.map .int)) else none) = _
  rw [if_pos o, key]; rfl
abbrev EP (q : Int × Int) : PV := pv2 q
def jst (f : List (Int × Int)) (q : Int × Int) : List (Int × Int) := match f.getLast? with
  | some w => if w.2 = q.1 then f.dropLast ++ [(w.1, q.2)] else f ++ [q]
  | none => f ++ [q]
theorem jst_ne (f : List (Int × Int)) (q : Int × Int) : ∃ h b, jst f q = h ++ [(b, q.2)] := by
  unfold jst
  split
  · split
    · exact ⟨_, _, rfl⟩
    · exact ⟨f, q.1, rfl⟩
  · exact ⟨f, q.1, rfl⟩
theorem jstL (h : List (Int × Int)) (w : Int × Int) (c : Int) : jst (h ++ [w]) (w.2, c) = h ++ [(w.1, c)] := by
  unfold jst
  have e : (h ++ [w]).getLast? = some w := by simp
  rw [e]
  simp
theorem jst_jst (f : List (Int × Int)) (a b c : Int) : jst (jst f (a, b)) (b, c) = jst f (a, c) := by
  cases e : f.getLast? with
  | none =>
    have h1 : ∀ q, jst f q = f ++ [q] := fun q => by unfold jst; rw [e]
    rw [h1, h1]; exact jstL f (a, b) c
  | some w =>
    by_cases hw : w.2 = a
    · have h1 : ∀ d, jst f (a, d) = f.dropLast ++ [(w.1, d)] := fun d => by unfold jst; rw [e]; simp [hw]
      rw [h1, h1]; exact jstL f.dropLast (w.1, b) c
    · have h1 : ∀ d, jst f (a, d) = f ++ [(a, d)] := fun d => by unfold jst; rw [e]; simp [hw]
      rw [h1, h1]; exact jstL f (a, b) c
theorem jst_days (f : List (Int × Int)) (a : Int) : ∀ (m : Nat), ((rg a (a + (m + 1 : Nat))).map fun d => (d, d + 1)).foldl jst f = jst f (a, a + (m + 1 : Nat))
  | 0 => by
    have : rg a (a + (0 + 1 : Nat)) = [a] := by
      show rg a (a + 1) = [a]
      rw [rg_succ (Int.le_refl a), rg_nil (Int.le_refl a)]; rfl
    rw [this]; rfl
  | m + 1 => by
    have e : a + ((m + 1 + 1 : Nat) : Int) = a + ((m + 1 : Nat) : Int) + 1 := by omega
    rw [e, rg_succ (by omega), List.map_append, List.foldl_append, jst_days f a m]
    exact jst_jst f a _ _
theorem jst_span (f : List (Int × Int)) {a b : Int} (h : a < b) : ((rg a b).map fun d => (d, d + 1)).foldl jst f = jst f (a, b) := by
  have e : b = a + (((b - a).toNat - 1 + 1 : Nat) : Int) := by omega
  rw [e]; exact jst_days f a _
theorem join_days : ∀ (G : List (Int × Int)) (f : List (Int × Int)), (∀ q ∈ G, q.1 < q.2) → (((G.flatMap fun q => rg q.1 q.2).map fun d => (d, d + 1))).foldl jst f = G.foldl jst f
  | [], _, _ => rfl
  | q :: G, f, h => by
    rw [List.flatMap_cons, List.map_append, List.foldl_append, jst_span f (h q List.mem_cons_self), join_days G _ fun y hy => h y (List.mem_cons_of_mem _ hy)]; rfl
theorem rg_split {a b c : Int} (h1 : a ≤ b) (h2 : b ≤ c) : rg a c = rg a b ++ rg b c := by
  refine srt_ext (srt_rg _ _) ?_ fun x => ?_
  · show ((rg a b) ++ (rg b c)).Pairwise (· < ·)
    rw [List.pairwise_append]
    refine ⟨srt_rg _ _, srt_rg _ _, fun x hx y hy => ?_⟩
    rw [mem_rg] at hx hy; omega
  · rw [List.mem_append, mem_rg, mem_rg, mem_rg]; omega
theorem filt_all {p : Int → Bool} {xs : List Int} (h : ∀ x ∈ xs, p x = true) : xs.filter p = xs := List.filter_eq_self.mpr h
theorem filt_none {p : Int → Bool} {xs : List Int} (h : ∀ x ∈ xs, p x = false) : xs.filter p = [] := List.filter_eq_nil_iff.mpr fun x hx => by rw [h x hx]; simp
theorem jst_len (f : List (Int × Int)) (q : Int × Int) : (jst f q).length ≤ f.length + 1 := by
  unfold jst
  split
  · split <;> simp
  · simp
theorem jst_lens (L : List (Int × Int)) : ∀ f, (L.foldl jst f).length ≤ f.length + L.length := by
  induction L with
  | nil => exact fun f => Nat.le_refl _
  | cons q L ih =>
    intro f
    have := ih (jst f q)
    have := jst_len f q
    rw [List.foldl_cons, List.length_cons]; omega
theorem cut_last {xs : List PV} : cutL xs none (some (-1)) = xs.dropLast := by
  unfold cutL cutN
  simp only
  rw [if_pos (by decide), List.dropLast_eq_take]
  simp
  congr 1
  omega
theorem ev_jst {Φ : Fns} {ρ : Envi} {a b c : CE} {f : List (Int × Int)} {x y : Int} (hf : f.length ≤ 1000) (ha : ev Φ a ρ D = some (.lst (f.map pv2), D)) (hb : ev Φ b ρ D = some (.int x, D)) (hc : ev Φ c ρ D = some (.int y, D)) :
    ev Φ (.ite (.and_ (.cons (.cmp .ne a (.lst .nil)) (.cons (.cmp .eq (.idx (.idx a (.neg (.int 1))) (.int 1)) b) .nil))) (.bin .add (.cut a .nil (.cons (.neg (.int 1)) .nil)) (.lst (.cons (.tup (.cons (.idx (.idx a (.neg (.int 1))) (.int 0)) (.cons c .nil))) .nil))) (.bin .add a (.lst (.cons (.tup (.cons b (.cons c .nil))) .nil)))) ρ D = some (.lst ((jst f (x, y)).map pv2), D) := by
  have ng : pNeg (.int 1) = some (.int (-1)) := rfl
  have ad : ∀ (f : List (Int × Int)) (u w : Int), f.length ≤ 1000 → pBin .add (.lst (f.map pv2)) (.lst [.tup [.int u, .int w]]) = some (.lst ((f ++ [(u, w)]).map pv2)) := fun f u w h => by
    rw [lst_add (by simp; omega)]; simp [pv2]
  have p0 : ∀ w : Int × Int, pIdx (pv2 w) (.int 0) = some (.int w.1) := fun w => rfl
  have p1 : ∀ w : Int × Int, pIdx (pv2 w) (.int 1) = some (.int w.2) := fun w => rfl
  have po : ∀ w : Int × Int, opd D (pv2 w) = some (pv2 w) := fun w => rfl
  cases e : f.getLast? with
  | none =>
    have hf0 : f = [] := by simpa using e
    subst hf0
    have := ad [] x y (by simp)
    simp at this ha
    have n0 : pEq (.lst []) (.lst []) = some true := rfl
    simp [ha, hb, hc, pCmp, this, jst, n0, pv2]
  | some w =>
    have hne : f ≠ [] := fun z => by rw [z] at e; cases e
    have il := ix_last pv2 e
    have ne : pCmp .ne (.lst (f.map pv2)) (.lst []) = some true := by
      show (pEq _ _).map _ = _
      rw [pEq_lst2N]; simp [hne]
    have hd : (f.map pv2).dropLast = f.dropLast.map pv2 := by rw [List.map_dropLast]
    have a1 := ad f x y hf
    have a2 := ad f.dropLast w.1 y (by simp; omega)
    have hj : jst f (x, y) = if w.2 = x then f.dropLast ++ [(w.1, y)] else f ++ [(x, y)] := by unfold jst; rw [e]
    rw [hj]
    have il1 : ev Φ (.idx a (.neg (.int 1))) ρ D = some (pv2 w, D) := by simp [ha, ng, il]
    have i1 : ev Φ (.idx (.idx a (.neg (.int 1))) (.int 1)) ρ D = some (.int w.2, D) := by rw [ev_idx, il1]; simp [p1, po]
    have i0 : ev Φ (.idx (.idx a (.neg (.int 1))) (.int 0)) ρ D = some (.int w.1, D) := by rw [ev_idx, il1]; simp [p0, po]
    have t : ev Φ (.and_ (.cons (.cmp .ne a (.lst .nil)) (.cons (.cmp .eq (.idx (.idx a (.neg (.int 1))) (.int 1)) b) .nil))) ρ D = some (.bl (w.2 == x), D) := by
      rw [ev_and, evand_cons, ev_cmp, ha, Option.bind_some]
      simp only [ev_lst, evs_nil, Option.map_some, Option.bind_some, opd_lst, ne, blOf_bl, if_true]
      rw [evand_one, ev_cmp, i1, Option.bind_some, hb]
      simp [pCmp]
    rw [ev_ite, t, Option.bind_some, blOf_bl, Option.bind_some]
    by_cases hw : w.2 = x
    · rw [if_pos hw, if_pos (by simpa using hw)]
      have cu : ev Φ (.cut a .nil (.cons (.neg (.int 1)) .nil)) ρ D = some (.lst (f.dropLast.map pv2), D) := by
        rw [ev_cut, ha]
        simp only [Option.bind_some, evo_nil, evo_one, ev_neg, ev_int, ng, Option.map_some, intOf_int, pCut_lst, cut_last, hd]
      rw [ev_bin, cu, Option.bind_some, ev_lst, evs_cons, ev_tup, evs_cons, i0]
      simp only [Option.bind_some, evs_cons, hc, evs_nil, Option.map_some, a2]
    · rw [if_neg hw, if_neg (by simpa using hw)]
      rw [ev_bin, ha, Option.bind_some, ev_lst, evs_cons, ev_tup, evs_cons, hb]
      simp only [Option.bind_some, evs_cons, hc, evs_nil, Option.map_some, a1]
theorem flat_len {α β : Type} (f : α → List β) (c : Nat) : ∀ xs : List α, (∀ x ∈ xs, (f x).length ≤ c) → (xs.flatMap f).length ≤ xs.length * c
  | [], _ => by simp
  | x :: xs, h => by
    have := flat_len f c xs fun y hy => h y (List.mem_cons_of_mem _ hy)
    have := h x List.mem_cons_self
    rw [List.flatMap_cons, List.length_append, List.length_cons, Nat.add_mul]; omega
theorem ET_shp (r : List Int) : shp DEP (ET r) = true := shp_ET
theorem pEq_rows {rows : List (List Int)} : pEq (.lst (rows.map ET)) (.lst []) = some (decide (rows = [])) := by
  show (if (shp DEP (.lst (rows.map ET)) && shp DEP (.lst [])) = true then some (peq (.lst (rows.map ET)) (.lst [])) else none) = _
  have : shp DEP (.lst (rows.map ET)) = true := by
    show (rows.map ET).all (shp 19) = true
    rw [List.all_map, List.all_eq_true]
    exact fun r _ => shp_ET
  rw [this]
  cases rows <;> simp [peq, peqs, shp]
def arow (rows : List (List Int)) (m : Int) : List (List Int) := rows.flatMap fun r => (rg 0 m).map fun k => r ++ [k]
def kc (q : Int × List Int) : PV := .tup [.int q.1, ET q.2]
theorem kc_C (L : List (Int × List Int)) : Cmp (L.map kc) := by
  refine Cmp.of L (fun r => ?_) (fun r => ?_) fun a b => by simp [kc, cmpOk, cmpOkL, cmpL_ints]
  · have : gd (ET r.2) = true := gdL_ints r.2
    simp [kc, gd, gdL, this] <;> exact gdL_ints r.2
  · show (shp 19 (.int r.1) && (shp 19 (ET r.2) && true)) = true
    rw [shp_ET]; simp
theorem kc_lt {a b : Int × List Int} (h : plt (kc a) (kc b) = false) : b.1 ≤ a.1 := by
  by_cases h2 : a.1 < b.1
  · exfalso
    have : ¬ (peq (.int a.1) (.int b.1) = true) := by rw [peq_int]; simp; omega
    simp only [kc, plt, pltL] at h
    rw [if_neg this] at h
    exact absurd h2 (of_decide_eq_false h)
  · omega
theorem min_kc {L : List (Int × List Int)} (h : L ≠ []) : ∃ q ∈ L, pMin (L.map kc) = some (kc q) ∧ ∀ y ∈ L, q.1 ≤ y.1 := by
  obtain ⟨v, h1, h2, h3⟩ := pMin_ok (kc_C L) (by simpa using h)
  obtain ⟨q, hq, rfl⟩ := List.mem_map.mp h2
  exact ⟨q, hq, h1, fun y hy => kc_lt (h3 _ (List.mem_map.mpr ⟨y, hy, rfl⟩))⟩
/-! ### pairs in order -/
theorem pv2_C (L : List (Int × Int)) : Cmp (L.map pv2) := by
  refine Cmp.of L (fun r => ?_) (fun r => ?_) fun a b => by simp [pv2, cmpOk, cmpOkL]
  · simp [pv2, gd, gdL]
  · show (shp 19 (.int r.1) && (shp 19 (.int r.2) && true)) = true
    simp
theorem sort_ex (L : List (Int × Int)) : ∃ S : List (Int × Int), pSort (L.map pv2) = some (S.map pv2) ∧ S.Perm L ∧ S.Pairwise fun a b => ¬ lexlt b a := by
  have ht : srtOk (L.map pv2) = true := by
    unfold srtOk
    rw [Bool.or_eq_true]
    exact .inl (List.all_eq_true.mpr fun x hx => by
      obtain ⟨r, _, rfl⟩ := List.mem_map.mp hx; rfl)
  obtain ⟨s, e, hp, hw⟩ := pSort_ok (pv2_C L) ht
  have : ∀ t : List PV, (∀ x ∈ t, x ∈ L.map pv2) → ∃ S : List (Int × Int), t = S.map pv2 := fun t => by
    induction t with
    | nil => exact fun _ => ⟨[], rfl⟩
    | cons x t ih =>
      intro h
      obtain ⟨S, rfl⟩ := ih fun y hy => h y (List.mem_cons_of_mem _ hy)
      obtain ⟨q, _, rfl⟩ := List.mem_map.mp (h x List.mem_cons_self)
      exact ⟨q :: S, rfl⟩
  obtain ⟨S, rfl⟩ := this s fun x hx => hp.mem_iff.mp hx
  have inj : ∀ a b : Int × Int, pv2 a = pv2 b → a = b := fun a b h => by
    have := congrArg (fun v => (pIdx v (.int 0), pIdx v (.int 1))) h
    simp only [pv2] at this
    have h1 : (PV.int a.1) = .int b.1 := by
      have := (Prod.mk.injEq _ _ _ _ ▸ this).1
      exact Option.some.inj this
    have h2 : (PV.int a.2) = .int b.2 := by
      have := (Prod.mk.injEq _ _ _ _ ▸ this).2
      exact Option.some.inj this
    exact Prod.ext (by injection h1) (by injection h2)
  refine ⟨S, e, ?_, ?_⟩
  · have hinv : ∀ (S L : List (Int × Int)), (S.map pv2).Perm (L.map pv2) → S.Perm L := fun S L h => by
      have g := h.map fun x => match x with
        | .tup [.int a, .int b] => (a, b)
        | _ => (0, 0)
      rw [List.map_map, List.map_map] at g
      have e : ((fun x => match x with
        | PV.tup [.int a, .int b] => (a, b)
        | _ => ((0 : Int), (0 : Int))) ∘ pv2) = id := by funext q; rfl
      rw [e, List.map_id, List.map_id] at g
      exact g
    exact hinv S L hp
  · rw [List.pairwise_map] at hw
    exact hw.imp fun {a b} h => by
      rw [plt_pv2] at h
      exact of_decide_eq_false h
/-- the pairs sorted -/
noncomputable def srtP (L : List (Int × Int)) : List (Int × Int) := (sort_ex L).choose
theorem srtP_eq (L : List (Int × Int)) : pSort (L.map pv2) = some ((srtP L).map pv2) := (sort_ex L).choose_spec.1
theorem srtP_perm (L : List (Int × Int)) : (srtP L).Perm L := (sort_ex L).choose_spec.2.1
theorem srtP_pw (L : List (Int × Int)) : (srtP L).Pairwise fun a b => ¬ lexlt b a := (sort_ex L).choose_spec.2.2
theorem pSorted_pairs (L : List (Int × Int)) : pBi .sorted [.lst (L.map pv2)] = some (.lst ((srtP L).map pv2)) := by
  show (pSort (L.map pv2)).map PV.lst = _
  rw [srtP_eq]; rfl
/-! ### tables of ints by ints -/
def lk (as : List (Int × Int)) (k : Int) : Option Int := (as.find? fun p => decide (p.1 = k)).map (·.2)
def kvI (as : List (Int × Int)) : List (PV × PV) := as.map fun p => (PV.int p.1, PV.int p.2)
theorem lk_none {as : List (Int × Int)} {k : Int} : lk as k = none ↔ k ∉ as.map (·.1) := by
  unfold lk
  rw [Option.map_eq_none_iff, List.find?_eq_none]
  constructor
  · intro h hm
    obtain ⟨p, hp, e⟩ := List.mem_map.mp hm
    exact h p hp (decide_eq_true e)
  · exact fun h p hp e => h (List.mem_map.mpr ⟨p, hp, of_decide_eq_true e⟩)
theorem lk_app {as : List (Int × Int)} {k t j : Int} (h : lk as k = none) : lk (as ++ [(k, t)]) j = if j = k then some t else lk as j := by
  unfold lk at *
  rw [List.find?_append]
  by_cases c : j = k
  · subst c
    rw [if_pos rfl, Option.map_eq_none_iff.mp h]
    simp
  · rw [if_neg c]
    have : ([(k, t)].find? fun p => decide (p.1 = j)) = none := by
      have : ¬ k = j := fun e => c e.symm
      simp [this]
    rw [this, Option.or_none]
theorem lk_mem {as : List (Int × Int)} {k t : Int} (h : lk as k = some t) : (k, t) ∈ as := by
  unfold lk at h
  obtain ⟨p, h1, h2⟩ := Option.map_eq_some_iff.mp h
  have := List.find?_some h1
  have := of_decide_eq_true this
  subst this; subst h2
  exact List.mem_of_find?_eq_some h1
theorem lk_of_mem {as : List (Int × Int)} {k t : Int} (hn : (as.map (·.1)).Nodup) (h : (k, t) ∈ as) : lk as k = some t := by
  induction as with
  | nil => cases h
  | cons p as ih =>
    rw [List.map_cons, List.nodup_cons] at hn
    unfold lk
    rcases List.mem_cons.mp h with rfl | h
    · simp
    · have : ¬ p.1 = k := fun e => hn.1 (by rw [e]; exact List.mem_map.mpr ⟨_, h, rfl⟩)
      rw [List.find?_cons_of_neg (by simpa using this)]
      exact ih hn.2 h
theorem dGet_I (as : List (Int × Int)) (k : Int) : dGet (.int k) (kvI as) = (lk as k).map .int := by
  induction as with
  | nil => rfl
  | cons p as ih =>
    show (if peq (.int p.1) (.int k) then some (PV.int p.2) else dGet (.int k) (kvI as)) = _
    unfold lk
    rw [peq_int, ih]
    by_cases c : p.1 = k
    · simp [c]
    · rw [if_neg (by simpa using c), List.find?_cons_of_neg (by simpa using c)]; rfl
theorem dPut_I {as : List (Int × Int)} {k t : Int} (h : lk as k = none) : dPut (.int k) (.int t) (kvI as) = kvI (as ++ [(k, t)]) := by
  unfold dPut
  have : ((kvI as).any fun p => peq p.1 (.int k)) = false := by
    unfold kvI
    rw [List.any_map, List.any_eq_false]
    intro p hp
    show ¬ peq (.int p.1) (.int k) = true
    rw [peq_int]
    intro e
    rw [beq_iff_eq] at e
    exact lk_none.mp h (List.mem_map.mpr ⟨p, hp, e⟩)
  rw [if_neg (by rw [this]; simp)]
  simp [kvI]
theorem dMerge_I : ∀ (fx acc : List (Int × Int)), ((acc ++ fx).map (·.1)).Nodup → dMerge (kvI acc) (kvI fx) = kvI (acc ++ fx)
  | [], acc, _ => by rw [List.append_nil]; rfl
  | p :: fx, acc, h => by
    have hk : lk acc p.1 = none := lk_none.mpr fun hm => by
      rw [List.map_append, List.nodup_append] at h
      exact h.2.2 p.1 hm p.1 (by simp) rfl
    show dMerge (dPut (.int p.1) (.int p.2) (kvI acc)) (kvI fx) = _
    rw [dPut_I hk, dMerge_I fx (acc ++ [p]) (by simpa using h)]
    simp
theorem dict_I {fx : List (Int × Int)} (h : (fx.map (·.1)).Nodup) : pBi .dict [.lst (fx.map pv2)] = some (.dct 0 (kvI fx)) := by
  have m : ∀ fx : List (Int × Int), mapO pairOf (fx.map pv2) = some (kvI fx) := fun fx => by
    induction fx with
    | nil => rfl
    | cons p t ih => rw [List.map_cons, mapO_cons, ih]; rfl
  have a : ((kvI fx).all fun p => isKey 0 p.1) = true := by
    unfold kvI
    rw [List.all_map, List.all_eq_true]; intro x _; rfl
  show ((mapO pairOf _).bind _) = _
  rw [m, Option.bind_some, if_pos a]
  have := dMerge_I fx [] (by simpa using h)
  rw [show dMerge [] (kvI fx) = dMerge (kvI []) (kvI fx) from rfl, this]; rfl
/-! ### the first that is free, and no doubles -/
theorem nodup_len : ∀ {ks ns : List Int}, ks.Nodup → (∀ x ∈ ks, x ∈ ns) → ks.length ≤ ns.length
  | [], _, _, _ => Nat.zero_le _
  | x :: ks, ns, h, hm => by
    have hx := hm x List.mem_cons_self
    rw [List.nodup_cons] at h
    have := nodup_len (ns := ns.erase x) h.2 fun y hy => (List.mem_erase_of_ne (by rintro rfl; exact h.1 hy)).mpr (hm y (List.mem_cons_of_mem _ hy))
    rw [List.length_erase_of_mem hx] at this
    have : 0 < ns.length := List.length_pos_of_mem hx
    rw [List.length_cons]; omega
theorem nodup_of_len : ∀ {ks ns : List Int}, ks.Nodup → (∀ x ∈ ks, x ∈ ns) → ks.length = ns.length → ns.Nodup
  | [], [], _, _, _ => List.nodup_nil
  | [], _ :: _, _, _, h => by cases h
  | x :: ks, ns, h, hm, hl => by
    have hx := hm x List.mem_cons_self
    have h' := List.nodup_cons.mp h
    have hsub : ∀ y ∈ ks, y ∈ ns.erase x := fun y hy => (List.mem_erase_of_ne (by rintro rfl; exact h'.1 hy)).mpr (hm y (List.mem_cons_of_mem _ hy))
    have hel := List.length_erase_of_mem hx
    have hp : 0 < ns.length := List.length_pos_of_mem hx
    rw [List.length_cons] at hl
    have e := nodup_of_len (ns := ns.erase x) h'.2 hsub (by omega)
    have hx2 : x ∉ ns.erase x := fun hx2 => by
      have := nodup_len (ks := x :: ks) (ns := ns.erase x) h fun y hy => by
        rcases List.mem_cons.mp hy with rfl | hy
        · exact hx2
        · exact hsub y hy
      rw [List.length_cons] at this; omega
    exact (List.perm_cons_erase hx).nodup_iff.mpr (List.nodup_cons.mpr ⟨hx2, e⟩)
def fre (T : Int) (L : List Int) : List Int := (rg 0 T).filter fun t => !decide (t ∈ L)
theorem srt_nodup {L : List Int} (h : Srt L) : L.Nodup := h.imp fun {a b} h e => by omega
theorem fre_ne {T : Int} {L : List Int} (h : (L.length : Int) < T) : fre T L ≠ [] := fun z => by
  have := nodup_len (ks := rg 0 T) (ns := L) (srt_nodup (srt_rg _ _)) fun x hx => by
    have := List.filter_eq_nil_iff.mp z x hx
    simpa using this
  rw [rg_len] at this
  omega
theorem fm_lt {α β : Type} {f : α → Option β} : ∀ {L : List α} {x : α}, x ∈ L → f x = none → (L.filterMap f).length < L.length
  | y :: L, x, hx, h => by
    have hle := List.length_filterMap_le f L
    rcases List.mem_cons.mp hx with e | hx
    · rw [List.filterMap_cons_none (by rw [← e]; exact h), List.length_cons]; omega
    · have ih := fm_lt hx h
      cases q : f y with
      | none => rw [List.filterMap_cons_none q, List.length_cons]; omega
      | some z => rw [List.filterMap_cons_some q, List.length_cons, List.length_cons]; omega
/-- a loop over rows that ends early when none is left -/
theorem early {α β : Type} (f : List α → β → List α) (w : PV) (hf : ∀ x, f [] x = []) : ∀ (xs : List β) (s : List α), s ≠ [] → match xs.foldlM (fun s x => if f s x = [] then (.error w : Except PV (List α)) else .ok (f s x)) s with
    | .ok t => t = xs.foldl f s ∧ t ≠ []
    | .error v => v = w ∧ xs.foldl f s = []
  | [], s, h => ⟨rfl, h⟩
  | x :: xs, s, h => by
    have nil : ∀ xs : List β, xs.foldl f [] = [] := fun xs => by
      induction xs with
      | nil => rfl
      | cons x xs ih => rw [List.foldl_cons, hf, ih]
    rw [List.foldlM_cons, List.foldl_cons]
    by_cases c : f s x = []
    · rw [if_pos c, c, nil]
      exact ⟨rfl, rfl⟩
    · rw [if_neg c]
      exact early f w hf xs (f s x) c
theorem evi_rng_len {Φ : Fns} {ρ : Envi} {e : CE} {xs : List PV} (h : ev Φ e ρ D = some (.lst xs, D)) (hl : xs.length ≤ 1000) : evi Φ (.rng1 (.bi .len (.cons e .nil))) ρ D = some ((rg 0 xs.length).map .int, D) := by
  simp [h, rngOk_of (a := 0) (b := xs.length) (by omega) (by omega) (by omega) (by omega), rngL_rg]
theorem chgO_of {f : PV → Option PV} {i : Nat} {x : PV} {ρ : Envi} (h : ρ[i]? = some (some (true, x))) : chgO f i ρ D = (f x).map fun y => (ρ.set i (some (true, y)), D) := by
  unfold chgO; rw [h]
theorem chg_of {f : PV → Option PV} {i : Nat} {x : PV} {ρ : Envi} (h : ρ[i]? = some (some (true, x))) : chg f i ρ D = (f x).map fun y => (ρ.set i (some (true, y)), D) := by
  unfold chg; rw [h]
theorem any_bl {α : Type} (p : α → Bool) (L : List α) : pBi .any [.lst (L.map fun i => .bl (p i))] = some (.bl (L.any p)) := by
  show ((mapO blOf _).map _) = _
  have : mapO blOf (L.map fun i => PV.bl (p i)) = some (L.map p) := by
    induction L with
    | nil => rfl
    | cons a t ih => rw [List.map_cons, mapO_cons, ih]; rfl
  rw [this]
  simp [List.any_map]
end
end MP

/-! MP tm: for the turns of a law: slots kept, statements one by one, draws in comprehensions. -/
namespace MP
open PySem
section
variable {Φ : Fns} {ρ ρ1 : Envi} {D D1 : DS}
/-- nothing but these slots has changed -/
def Kp (L : List Nat) (ρ ρ' : Envi) : Prop := ρ'.length = ρ.length ∧ ∀ j, j ∉ L → getS ρ' j = getS ρ j
theorem Kp.refl (L : List Nat) (ρ : Envi) : Kp L ρ ρ := ⟨rfl, fun _ _ => rfl⟩
theorem Kp.trans {L : List Nat} {ρ ρ' ρ2 : Envi} (h : Kp L ρ ρ') (h2 : Kp L ρ' ρ2) : Kp L ρ ρ2 := ⟨h2.1.trans h.1, fun j hj => (h2.2 j hj).trans (h.2 j hj)⟩
theorem Kp.set {L : List Nat} {ρ ρ' : Envi} (h : Kp L ρ ρ') {i : Nat} {x : PV} (hi : i ∈ L := by decide) : Kp L ρ (ρ'.set i (some (false, x))) :=
  ⟨by rw [List.length_set, h.1], fun j hj => by
    have : i ≠ j := fun e => hj (by rw [← e]; exact hi)
    rw [getS_set, if_neg this]; exact h.2 j hj⟩
theorem Kp.setO {L : List Nat} {ρ ρ' : Envi} (h : Kp L ρ ρ') {i : Nat} {x : PV} (hi : i ∈ L := by decide) : Kp L ρ (ρ'.set i (some (true, x))) :=
  ⟨by rw [List.length_set, h.1], fun j hj => by
    have : i ≠ j := fun e => hj (by rw [← e]; exact hi)
    rw [getS_setO, if_neg this]; exact h.2 j hj⟩
theorem Kp.get {L : List Nat} {ρ ρ' : Envi} (h : Kp L ρ ρ') {j : Nat} {x : PV} (g : getS ρ j = some x) (hj : j ∉ L := by decide) : getS ρ' j = some x := (h.2 j hj).trans g
theorem go {s : CS} {r : CSs} {Q : Envi → DS → Prop} (h : ex Φ s ρ D = some (.nx, ρ1, D1)) (k : ∃ ρ' D', exs Φ r ρ1 D1 = some (.nx, ρ', D') ∧ Q ρ' D') : ∃ ρ' D', exs Φ (.cons s r) ρ D = some (.nx, ρ', D') ∧ Q ρ' D' := by
  rw [xs_nx h]; exact k
theorem gof {r : CSs} {Q : Envi → DS → Prop} {i : Nat} {v : PV} (h : getS ρ i = some v) (k : ∃ ρ' D', exs Φ r ρ D = some (.nx, ρ', D') ∧ Q ρ' D') : ∃ ρ' D', exs Φ (.frz [i] r) ρ D = some (.nx, ρ', D') ∧ Q ρ' D' := by
  rw [exs_frz, frz_of h]; exact k
theorem bor_own {i : Nat} {x : PV} (h : ρ[i]? = some (some (true, x))) : borS ρ i = some x := by
  unfold borS; rw [h]
theorem ex_forP {α σ : Type} {b : CSs} {p : Pat} {it : CI} (enc : α → PV) (xs : List α) (R : σ → Envi → Prop) (step : σ → α → σ) (s0 : σ) (hi : evi Φ it ρ D = some (xs.map enc, D)) (h0 : R s0 ρ)
    (H : ∀ pre x post ρ, xs = pre ++ x :: post → R (pre.foldl step s0) ρ → ∃ o ρ', ((bindP p (enc x) ρ).bind fun ρ1 => exs Φ b ρ1 D) = some (o, ρ', D) ∧ (o = .nx ∨ o = .ct) ∧ R (step (pre.foldl step s0) x) ρ') : ∃ ρ', ex Φ (.for_ p it b) ρ D = some (.nx, ρ', D) ∧ R (xs.foldl step s0) ρ' := by
  obtain ⟨ρ1, e1, h1⟩ := forP (f := fun x ρ D => (bindP p x ρ).bind fun ρ1 => exs Φ b ρ1 D) enc R step s0 xs xs [] ρ rfl h0 H
  exact ⟨ρ1, by rw [ex_for, hi, Option.bind_some]; exact e1, h1⟩
/-- a comprehension that draws one thing for each item -/
theorem lcX {α : Type} {own : List Nat} {ce : CE} {pt : Pat} {ci : CI} {ct : CEs} {xs : List PV} {D0 : DS} (f : α → PV) (Q : α → Prop) (h : Wst D) (hi : evi Φ ci ρ D0 = some (xs, D)) (H : ∀ x ∈ xs, ∀ D, Wst D → ∃ (y : α) (D' : DS), st1 Φ own ce pt ct ρ x D = some ([f y], D') ∧ Wst D' ∧ Q y) :
    ∃ (ms : List α) (D' : DS), ev Φ (.lc1 own ce pt ci ct) ρ D0 = some (.lst (ms.map f), D') ∧ Wst D' ∧ ms.length = xs.length ∧ ∀ m ∈ ms, Q m := by
  have key : ∀ (xs : List PV) (D : DS), Wst D → (∀ x ∈ xs, ∀ D, Wst D → ∃ (y : α) (D' : DS), st1 Φ own ce pt ct ρ x D = some ([f y], D') ∧ Wst D' ∧ Q y) → ∃ (ms : List α) (D' : DS), lcF (st1 Φ own ce pt ct ρ) xs D = some (ms.map f, D') ∧ Wst D' ∧ ms.length = xs.length ∧ ∀ m ∈ ms, Q m := by
    intro xs
    induction xs with
    | nil => exact fun D h _ => ⟨[], D, rfl, h, rfl, by simp⟩
    | cons x xs ih =>
      intro D h H
      obtain ⟨y, D1, e1, h1, hq⟩ := H x List.mem_cons_self D h
      obtain ⟨ms, D2, e2, h2, hl, hQ⟩ := ih D1 h1 fun m hm => H m (List.mem_cons_of_mem _ hm)
      refine ⟨y :: ms, D2, ?_, h2, by rw [List.length_cons, List.length_cons, hl], fun m hm => ?_⟩
      · rw [lcF, e1, Option.bind_some, e2]; rfl
      · rcases List.mem_cons.mp hm with rfl | hm
        · exact hq
        · exact hQ m hm
  obtain ⟨ms, D', e, h1, h2, h3⟩ := key xs D h H
  refine ⟨ms, D', ?_, h1, h2, h3⟩
  rw [ev_lc1, hi, Option.bind_some, e]; rfl
/-- .. that draws whether and what, for keys -/
theorem lcK {own : List Nat} {ce : CE} {pt : Pat} {ci : CI} {ct : CEs} {ns : List Int} {D0 : DS} (Q : Int × Int → Prop) (h : Wst D) (hi : evi Φ ci ρ D0 = some (ns.map .int, D)) (H : ∀ x ∈ ns, ∀ D, Wst D → ∃ (l : List (Int × Int)) (D' : DS), st1 Φ own ce pt ct ρ (.int x) D = some (l.map pv2, D') ∧ Wst D' ∧ (l = [] ∨ ∃ t, l = [(x, t)] ∧ Q (x, t))) :
    ∃ (fx : List (Int × Int)) (D' : DS), ev Φ (.lc1 own ce pt ci ct) ρ D0 = some (.lst (fx.map pv2), D') ∧ Wst D' ∧ (fx.map (·.1)).Sublist ns ∧ ∀ m ∈ fx, Q m := by
  have key : ∀ (ns : List Int) (D : DS), Wst D → (∀ x ∈ ns, ∀ D, Wst D → ∃ (l : List (Int × Int)) (D' : DS), st1 Φ own ce pt ct ρ (.int x) D = some (l.map pv2, D') ∧ Wst D' ∧ (l = [] ∨ ∃ t, l = [(x, t)] ∧ Q (x, t))) → ∃ (fx : List (Int × Int)) (D' : DS), lcF (st1 Φ own ce pt ct ρ) (ns.map .int) D = some (fx.map pv2, D') ∧ Wst D' ∧ (fx.map (·.1)).Sublist ns ∧ ∀ m ∈ fx, Q m := by
    intro ns
    induction ns with
    | nil => exact fun D h _ => ⟨[], D, rfl, h, List.Sublist.refl _, by simp⟩
    | cons x ns ih =>
      intro D h H
      obtain ⟨l, D1, e1, h1, hq⟩ := H x List.mem_cons_self D h
      obtain ⟨fx, D2, e2, h2, hs, hQ⟩ := ih D1 h1 fun m hm => H m (List.mem_cons_of_mem _ hm)
      refine ⟨l ++ fx, D2, ?_, h2, ?_, fun m hm => ?_⟩
      · rw [List.map_cons, lcF, e1, Option.bind_some, e2, List.map_append]; rfl
      · rcases hq with rfl | ⟨t, rfl, _⟩
        · exact hs.cons _
        · exact hs.cons₂ _
      · rcases List.mem_append.mp hm with hm | hm
        · rcases hq with rfl | ⟨t, rfl, ht⟩
          · cases hm
          · rw [List.mem_singleton.mp hm]; exact ht
        · exact hQ m hm
  obtain ⟨fx, D', e, h1, h2, h3⟩ := key ns D h H
  refine ⟨fx, D', ?_, h1, h2, h3⟩
  rw [ev_lc1, hi, Option.bind_some, e]; rfl
/-- two values asked whether they are alike -/
theorem chkE {c : Nat} {a b : CE} {v : PV} (ak : Φ c [v, v] D = some (.bl true, D)) (hA : ev Φ a ρ D = some (v, D)) (hB : ev Φ b ρ D = some (v, D)) : ev Φ (.not_ (.call c (.cons a (.cons b .nil)))) ρ D = some (.bl false, D) := by
  simp [hA, hB, ak]
theorem chkS {c : Nat} {a b : CE} {v : PV} {s : CSs} (ak : Φ c [v, v] D = some (.bl true, D)) (hA : ev Φ a ρ D = some (v, D)) (hB : ev Φ b ρ D = some (v, D)) : ex Φ (.ife (.not_ (.call c (.cons a (.cons b .nil)))) s .nil) ρ D = some (.nx, ρ, D) := by
  rw [ex_ife, chkE ak hA hB]; rfl
theorem ev_vr {i : Nat} {v : PV} (h : getS ρ i = some v) : ev Φ (.var i) ρ D = some (v, D) := by rw [ev_var, h]; rfl
theorem ev_br {i : Nat} {v : PV} (h : borS ρ i = some v) : ev Φ (.bor i) ρ D = some (v, D) := by rw [ev_bor, h]; rfl
/-- calls with one to four arguments -/
theorem ev_c1 {g : Nat} {a : CE} {x v : PV} {D2 : DS} (h : ev Φ a ρ D = some (x, D1)) (hv : Φ g [x] D1 = some (v, D2)) : ev Φ (.call g (.cons a .nil)) ρ D = some (v, D2) := by
  rw [ev_call, evs_cons, h]
  simp only [evs_nil, Option.bind_some, Option.map_some]
  exact hv
theorem ev_c2 {g : Nat} {a b : CE} {x y v : PV} {D2 D3 : DS} (h : ev Φ a ρ D = some (x, D1)) (h2 : ev Φ b ρ D1 = some (y, D2)) (hv : Φ g [x, y] D2 = some (v, D3)) : ev Φ (.call g (.cons a (.cons b .nil))) ρ D = some (v, D3) := by
  rw [ev_call, evs_cons, h, Option.bind_some, evs_cons, h2]
  simp only [evs_nil, Option.bind_some, Option.map_some]
  exact hv
theorem ev_c3 {g : Nat} {a b c : CE} {x y z v : PV} (h : ev Φ a ρ D = some (x, D)) (h2 : ev Φ b ρ D = some (y, D)) (h3 : ev Φ c ρ D = some (z, D)) (hv : Φ g [x, y, z] D = some (v, D1)) : ev Φ (.call g (.cons a (.cons b (.cons c .nil)))) ρ D = some (v, D1) := by
  rw [ev_call, evs_cons, h, Option.bind_some, evs_cons, h2, Option.bind_some, evs_cons, h3]
  simp only [evs_nil, Option.bind_some, Option.map_some]
  exact hv
theorem ev_c4 {g : Nat} {a b c d : CE} {x y z w v : PV} (h : ev Φ a ρ D = some (x, D)) (h2 : ev Φ b ρ D = some (y, D)) (h3 : ev Φ c ρ D = some (z, D)) (h4 : ev Φ d ρ D = some (w, D)) (hv : Φ g [x, y, z, w] D = some (v, D1)) : ev Φ (.call g (.cons a (.cons b (.cons c (.cons d .nil))))) ρ D = some (v, D1) := by
  rw [ev_call, evs_cons, h, Option.bind_some, evs_cons, h2, Option.bind_some, evs_cons, h3, Option.bind_some, evs_cons, h4]
  simp only [evs_nil, Option.bind_some, Option.map_some]
  exact hv
theorem ev_b1 {f : Bi} {a : CE} {x y v : PV} (h : ev Φ a ρ D = some (x, D1)) (ho : opd D1 x = some y) (hv : pBi f [y] = some v) : ev Φ (.bi f (.cons a .nil)) ρ D = some (v, D1) := by
  rw [ev_bi, evs_cons, h]
  simp only [evs_nil, Option.bind_some, Option.map_some, mapO_cons, mapO_nil, ho, hv]
theorem ev_ix {a b : CE} {x y z v : PV} (h : ev Φ a ρ D = some (x, D)) (h2 : ev Φ b ρ D = some (y, D)) (ho : opd D x = some z) (hv : pIdx z y = some v) : ev Φ (.idx a b) ρ D = some (v, D) := by
  rw [ev_idx, h, Option.bind_some, h2]
  simp only [Option.bind_some, ho, hv, Option.map_some]
theorem ev_t2 {a b : CE} {x y : PV} (h : ev Φ a ρ D = some (x, D)) (h2 : ev Φ b ρ D = some (y, D)) : ev Φ (.tup (.cons a (.cons b .nil))) ρ D = some (.tup [x, y], D) := by
  rw [ev_tup, evs_cons, h, Option.bind_some, evs_cons, h2]; rfl
theorem ev_t3 {a b c : CE} {x y z : PV} (h : ev Φ a ρ D = some (x, D)) (h2 : ev Φ b ρ D = some (y, D)) (h3 : ev Φ c ρ D = some (z, D)) : ev Φ (.tup (.cons a (.cons b (.cons c .nil)))) ρ D = some (.tup [x, y, z], D) := by
  rw [ev_tup, evs_cons, h, Option.bind_some, evs_cons, h2, Option.bind_some, evs_cons, h3]; rfl
theorem ev_bn {op : Bo} {a b : CE} {x y v : PV} (h : ev Φ a ρ D = some (x, D)) (h2 : ev Φ b ρ D = some (y, D)) (hv : pBin op x y = some v) : ev Φ (.bin op a b) ρ D = some (v, D) := by
  rw [ev_bin, h, Option.bind_some, h2]
  simp only [Option.bind_some, hv, Option.map_some]
theorem ev_cm {op : Co} {a b : CE} {x y z : PV} {v : Bool} (h : ev Φ a ρ D = some (x, D)) (h2 : ev Φ b ρ D = some (y, D)) (ho : opd D y = some z) (hv : pCmp op x z = some v) : ev Φ (.cmp op a b) ρ D = some (.bl v, D) := by
  rw [ev_cmp, h, Option.bind_some, h2]
  simp only [Option.bind_some, ho, hv, Option.map_some]
theorem ev_it {c a b : CE} {z : Bool} {v : PV} (h : ev Φ c ρ D = some (.bl z, D)) (h2 : ev Φ (if z then a else b) ρ D = some (v, D1)) : ev Φ (.ite c a b) ρ D = some (v, D1) := by
  rw [ev_ite, h]
  simp only [Option.bind_some, blOf_bl]
  cases z <;> exact h2
theorem ev_nt {a : CE} {z : Bool} (h : ev Φ a ρ D = some (.bl z, D1)) : ev Φ (.not_ a) ρ D = some (.bl (!z), D1) := by
  rw [ev_not, h]; rfl
/-- a test that fails, of two parts -/
theorem ev_o2 {a b : CE} (h : ev Φ a ρ D = some (.bl false, D)) (h2 : ev Φ b ρ D = some (.bl false, D)) : ev Φ (.or_ (.cons a (.cons b .nil))) ρ D = some (.bl false, D) := by
  rw [ev_or, evor_cons, h, Option.bind_some, blOf_bl, Option.bind_some, if_neg (by simp), evor_one, h2]
theorem ex_no {a : CE} {s : CSs} (h : ev Φ a ρ D = some (.bl false, D)) : ex Φ (.ife a s .nil) ρ D = some (.nx, ρ, D) := by
  rw [ex_ife, h]; rfl
theorem ex_as {o : Bool} {i : Nat} {a : CE} {v : PV} (h : ev Φ a ρ D = some (v, D1)) : ex Φ (.asg o i a) ρ D = some (.nx, ρ.set i (some (o, v)), D1) := by
  rw [ex_asg, h]; rfl
end
end MP

/-! MP fr: fractions in least terms, by Rat; Euclid's loop. -/
namespace MP
open PySem
abbrev eQ (q : Rat) : PV := .tup [.int q.num, .int q.den]
/-- a / b in least terms, b > 0 -/
theorem fr_ok (a : Int) {b : Int} (hb : 0 < b) : (Rat.divInt a b).num = a / (Int.gcd a b : Int) ∧ ((Rat.divInt a b).den : Int) = b / (Int.gcd a b : Int) := by
  constructor
  · rw [Rat.num_divInt, Int.sign_eq_one_of_pos hb, Int.one_mul, Int.gcd_comm]
  · rw [Rat.den_divInt, if_neg (by omega), Int.gcd_comm]
    obtain ⟨n, rfl⟩ := Int.eq_ofNat_of_zero_le (Int.le_of_lt hb)
    rw [Int.natAbs_natCast]
    exact Int.natCast_ediv _ _
theorem gcd_pos {a b : Int} (hb : 0 < b) : 0 < (Int.gcd a b : Int) := by
  have := Int.gcd_pos_of_ne_zero_right a (b := b) (by omega)
  omega
theorem gcd_le {a b : Int} (hb : 0 < b) : (Int.gcd a b : Int) ≤ b := Int.le_of_dvd hb (Int.gcd_dvd_right _ _)
theorem fdiv_pos {a d : Int} (hd : 0 < d) : a.fdiv d = a / d := Int.fdiv_eq_ediv_of_nonneg _ (Int.le_of_lt hd)
theorem fmod_pos {a d : Int} (hd : 0 < d) : a.fmod d = a % d := Int.fmod_eq_emod_of_nonneg _ (Int.le_of_lt hd)
/-- how many steps Euclid takes -/
theorem steps : ∀ (m a b : Nat), b < 2 ^ m → ∃ (k : Nat) (f : Nat → Nat × Nat), k ≤ 2 * m ∧ f 0 = (a, b) ∧ (∀ i, i < k → 0 < (f i).2 ∧ f (i + 1) = ((f i).2, (f i).1 % (f i).2)) ∧ (f k).2 = 0 ∧ ∀ i, i ≤ k → Nat.gcd (f i).1 (f i).2 = Nat.gcd a b
  | 0, a, b, h => by
    have : b = 0 := by simpa using h
    subst this
    refine ⟨0, fun _ => (a, 0), by omega, rfl, fun i hi => absurd hi (by omega), rfl, fun i _ => rfl⟩
  | m + 1, a, b, h => by
    have cons : ∀ (b' : Nat) (b0 : 0 < b'), ∀ (a' : Nat) (k : Nat) (f : Nat → Nat × Nat), f 0 = (b', a' % b') → (∀ i, i < k → 0 < (f i).2 ∧ f (i + 1) = ((f i).2, (f i).1 % (f i).2)) → (f k).2 = 0 → (∀ i, i ≤ k → Nat.gcd (f i).1 (f i).2 = Nat.gcd b' (a' % b')) →
        ∃ f' : Nat → Nat × Nat, f' 0 = (a', b') ∧ (∀ i, i < k + 1 → 0 < (f' i).2 ∧ f' (i + 1) = ((f' i).2, (f' i).1 % (f' i).2)) ∧ (f' (k + 1)).2 = 0 ∧ ∀ i, i ≤ k + 1 → Nat.gcd (f' i).1 (f' i).2 = Nat.gcd a' b' := fun b' b0 a' k f h0 hs hk hg => by
      have gc : Nat.gcd b' (a' % b') = Nat.gcd a' b' := by
        rw [Nat.gcd_comm a' b', Nat.gcd_rec b' a', Nat.gcd_comm]
      refine ⟨fun i => match i with
        | 0 => (a', b')
        | i + 1 => f i, rfl, fun i hi => ?_, hk, fun i hi => ?_⟩
      · cases i with
        | zero => exact ⟨b0, h0⟩
        | succ i => exact hs i (by omega)
      · cases i with
        | zero => rfl
        | succ i => exact (hg i (by omega)).trans gc
    by_cases b0 : b = 0
    · subst b0
      refine ⟨0, fun _ => (a, 0), by omega, rfl, fun i hi => absurd hi (by omega), rfl, fun i _ => rfl⟩
    · by_cases r0 : a % b = 0
      · obtain ⟨f', h1, h2, h3, h4⟩ := cons b (by omega) a 0 (fun _ => (b, a % b)) rfl (fun i hi => absurd hi (by omega)) r0 (fun i _ => rfl)
        exact ⟨1, f', by omega, h1, h2, h3, h4⟩
      · have hr : a % b < b := Nat.mod_lt _ (by omega)
        have hlt : b % (a % b) < 2 ^ m := by
          have h1 := Nat.mod_lt b (show 0 < a % b by omega)
          have h2 := Nat.div_add_mod b (a % b)
          have h3 : 1 ≤ b / (a % b) := (Nat.le_div_iff_mul_le (by omega)).mpr (by omega)
          have h4 : (a % b) * 1 ≤ (a % b) * (b / (a % b)) := Nat.mul_le_mul_left _ h3
          rw [Nat.pow_succ] at h
          omega
        obtain ⟨k, f, k1, k2, k3, k4, k5⟩ := steps m (a % b) (b % (a % b)) hlt
        obtain ⟨f', h1, h2, h3, h4⟩ := cons (a % b) (by omega) b k f k2 k3 k4 k5
        obtain ⟨f2, g1, g2, g3, g4⟩ := cons b (by omega) a (k + 1) f' h1 h2 h3 (fun i hi => h4 i hi)
        exact ⟨k + 2, f2, by omega, g1, g2, g3, g4⟩
theorem euc {D : DS} {c : Envi → DS → Option (Bool × DS)} {f : Envi → DS → XR} (R : Nat → Nat → Envi) (hc : ∀ a b, c (R a b) D = some (decide (0 < b), D)) (hf : ∀ a b, 0 < b → f (R a b) D = some (.nx, R b (a % b), D)) (a b : Nat) (hb : b < 2 ^ 1000) :
    whlL c f WH (R a b) D = some (.nx, R (Nat.gcd a b) 0, D) := by
  obtain ⟨k, F, k1, k2, k3, k4, k5⟩ := steps 1000 a b hb
  obtain ⟨ρ', D', e, e2, e3⟩ := while_inv (c := c) (f := f) (P := fun ρ D' => ρ = R (Nat.gcd a b) 0 ∧ D' = D) (fun m ρ D' => ∃ i, i + m = k ∧ ρ = R (F i).1 (F i).2 ∧ D' = D) (fun m ρ D' ⟨i, h1, h2, h3⟩ => by
    subst h2; subst h3
    cases m with
    | zero =>
      left
      have : i = k := by omega
      subst this
      refine ⟨D', ?_, ?_, rfl⟩
      · rw [hc, k4]; rfl
      · have := k5 i (Nat.le_refl _)
        rw [k4, Nat.gcd_zero_right] at this
        rw [k4, this]
    | succ m =>
      right
      obtain ⟨p, q⟩ := k3 i (by omega)
      refine ⟨D', R (F (i + 1)).1 (F (i + 1)).2, D', m, ?_, rfl, ?_, i + 1, by omega, rfl, rfl⟩
      · rw [hc, decide_eq_true p]
      · rw [hf _ _ p, q]) k WH (R a b) D (by show k < 100000; omega) ⟨0, by omega, by rw [k2], rfl⟩
  subst e2; subst e3
  exact e
/-! ### Rat -/
theorem Rat_plus (p q : Rat) : Rat.divInt (p.num * q.den + q.num * p.den) ((p.den : Int) * q.den) = p + q := by
  have h1 : ((p.den : Nat) : Int) ≠ 0 := by have := p.den_pos; omega
  have h2 : ((q.den : Nat) : Int) ≠ 0 := by have := q.den_pos; omega
  rw [← Rat.divInt_add_divInt _ _ h1 h2, Rat.num_divInt_den, Rat.num_divInt_den]
theorem Rat_times (p q : Rat) : Rat.divInt (p.num * q.num) ((p.den : Int) * q.den) = p * q := by
  rw [← Rat.divInt_mul_divInt, Rat.num_divInt_den, Rat.num_divInt_den]
theorem den_pos (q : Rat) : 0 < (q.den : Int) := by have := q.den_pos; omega
theorem mul_okL {a b : Int} (h : a.natAbs < 1000000) : pBin .mul (.int a) (.int b) = some (.int (a * b)) := by
  show (if (-two64 < a ∧ a < two64) ∨ (-two64 < b ∧ b < two64) then some (PV.int (a * b)) else none) = _
  rw [if_pos (.inl (by
    have : two64 = 18446744073709551616 := rfl
    omega))]
/-- 1 / N times a whole number -/
def Fr (N : Nat) (q : Rat) : Prop := ∃ k : Int, q = Rat.divInt k N
theorem Fr.den {N : Nat} {q : Rat} (hN : 0 < N) (h : Fr N q) : q.den ∣ N := by
  obtain ⟨k, rfl⟩ := h
  rw [Rat.den_divInt, if_neg (by omega), Int.natAbs_natCast]
  exact Nat.div_dvd_of_dvd (by
    have := Int.gcd_dvd_left (N : Int) k
    exact Int.natCast_dvd_natCast.mp this)
theorem Fr.le {N : Nat} {q : Rat} (hN : 0 < N) (h : Fr N q) : (q.den : Int) ≤ N := by
  have := Nat.le_of_dvd hN (h.den hN)
  omega
theorem Fr.of {N : Nat} {q : Rat} (hN : 0 < N) (h : q.den ∣ N) : Fr N q := by
  obtain ⟨m, rfl⟩ := h
  have m0 : m ≠ 0 := fun e => by subst e; simp at hN
  refine ⟨q.num * m, ?_⟩
  rw [Int.natCast_mul, Rat.divInt_mul_right (by omega), Rat.num_divInt_den]
theorem Fr.add {N : Nat} (hN : 0 < N) {p q : Rat} (h1 : Fr N p) (h2 : Fr N q) : Fr N (p + q) := by
  obtain ⟨k, rfl⟩ := h1
  obtain ⟨l, rfl⟩ := h2
  refine ⟨k + l, ?_⟩
  have hn : (N : Int) ≠ 0 := by omega
  rw [Rat.divInt_add_divInt _ _ hn hn, ← Int.add_mul, Rat.divInt_mul_right hn]
theorem Fr.mul {N M : Nat} {p q : Rat} (h1 : Fr N p) (h2 : Fr M q) : Fr (N * M) (p * q) := by
  obtain ⟨k, rfl⟩ := h1
  obtain ⟨l, rfl⟩ := h2
  exact ⟨k * l, by rw [Rat.divInt_mul_divInt, Int.natCast_mul]⟩
/-! ### the first number that is no more bad -/
theorem leastI {p : Int → Prop} [DecidablePred p] : ∀ (m : Nat) (a : Int), p (a + m) → ∃ x, a ≤ x ∧ x ≤ a + m ∧ p x ∧ ∀ y, a ≤ y → y < x → ¬ p y
  | 0, a, h => ⟨a, Int.le_refl _, by omega, by simpa using h, fun y h1 h2 => by omega⟩
  | m + 1, a, h => by
    by_cases c : p a
    · exact ⟨a, Int.le_refl _, by omega, c, fun y h1 h2 => by omega⟩
    · obtain ⟨x, h1, h2, h3, h4⟩ := leastI (p := p) m (a + 1) (by rw [show a + 1 + (m : Int) = a + ((m + 1 : Nat) : Int) by omega]; exact h)
      refine ⟨x, by omega, by omega, h3, fun y y1 y2 => ?_⟩
      by_cases e : y = a
      · rw [e]; exact c
      · exact h4 y (by omega) y2
def fstN (N : Int) (p : Int → Bool) : Int := ((rg 0 N).filter fun t => !p t).headD 0
theorem fstN_ok {N m : Int} {p : Int → Bool} (h0 : 0 ≤ m) (h1 : m < N) (hm : p m = false) : 0 ≤ fstN N p ∧ fstN N p ≤ m ∧ p (fstN N p) = false ∧ (∀ y, 0 ≤ y → y < fstN N p → p y = true) ∧ ((rg 0 N).filter fun t => !p t)[0]? = some (fstN N p) := by
  obtain ⟨x, x0, x1, x2, x3⟩ := leastI (p := fun t => p t = false) m.toNat 0 (by rw [show (0 : Int) + (m.toNat : Int) = m by omega]; exact hm)
  have hd := head_srt (r := x) (srt_filter (fun t => !p t) (srt_rg 0 N)) (List.mem_filter.mpr ⟨mem_rg.mpr (by omega), by rw [x2]; rfl⟩) fun y hy => by
    rw [List.mem_filter, mem_rg, Bool.not_eq_true'] at hy
    by_cases c : x ≤ y
    · exact c
    · exact absurd hy.2 (x3 y hy.1.1 (by omega))
  have e : fstN N p = x := by
    unfold fstN
    rw [List.headD_eq_head?_getD, List.head?_eq_getElem?, hd]; rfl
  rw [e]
  refine ⟨x0, by omega, x2, fun y y0 y1 => ?_, hd⟩
  cases q : p y with
  | true => rfl
  | false => exact absurd q (x3 y y0 y1)
theorem fstN_ext {N M m : Int} {p : Int → Bool} (h0 : 0 ≤ m) (h1 : m < N) (h2 : m < M) (hm : p m = false) : fstN N p = fstN M p := by
  obtain ⟨a1, a2, a3, a4, _⟩ := fstN_ok h0 h1 hm
  obtain ⟨b1, b2, b3, b4, _⟩ := fstN_ok h0 h2 hm
  by_cases c : fstN N p < fstN M p
  · have := b4 _ a1 c; rw [a3] at this; cases this
  · by_cases c2 : fstN M p < fstN N p
    · have := a4 _ b1 c2; rw [b3] at this; cases this
    · omega
/-- a while loop that counts up to it -/
theorem while_up {Φ : Fns} {D : DS} {cond : CE} {b : CSs} {N m : Int} {p : Int → Bool} (R : Int → Envi) (hN : N ≤ 1000) (h0 : 0 ≤ m) (h1 : m < N) (hm : p m = false) (hc : ∀ t, 0 ≤ t → t ≤ m → ev Φ cond (R t) D = some (.bl (p t), D)) (hs : ∀ t, exs Φ b (R t) D = some (.nx, R (t + 1), D)) :
    ex Φ (.whl cond b) (R 0) D = some (.nx, R (fstN N p), D) := by
  obtain ⟨x0, x1, x2, x3, _⟩ := fstN_ok h0 h1 hm
  generalize fstN N p = x at *
  obtain ⟨ρ', D', e, e2, e3⟩ := while_inv (P := fun ρ D' => ρ = R x ∧ D' = D) (fun m ρ D' => ∃ y : Int, ρ = R y ∧ D' = D ∧ 0 ≤ y ∧ y + m = x) (c := fun ρ D => (ev Φ cond ρ D).bind fun r => (blOf r.1).map fun z => (z, r.2)) (f := fun ρ D => exs Φ b ρ D) (fun k ρ D' ⟨y, h1, h2, h3, h4⟩ => by
    subst h1; subst h2
    cases k with
    | zero =>
      left
      have : y = x := by omega
      subst this
      refine ⟨D', ?_, rfl, rfl⟩
      rw [hc y h3 x1, x2]; rfl
    | succ k =>
      right
      refine ⟨D', R (y + 1), D', k, ?_, rfl, hs y, y + 1, rfl, rfl, by omega, by omega⟩
      rw [hc y h3 (by omega), x3 y h3 (by omega)]; rfl) x.toNat WH (R 0) D (by show _ < 100000; omega) ⟨0, rfl, rfl, Int.le_refl _, by omega⟩
  subst e2; subst e3
  rw [ex_whl]; exact e
theorem Sm_div {a b : Int} {N : Int} (hb : 0 < b) (hN : b < N) : ((Rat.divInt a b).den : Int) < N := by
  have h := Fr.le (N := b.toNat) (q := Rat.divInt a b) (by omega) ⟨a, by rw [show ((b.toNat : Nat) : Int) = b by omega]⟩
  omega
end MP

/-! MP ls: the laws' deep equality by a list of what waits, of a thing with itself. -/
namespace MP
open PySem
def cSameB : CSs := (.cons (.pop (.tp [(.nm 3), (.nm 4)]) 2)
 (.cons (.ife (.isi .tdct (.var 4)) (.cons (.ife (.or_ (.cons (.not_ (.isi .tdct (.var 3))) (.cons (.cmp .ne (.bi .len (.cons (.var 3) .nil)) (.bi .len (.cons (.var 4) .nil))) (.cons (.cmp .ne (.lc1 [6] (.var 6) (.nm 6) (.over (.var 4)) (.cons (.cmp .nin (.var 6) (.var 3)) .nil)) (.lst .nil)) .nil)))) (.cons (.ret (.bl false))
 .nil) .nil)
 (.cons (.asg false 5 (.bi .dict (.cons (.lc1 [6] (.tup (.cons (.var 6) (.cons (.var 6) .nil))) (.nm 6) (.over (.var 3)) .nil) .nil)))
 (.cons (.ext 2 (.bin .add (.lc1 [6] (.tup (.cons (.idx (.var 3) (.var 6)) (.cons (.idx (.var 4) (.var 6)) .nil))) (.nm 6) (.over (.var 4)) .nil) (.lc1 [6] (.tup (.cons (.idx (.var 5) (.var 6)) (.cons (.var 6) .nil))) (.nm 6) (.over (.var 4)) .nil)))
 .nil))) (.cons (.ife (.or_ (.cons (.isi .ttup (.var 4)) (.cons (.isi .tlst (.var 4)) .nil))) (.cons (.ife (.or_ (.cons (.cmp .ne (.isi .ttup (.var 3)) (.isi .ttup (.var 4))) (.cons (.cmp .ne (.isi .tlst (.var 3)) (.isi .tlst (.var 4))) (.cons (.cmp .ne (.bi .len (.cons (.var 3) .nil)) (.bi .len (.cons (.var 4) .nil))) .nil)))) (.cons (.ret (.bl false))
 .nil) .nil)
 (.cons (.ext 2 (.lc1 [7] (.tup (.cons (.idx (.var 3) (.var 7)) (.cons (.idx (.var 4) (.var 7)) .nil))) (.nm 7) (.rng1 (.bi .len (.cons (.var 4) .nil))) .nil))
 .nil)) (.cons (.ife (.or_ (.cons (.cmp .ne (.isi .tbool (.var 3)) (.isi .tbool (.var 4))) (.cons (.cmp .ne (.isi .tint (.var 3)) (.isi .tint (.var 4))) (.cons (.cmp .ne (.isi .tstr (.var 3)) (.isi .tstr (.var 4))) (.cons (.cmp .ne (.var 3) (.var 4)) .nil))))) (.cons (.ret (.bl false))
 .nil) .nil)
 .nil))
 .nil))
 .nil))
def cSame : CSs := (.cons (.asg true 2 (.lst (.cons (.tup (.cons (.var 0) (.cons (.var 1) .nil))) .nil)))
 (.cons (.whl (.cmp .ne (.bor 2) (.lst .nil)) cSameB)
 (.cons (.ret (.bl true))
 .nil)))
theorem ex_yes {Φ : Fns} {ρ : Envi} {D D1 : DS} {a : CE} {s t : CSs} (h : ev Φ a ρ D = some (.bl true, D1)) : ex Φ (.ife a s t) ρ D = exs Φ s ρ D1 := by
  rw [ex_ife, h]; rfl
theorem ex_els {Φ : Fns} {ρ : Envi} {D D1 : DS} {a : CE} {s t : CSs} (h : ev Φ a ρ D = some (.bl false, D1)) : ex Φ (.ife a s t) ρ D = exs Φ t ρ D1 := by
  rw [ex_ife, h]; rfl
mutual
def sz : PV → Nat
  | .tup xs => 1 + szL xs
  | .lst xs => 1 + szL xs
  | _ => 1
def szL : List PV → Nat
  | [] => 0
  | x :: xs => sz x + szL xs
end
theorem sz_pos (x : PV) : 0 < sz x := by cases x <;> simp [sz] <;> omega
theorem szL_app : ∀ (a b : List PV), szL (a ++ b) = szL a + szL b
  | [], b => by simp [szL]
  | x :: a, b => by rw [List.cons_append, szL, szL_app a b, szL]; omega
theorem szL_len : ∀ a : List PV, a.length ≤ szL a
  | [] => Nat.zero_le _
  | x :: a => by
    have := szL_len a
    have := sz_pos x
    rw [szL, List.length_cons]; omega
abbrev dbl (x : PV) : PV := .tup [x, x]
mutual
theorem peq_rfl : ∀ (d : Nat) (x : PV), shp d x = true → peq x x = true
  | _, .non, _ => by simp [peq]
  | _, .bl b, _ => by simp [peq]
  | _, .int i, _ => by simp [peq]
  | _, .str s, _ => by simp [peq]
  | 0, .tup xs, h => by simp [shp] at h
  | 0, .lst xs, h => by simp [shp] at h
  | d + 1, .tup xs, h => by
    rw [peq]
    exact peqs_rfl d xs (by rw [shp] at h; exact List.all_eq_true.mp h)
  | d + 1, .lst xs, h => by
    rw [peq]
    exact peqs_rfl d xs (by rw [shp] at h; exact List.all_eq_true.mp h)
  | 0, .dct _ _, h => by simp [shp] at h
  | d + 1, .dct _ _, h => by simp [shp] at h
  | 0, .shr _, h => by simp [shp] at h
  | d + 1, .shr _, h => by simp [shp] at h
  | 0, .scr _, h => by simp [shp] at h
  | d + 1, .scr _, h => by simp [shp] at h
  | 0, .lck _, h => by simp [shp] at h
  | d + 1, .lck _, h => by simp [shp] at h
theorem peqs_rfl : ∀ (d : Nat) (xs : List PV), (∀ x ∈ xs, shp d x = true) → peqs xs xs = true
  | _, [], _ => by simp [peqs]
  | d, x :: xs, h => by
    rw [peqs, peq_rfl d x (h x List.mem_cons_self), peqs_rfl d xs fun y hy => h y (List.mem_cons_of_mem _ hy)]; rfl
end
theorem shp_up : ∀ (d : Nat) (x : PV), shp d x = true → shp (d + 1) x = true
  | _, .non, _ => by simp [shp]
  | _, .bl b, _ => by simp [shp]
  | _, .int i, _ => by simp [shp]
  | d, .str s, h => by
    have e : ∀ k, shp k (.str s) = PySem.PyData.strOk s := fun k => by cases k <;> rfl
    rw [e] at h ⊢; exact h
  | 0, .tup xs, h => by simp [shp] at h
  | 0, .lst xs, h => by simp [shp] at h
  | d + 1, .tup xs, h => by
    rw [shp, List.all_eq_true] at h ⊢
    exact fun x hx => shp_up d x (h x hx)
  | d + 1, .lst xs, h => by
    rw [shp, List.all_eq_true] at h ⊢
    exact fun x hx => shp_up d x (h x hx)
  | 0, .dct _ _, h => by simp [shp] at h
  | d + 1, .dct _ _, h => by simp [shp] at h
  | 0, .shr _, h => by simp [shp] at h
  | d + 1, .shr _, h => by simp [shp] at h
  | 0, .scr _, h => by simp [shp] at h
  | d + 1, .scr _, h => by simp [shp] at h
  | 0, .lck _, h => by simp [shp] at h
  | d + 1, .lck _, h => by simp [shp] at h
theorem shp_le {d e : Nat} {x : PV} (h : d ≤ e) (hx : shp d x = true) : shp e x = true := by
  obtain ⟨k, rfl⟩ := Nat.le.dest h
  clear h
  induction k with
  | zero => exact hx
  | succ k ih => exact shp_up _ _ ih
theorem ne_self {x : PV} (h : shp 18 x = true) : pCmp .ne x x = some false := by
  show (if (shp DEP x && shp DEP x) = true then some (peq x x) else none).map _ = _
  rw [shp_le (e := 20) (by decide) h, peq_rfl 18 x h]; rfl
theorem pEq_stk {S : List PV} (h : ∀ x ∈ S, shp 18 x = true) : pCmp .ne (.lst (S.map dbl)) (.lst []) = some (decide (S ≠ [])) := by
  have a : shp DEP (.lst (S.map dbl)) = true := by
    show (S.map dbl).all (shp 19) = true
    rw [List.all_map, List.all_eq_true]
    intro x hx
    show (shp 18 x && (shp 18 x && true)) = true
    rw [h x hx]; rfl
  show (if (shp DEP (.lst (S.map dbl)) && shp DEP (.lst [])) = true then some (peq (.lst (S.map dbl)) (.lst [])) else none).map _ = _
  rw [a]
  cases S <;> simp [peq, peqs, shp]
theorem same_ok {Φ : Fns} {D : DS} {x : PV} (h : shp 18 x = true) (hs : sz x ≤ 50000) : (Def.mk 8 2 cSame).run Φ [x, x] D = some (.bl true, D) := by
  refine run_ex rfl ?_
  unfold cSame
  show ∃ ρ', exs _ _ [some (false, x), some (false, x), none, none, none, none, none, none] _ = _
  refine go_asg (.lst ([x].map dbl)) rfl ?_
  show ∃ ρ', exs _ _ [some (false, x), some (false, x), some (true, .lst ([x].map dbl)), none, none, none, none, none] _ = _
  have W := while_inv (P := fun ρ D' => D' = D) (fun m ρ D' => ∃ (S : List PV) (x0 x1 x3 x4 x5 x6 x7 : Option (Bool × PV)), ρ = [x0, x1, some (true, .lst (S.map dbl)), x3, x4, x5, x6, x7] ∧ D' = D ∧ szL S = m ∧ m ≤ 50000 ∧ ∀ x ∈ S, shp 18 x = true)
    (c := fun ρ D => (ev Φ (.cmp .ne (.bor 2) (.lst .nil)) ρ D).bind fun r => (blOf r.1).map fun z => (z, r.2)) (f := fun ρ D => exs Φ cSameB ρ D) (fun m ρ D' ⟨S, x0, x1, x3, x4, x5, x6, x7, h1, h2, h3, h4, h5⟩ => by
    subst h1; subst h2
    have cnd : ∀ ρ : Envi, borS ρ 2 = some (.lst (S.map dbl)) → (ev Φ (.cmp .ne (.bor 2) (.lst .nil)) ρ D').bind (fun r => (blOf r.1).map fun z => (z, r.2)) = some (decide (S ≠ []), D') := fun ρ hb => by
      rw [ev_cm (ev_br hb) (y := .lst []) rfl rfl (pEq_stk h5)]; rfl
    rcases List.eq_nil_or_concat S with e | ⟨S', y, e⟩
    · left
      subst e
      exact ⟨D', cnd _ rfl, rfl⟩
    · right
      have e : S = S' ++ [y] := by simpa using e
      subst e
      have hy := h5 y (by simp)
      have hl : ((S' ++ [y]).map dbl).getLast? = some (dbl y) := by simp
      have hd : ((S' ++ [y]).map dbl).dropLast = S'.map dbl := by simp
      have pop : ex Φ (.pop (.tp [(.nm 3), (.nm 4)]) 2) [x0, x1, some (true, .lst ((S' ++ [y]).map dbl)), x3, x4, x5, x6, x7] D' = some (.nx, [x0, x1, some (true, .lst (S'.map dbl)), some (false, y), some (false, y), x5, x6, x7], D') := by
        show ((((S' ++ [y]).map dbl).getLast?).bind fun y => (bindP _ y (_ : Envi)).map fun ρ1 => (Out.nx, ρ1, D')) = _
        rw [hl, hd]; rfl
      rw [szL_app] at h3
      have s1 : szL [y] = sz y := by simp [szL]
      rw [s1] at h3
      have seq : ∀ (xs : List PV), (y = .tup xs ∨ y = .lst xs) → ∃ D1 ρ' D2 m', (ev Φ (.cmp .ne (.bor 2) (.lst .nil)) [x0, x1, some (true, .lst ((S' ++ [y]).map dbl)), x3, x4, x5, x6, x7] D').bind (fun r => (blOf r.1).map fun z => (z, r.2)) = some (true, D1) ∧ m = m' + 1 ∧ exs Φ cSameB [x0, x1, some (true, .lst ((S' ++ [y]).map dbl)), x3, x4, x5, x6, x7] D1 = some (.nx, ρ', D2) ∧ ∃ (S : List PV) (x0 x1 x3 x4 x5 x6 x7 : Option (Bool × PV)), ρ' = [x0, x1, some (true, .lst (S.map dbl)), x3, x4, x5, x6, x7] ∧ D2 = D' ∧ szL S = m' ∧ m' ≤ 50000 ∧ ∀ x ∈ S, shp 18 x = true := fun xs hxs => by
        have hsy : sz y = 1 + szL xs := by rcases hxs with rfl | rfl <;> rfl
        have hch : ∀ x ∈ xs, shp 18 x = true := fun x hx => by
          rcases hxs with rfl | rfl
          · rw [shp, List.all_eq_true] at hy
            exact shp_up 17 x (hy x hx)
          · rw [shp, List.all_eq_true] at hy
            exact shp_up 17 x (hy x hx)
        have lx := szL_len xs
        have lS := szL_len S'
        have ix : ∀ i ∈ rg 0 xs.length, pIdx y (.int i) = some (xs.getD i.toNat .non) := fun i hi => by
          obtain ⟨i0, i1⟩ := mem_rg.mp hi
          have : (ixN xs.length i).bind (fun j => xs[j]?) = some (xs.getD i.toNat .non) := by
            rw [ixN_ok i0 i1, Option.bind_some, List.getD_eq_getElem?_getD, List.getElem?_eq_getElem (by omega)]; rfl
          rcases hxs with rfl | rfl <;> exact this
        have oy : opd D' y = some y := by rcases hxs with rfl | rfl <;> rfl
        have ly : pBi .len [y] = some (.int xs.length) := by rcases hxs with rfl | rfl <;> rfl
        have q := lcM (Φ := Φ) (D := D') (ρ := [x0, x1, some (true, .lst (S'.map dbl)), some (false, y), some (false, y), x5, x6, x7]) (own := [7]) (ce := .tup (.cons (.idx (.var 3) (.var 7)) (.cons (.idx (.var 4) (.var 7)) .nil))) (pt := .nm 7) (ci := .rng1 (.bi .len (.cons (.var 4) .nil))) (ct := .nil) PV.int (rg 0 xs.length) (fun i => dbl (xs.getD i.toNat .non)) (evi_r1 (ev_b1 rfl oy ly) (by omega) (by omega)) fun i hi => by
          show ((ev Φ _ [x0, x1, some (true, .lst (S'.map dbl)), some (false, y), some (false, y), x5, x6, vI i] D').map _) = _
          rw [ev_t2 (ev_ix (D := D') rfl rfl oy (ix i hi)) (ev_ix (D := D') rfl rfl oy (ix i hi))]; rfl
        have em : (rg 0 (xs.length : Int)).map (fun i => dbl (xs.getD i.toNat .non)) = xs.map dbl := by
          unfold rg
          rw [List.map_map]
          apply List.ext_getElem
          · simp
          · intro i h1 h2
            have : i < xs.length := by simpa using h2
            simp [this]
        rw [em] at q
        refine ⟨D', [x0, x1, some (true, .lst ((S' ++ xs).map dbl)), some (false, y), some (false, y), x5, x6, x7], D', szL S' + szL xs, (cnd _ rfl).trans (by simp), by omega, ?_, S' ++ xs, _, _, _, _, _, _, _, rfl, rfl, szL_app _ _, by omega, fun x hx => ?_⟩
        · unfold cSameB
          rw [xs_nx pop]
          have b1 : ev Φ (.isi .tdct (.var 4)) [x0, x1, some (true, .lst (S'.map dbl)), some (false, y), some (false, y), x5, x6, x7] D' = some (.bl false, D') := by rcases hxs with rfl | rfl <;> rfl
          have b2 : ev Φ (.or_ (.cons (.isi .ttup (.var 4)) (.cons (.isi .tlst (.var 4)) .nil))) [x0, x1, some (true, .lst (S'.map dbl)), some (false, y), some (false, y), x5, x6, x7] D' = some (.bl true, D') := by rcases hxs with rfl | rfl <;> rfl
          have b3 : ev Φ (.or_ (.cons (.cmp .ne (.isi .ttup (.var 3)) (.isi .ttup (.var 4))) (.cons (.cmp .ne (.isi .tlst (.var 3)) (.isi .tlst (.var 4))) (.cons (.cmp .ne (.bi .len (.cons (.var 3) .nil)) (.bi .len (.cons (.var 4) .nil))) .nil)))) [x0, x1, some (true, .lst (S'.map dbl)), some (false, y), some (false, y), x5, x6, x7] D' = some (.bl false, D') := by
            have pe : pCmp .ne (.int xs.length) (.int xs.length) = some false := by simp [pCmp]
            rcases hxs with rfl | rfl <;> simp [getS, pIs, pe, pCmp, pEq_bl]
          rw [exs_cons, ex_els b1, exs_cons, ex_yes b2, xs_nx (ex_no b3), exs_cons, ex_ext, q, Option.bind_some, chgO_of (x := .lst (S'.map dbl)) rfl]
          have pe : pExt (.lst (xs.map dbl)) (.lst (S'.map dbl)) = some (.lst (S'.map dbl ++ xs.map dbl)) := by
            show (if _ then _ else _) = _
            rw [if_pos (by rw [List.length_map, List.length_map]; show _ ≤ 1000000; omega)]
          rw [pe, List.map_append]; rfl
        · rcases List.mem_append.mp hx with hx | hx
          · exact h5 x (List.mem_append_left _ hx)
          · exact hch x hx
      have leaf : sz y = 1 → ev Φ (.isi .tdct (.var 4)) [x0, x1, some (true, .lst (S'.map dbl)), some (false, y), some (false, y), x5, x6, x7] D' = some (.bl false, D') → ev Φ (.or_ (.cons (.isi .ttup (.var 4)) (.cons (.isi .tlst (.var 4)) .nil))) [x0, x1, some (true, .lst (S'.map dbl)), some (false, y), some (false, y), x5, x6, x7] D' = some (.bl false, D') →
          ev Φ (.or_ (.cons (.cmp .ne (.isi .tbool (.var 3)) (.isi .tbool (.var 4))) (.cons (.cmp .ne (.isi .tint (.var 3)) (.isi .tint (.var 4))) (.cons (.cmp .ne (.isi .tstr (.var 3)) (.isi .tstr (.var 4))) (.cons (.cmp .ne (.var 3) (.var 4)) .nil))))) [x0, x1, some (true, .lst (S'.map dbl)), some (false, y), some (false, y), x5, x6, x7] D' = some (.bl false, D') →
          ∃ D1 ρ' D2 m', (ev Φ (.cmp .ne (.bor 2) (.lst .nil)) [x0, x1, some (true, .lst ((S' ++ [y]).map dbl)), x3, x4, x5, x6, x7] D').bind (fun r => (blOf r.1).map fun z => (z, r.2)) = some (true, D1) ∧ m = m' + 1 ∧ exs Φ cSameB [x0, x1, some (true, .lst ((S' ++ [y]).map dbl)), x3, x4, x5, x6, x7] D1 = some (.nx, ρ', D2) ∧ ∃ (S : List PV) (x0 x1 x3 x4 x5 x6 x7 : Option (Bool × PV)), ρ' = [x0, x1, some (true, .lst (S.map dbl)), x3, x4, x5, x6, x7] ∧ D2 = D' ∧ szL S = m' ∧ m' ≤ 50000 ∧ ∀ x ∈ S, shp 18 x = true := fun hsy b1 b2 b3 => by
        refine ⟨D', [x0, x1, some (true, .lst (S'.map dbl)), some (false, y), some (false, y), x5, x6, x7], D', szL S', (cnd _ rfl).trans (by simp), by omega, ?_, S', _, _, _, _, _, _, _, rfl, rfl, rfl, by omega, fun x hx => h5 x (List.mem_append_left _ hx)⟩
        unfold cSameB
        rw [xs_nx pop, exs_cons, ex_els b1, exs_cons, ex_els b2, xs_nx (ex_no b3)]
        rfl
      cases y with
      | tup xs => exact seq xs (.inl rfl)
      | lst xs => exact seq xs (.inr rfl)
      | non => exact leaf rfl rfl rfl (by simp [getS, pIs, ne_self hy, pCmp, pEq_bl]; rfl)
      | bl b => exact leaf rfl rfl rfl (by simp [getS, pIs, pCmp, pEq_bl])
      | int i => exact leaf rfl rfl rfl (by simp [getS, pIs, pCmp, pEq_bl])
      | str s =>
        have := ne_self hy
        exact leaf rfl rfl rfl (by
          have e : pEq (.str s) (.str s) = some true := by
            show (if (shp DEP (.str s) && shp DEP (.str s)) = true then some (peq (.str s) (.str s)) else none) = _
            rw [shp_le (e := 20) (by decide) hy, peq_rfl 18 _ hy]; rfl
          simp [getS, pIs, pCmp, pEq_bl, e])
      | dct t k => simp [shp] at hy
      | shr i => simp [shp] at hy
      | scr i => simp [shp] at hy
      | lck i => simp [shp] at hy) (sz x) WH [some (false, x), some (false, x), some (true, .lst ([x].map dbl)), none, none, none, none, none] D (by show _ < 100000; omega) ⟨[x], _, _, _, _, _, _, _, rfl, rfl, by simp [szL], hs, fun y hy => by rw [List.mem_singleton.mp hy]; exact h⟩
  obtain ⟨ρ', D', e, e2⟩ := W
  subst e2
  refine go_nx (by rw [ex_whl]; exact e) ?_
  exact go_ret rfl
end MP

/-! K04, the plain law: asks propose, tools keep whom they rank first. No program here. -/
namespace MP.K04
def put (t a : Nat) (o : List (Nat × Nat)) : List (Nat × Nat) := if o.any (fun p => p.1 == t) then o.map (fun p => if p.1 == t then (p.1, a) else p) else o ++ [(t, a)]
theorem look_map (t a u : Nat) : ∀ (o : List (Nat × Nat)), (o.map (fun p => if p.1 == t then (p.1, a) else p)).lookup u = if u = t then (if o.any (fun p => p.1 == t) then some a else none) else o.lookup u
  | [] => by simp
  | (k, b) :: o => by
    have ih := look_map t a u o
    rw [List.map_cons]
    by_cases h : k = t
    · subst h
      simp only [beq_self_eq_true, if_true, List.any_cons, Bool.true_or]
      by_cases hu : u = k
      · subst hu; simp
      · have : (u == k) = false := by simpa using hu
        simp only [List.lookup_cons, this, hu, if_false]
        rw [ih]; simp [hu]
    · have h' : (k == t) = false := by simpa using h
      simp only [h', List.any_cons, Bool.false_or]
      by_cases hu : u = k
      · subst hu
        simp [List.lookup_cons, h]
      · have : (u == k) = false := by simpa using hu
        simp only [List.lookup_cons, this, Bool.false_eq_true, if_false]
        exact ih
theorem look_app (t a u : Nat) : ∀ (o : List (Nat × Nat)), o.any (fun p => p.1 == t) = false → (o ++ [(t, a)]).lookup u = if u = t then some a else o.lookup u
  | [], _ => by
    by_cases h : u = t
    · subst h; simp [List.lookup]
    · have : (u == t) = false := by simpa using h
      simp [List.lookup, this, h]
  | (k, b) :: o, h => by
    rw [List.any_cons, Bool.or_eq_false_iff] at h
    have hk : k ≠ t := by simpa using h.1
    have ih := look_app t a u o h.2
    by_cases hu : u = k
    · subst hu; simp [List.lookup, hk]
    · have : (u == k) = false := by simpa using hu
      simp only [List.cons_append, List.lookup_cons, this]
      exact ih
theorem look_put (t a u : Nat) (o : List (Nat × Nat)) : (put t a o).lookup u = if u = t then some a else o.lookup u := by
  unfold put
  by_cases h : o.any (fun p => p.1 == t) = true
  · rw [if_pos h, look_map, if_pos h]
  · have h' : o.any (fun p => p.1 == t) = false := Bool.eq_false_iff.mpr h
    rw [if_neg h, look_app t a u o h']
theorem put_keys (t a : Nat) (o : List (Nat × Nat)) : (put t a o).map (·.1) = if o.any (fun p => p.1 == t) then o.map (·.1) else o.map (·.1) ++ [t] := by
  unfold put
  split
  · rw [List.map_map]
    apply List.map_congr_left
    intro p _
    simp only [Function.comp]
    split <;> rfl
  · simp
theorem any_key (t : Nat) (o : List (Nat × Nat)) : o.any (fun p => p.1 == t) = true ↔ t ∈ o.map (·.1) := by
  rw [List.any_eq_true, List.mem_map]
  exact ⟨fun ⟨p, h, e⟩ => ⟨p, h, by simpa using e⟩, fun ⟨p, h, e⟩ => ⟨p, h, by simpa using e⟩⟩
theorem put_nodup {t a : Nat} {o : List (Nat × Nat)} (h : (o.map (·.1)).Nodup) : ((put t a o).map (·.1)).Nodup := by
  rw [put_keys]
  split
  · exact h
  · rename_i h2
    rw [any_key] at h2
    rw [List.nodup_append]
    refine ⟨h, by simp, ?_⟩
    intro x hx y hy e
    rw [List.mem_singleton] at hy
    exact h2 (by rw [← hy, ← e]; exact hx)
theorem look_mem : ∀ {o : List (Nat × Nat)} {t a : Nat}, o.lookup t = some a → (t, a) ∈ o
  | (k, b) :: o, t, a, h => by
    rw [List.lookup_cons] at h
    by_cases e : t = k
    · subst e
      simp at h
      simp [h]
    · have : (t == k) = false := by simpa using e
      rw [this] at h
      exact List.mem_cons_of_mem _ (look_mem h)
theorem mem_look : ∀ {o : List (Nat × Nat)} {t a : Nat}, (o.map (·.1)).Nodup → (t, a) ∈ o → o.lookup t = some a
  | (k, b) :: o, t, a, hn, h => by
    rw [List.map_cons, List.nodup_cons] at hn
    rw [List.lookup_cons]
    rcases List.mem_cons.mp h with e | h
    · cases e; simp
    · have : t ≠ k := fun e => hn.1 (by rw [← e]; exact List.mem_map.mpr ⟨(t, a), h, rfl⟩)
      have : (t == k) = false := by simpa using this
      rw [this]
      exact mem_look hn.2 h
section
variable (W R : List (List Nat)) (n m : Nat)
/-- the wishes of ask a; the rank of ask a with tool t -/
abbrev wi (a : Nat) : List Nat := W.getD a []
abbrev rk (t a : Nat) : Nat := (R.getD t []).idxOf a
structure Su : Prop where
  nW : W.length = n
  nR : R.length = m
  nd : ∀ a, (wi W a).Nodup
  lt : ∀ a, ∀ t ∈ wi W a, t < m
  rank : ∀ t, t < m → ∀ a, a < n → ∀ b, b < n → rk R t a = rk R t b → a = b
  rmem : ∀ t, t < m → ∀ a, a < n → a ∈ R.getD t []
  rnd : ∀ t, ∀ a ∈ R.getD t [], a < n
abbrev get (M : List (Option Nat)) (a : Nat) : Option Nat := M.getD a none
structure Valid (M : List (Option Nat)) : Prop where
  len : M.length = n
  mem : ∀ a t, get M a = some t → t ∈ wi W a
  inj : ∀ a b t, get M a = some t → get M b = some t → a = b
def pos (M : List (Option Nat)) (a : Nat) : Nat := match get M a with
  | some t => (wi W a).idxOf t
  | none => (wi W a).length
def Stable (M : List (Option Nat)) : Prop := ∀ a, a < n → ∀ p, p < pos W M a → ∀ t, (wi W a)[p]? = some t → ∃ b, b < n ∧ get M b = some t ∧ ¬ rk R t a < rk R t b
structure Inv (at_ : List Nat) (own : List (Nat × Nat)) (wait : List Nat) : Prop where
  lat : at_.length = n
  le : ∀ a, a < n → at_.getD a 0 ≤ (wi W a).length
  keys : (own.map (·.1)).Nodup
  ow : ∀ t a, own.lookup t = some a → a < n ∧ t < m ∧ ∃ p, at_.getD a 0 = p + 1 ∧ (wi W a)[p]? = some t
  wt : ∀ a ∈ wait, a < n ∧ ∀ t, own.lookup t ≠ some a
  wnd : wait.Nodup
  up : ∀ a, a < n → ∀ p, p < at_.getD a 0 → ∀ t, (wi W a)[p]? = some t → ∃ b, own.lookup t = some b ∧ (b = a ∨ rk R t b < rk R t a)
  no : ∀ M, Valid W n M → Stable W R n M → ∀ a, a < n → ∀ p, p < at_.getD a 0 → ∀ t, (wi W a)[p]? = some t → own.lookup t ≠ some a → get M a ≠ some t
  fin : ∀ a, a < n → a ∉ wait → (∃ t, own.lookup t = some a) ∨ at_.getD a 0 = (wi W a).length
variable {W R n m}
theorem nd_ix {xs : List Nat} (h : xs.Nodup) {p q t : Nat} (hp : xs[p]? = some t) (hq : xs[q]? = some t) : p = q := by
  obtain ⟨h1, e1⟩ := List.getElem?_eq_some_iff.mp hp
  obtain ⟨h2, e2⟩ := List.getElem?_eq_some_iff.mp hq
  exact (List.getElem_inj h).mp (e1.trans e2.symm)
theorem idx_ix {xs : List Nat} (h : xs.Nodup) {p t : Nat} (hp : xs[p]? = some t) : xs.idxOf t = p := by
  obtain ⟨h1, e1⟩ := List.getElem?_eq_some_iff.mp hp
  have hm : t ∈ xs := by rw [← e1]; exact List.getElem_mem h1
  exact nd_ix h (List.getElem?_eq_some_iff.mpr ⟨List.idxOf_lt_length_of_mem hm, List.getElem_idxOf (List.idxOf_lt_length_of_mem hm)⟩) hp
/-- at a step: the asks' places and the tools' owners, those who wait -/
theorem inv_done (S : Su W R n m) {at_ : List Nat} {own : List (Nat × Nat)} {a : Nat} {wait : List Nat} (I : Inv W R n m at_ own (a :: wait)) (h : at_.getD a 0 = (wi W a).length) : Inv W R n m at_ own wait := by
  refine { I with wt := fun b hb => I.wt b (List.mem_cons_of_mem _ hb), wnd := (List.nodup_cons.mp I.wnd).2, fin := fun b hb hn => ?_ }
  by_cases e : b = a
  · subst e; exact .inr h
  · exact I.fin b hb (by simp [e, hn])
theorem getD_set (xs : List Nat) (i j v : Nat) (h : i < xs.length) : (xs.set i v).getD j 0 = if j = i then v else xs.getD j 0 := by
  rw [List.getD_eq_getElem?_getD, List.getElem?_set]
  by_cases e : i = j
  · subst e; simp [h]
  · have : j ≠ i := fun z => e z.symm
    simp [e, this]
/-- the tool is free -/
theorem inv_free (S : Su W R n m) {at_ : List Nat} {own : List (Nat × Nat)} {a t : Nat} {wait : List Nat} (I : Inv W R n m at_ own (a :: wait)) (h : (wi W a)[at_.getD a 0]? = some t) (ho : own.lookup t = none) :
    Inv W R n m (at_.set a (at_.getD a 0 + 1)) (put t a own) wait := by
  obtain ⟨han, hao⟩ := I.wt a List.mem_cons_self
  have hal : a < at_.length := by rw [I.lat]; exact han
  obtain ⟨hlt, _⟩ := List.getElem?_eq_some_iff.mp h
  have htm : t ∈ wi W a := List.mem_of_getElem? h
  have gs := fun j => getD_set at_ a j (at_.getD a 0 + 1) hal
  refine ⟨by rw [List.length_set]; exact I.lat, fun b hb => ?_, put_nodup I.keys, fun u b hu => ?_, fun b hb => ?_, (List.nodup_cons.mp I.wnd).2, fun b hb p hp u hu => ?_, fun M hv hs b hb p hp u hu hno => ?_, fun b hb hn => ?_⟩
  · rw [gs]; split
    · rename_i e; subst e; omega
    · exact I.le b hb
  · rw [look_put] at hu
    split at hu
    · rename_i e
      cases hu
      subst e
      exact ⟨han, S.lt a u htm, _, by rw [gs, if_pos rfl], h⟩
    · obtain ⟨h1, h2, p, h3, h4⟩ := I.ow u b hu
      have : b ≠ a := fun e => hao u (by rw [hu, e])
      exact ⟨h1, h2, p, by rw [gs, if_neg this]; exact h3, h4⟩
  · refine ⟨(I.wt b (List.mem_cons_of_mem _ hb)).1, fun u e => ?_⟩
    rw [look_put] at e
    split at e
    · cases e; exact (List.nodup_cons.mp I.wnd).1 hb
    · exact (I.wt b (List.mem_cons_of_mem _ hb)).2 u e
  · rw [gs] at hp
    by_cases hut : u = t
    · subst hut
      refine ⟨a, by rw [look_put, if_pos rfl], ?_⟩
      by_cases e : b = a
      · exact .inl e.symm
      · rw [if_neg e] at hp
        obtain ⟨c, hc, _⟩ := I.up b hb p hp u hu
        rw [ho] at hc; cases hc
    · rw [look_put, if_neg hut]
      by_cases e : b = a
      · subst e
        rw [if_pos rfl] at hp
        have : p ≠ at_.getD b 0 := fun e => hut (by rw [e, h] at hu; exact (Option.some.inj hu).symm)
        exact I.up b hb p (by omega) u hu
      · rw [if_neg e] at hp
        exact I.up b hb p hp u hu
  · rw [gs] at hp
    rw [look_put] at hno
    by_cases e : b = a
    · subst e
      rw [if_pos rfl] at hp
      by_cases hut : u = t
      · subst hut; exact absurd (if_pos rfl) hno
      · have : p ≠ at_.getD b 0 := fun e => hut (by rw [e, h] at hu; exact (Option.some.inj hu).symm)
        rw [if_neg hut] at hno
        exact I.no M hv hs b hb p (by omega) u hu hno
    · rw [if_neg e] at hp
      by_cases hut : u = t
      · subst hut
        obtain ⟨c, hc, _⟩ := I.up b hb p hp u hu
        rw [ho] at hc; cases hc
      · rw [if_neg hut] at hno
        exact I.no M hv hs b hb p hp u hu hno
  · by_cases e : b = a
    · subst e
      exact .inl ⟨t, by rw [look_put, if_pos rfl]⟩
    · rcases I.fin b hb (by simp [e, hn]) with ⟨u, hu⟩ | h2
      · refine .inl ⟨u, ?_⟩
        rw [look_put, if_neg (fun e => by rw [e, ho] at hu; cases hu)]; exact hu
      · right; rw [gs, if_neg e]; exact h2
/-- a stable row can't give t to c when a, who can have nothing better, is ranked ahead -/
theorem no_steal (S : Su W R n m) {at_ : List Nat} {own : List (Nat × Nat)} {a c t q : Nat} (han : a < n) (hcn : c < n) (htq : (wi W a)[q]? = some t) (hb : rk R t a < rk R t c)
    (hno : ∀ M, Valid W n M → Stable W R n M → ∀ p, p < q → ∀ u, (wi W a)[p]? = some u → get M a ≠ some u) {M : List (Option Nat)} (hv : Valid W n M) (hs : Stable W R n M) : get M c ≠ some t := fun hc => by
  have hac : a ≠ c := fun e => by subst e; omega
  have hp : q < pos W M a := by
    unfold pos
    cases e : get M a with
    | none => exact (List.getElem?_eq_some_iff.mp htq).1
    | some u =>
      show q < (wi W a).idxOf u
      have hm := hv.mem a u e
      have hlt := List.idxOf_lt_length_of_mem hm
      have hi : (wi W a)[(wi W a).idxOf u]? = some u := List.getElem?_eq_some_iff.mpr ⟨hlt, List.getElem_idxOf hlt⟩
      by_cases h1 : (wi W a).idxOf u < q
      · exact absurd e (hno M hv hs _ h1 u hi)
      · by_cases h2 : (wi W a).idxOf u = q
        · rw [h2, htq] at hi
          cases hi
          exact absurd (hv.inj a c t e hc) hac
        · omega
  obtain ⟨b, hbn, hb1, hb2⟩ := hs a han q hp t htq
  have : b = c := hv.inj b c t hb1 hc
  subst this
  exact hb2 hb
/-- the tool takes the new ask for the old one -/
theorem inv_take (S : Su W R n m) {at_ : List Nat} {own : List (Nat × Nat)} {a t o : Nat} {wait : List Nat} (I : Inv W R n m at_ own (a :: wait)) (h : (wi W a)[at_.getD a 0]? = some t) (ho : own.lookup t = some o) (hr : rk R t a < rk R t o) :
    Inv W R n m (at_.set a (at_.getD a 0 + 1)) (put t a own) (wait ++ [o]) := by
  obtain ⟨han, hao⟩ := I.wt a List.mem_cons_self
  have hal : a < at_.length := by rw [I.lat]; exact han
  obtain ⟨hlt, _⟩ := List.getElem?_eq_some_iff.mp h
  have htm : t ∈ wi W a := List.mem_of_getElem? h
  have gs := fun j => getD_set at_ a j (at_.getD a 0 + 1) hal
  obtain ⟨hon, htM, q, hq1, hq2⟩ := I.ow t o ho
  have hoa : o ≠ a := fun e => hao t (by rw [ho, e])
  have how : o ∉ wait := fun hm => (I.wt o (List.mem_cons_of_mem _ hm)).2 t ho
  refine ⟨by rw [List.length_set]; exact I.lat, fun b hb => ?_, put_nodup I.keys, fun u b hu => ?_, fun b hb => ?_, ?_, fun b hb p hp u hu => ?_, fun M hv hs b hb p hp u hu hno => ?_, fun b hb hn => ?_⟩
  · rw [gs]; split
    · rename_i e; subst e; omega
    · exact I.le b hb
  · rw [look_put] at hu
    split at hu
    · rename_i e
      cases hu
      subst e
      exact ⟨han, S.lt a u htm, _, by rw [gs, if_pos rfl], h⟩
    · obtain ⟨h1, h2, p, h3, h4⟩ := I.ow u b hu
      have : b ≠ a := fun e => hao u (by rw [hu, e])
      exact ⟨h1, h2, p, by rw [gs, if_neg this]; exact h3, h4⟩
  · rcases List.mem_append.mp hb with hb | hb
    · refine ⟨(I.wt b (List.mem_cons_of_mem _ hb)).1, fun u e => ?_⟩
      rw [look_put] at e
      split at e
      · cases e; exact (List.nodup_cons.mp I.wnd).1 hb
      · exact (I.wt b (List.mem_cons_of_mem _ hb)).2 u e
    · rw [List.mem_singleton] at hb
      subst hb
      refine ⟨hon, fun u e => ?_⟩
      rw [look_put] at e
      split at e
      · cases e; exact hoa rfl
      · rename_i hut
        obtain ⟨_, _, p, h3, h4⟩ := I.ow u b e
        rw [hq1] at h3
        have : q = p := by omega
        subst this
        rw [hq2] at h4
        exact hut (Option.some.inj h4).symm
  · rw [List.nodup_append]
    refine ⟨(List.nodup_cons.mp I.wnd).2, by simp, fun x hx y hy e => ?_⟩
    rw [List.mem_singleton] at hy
    exact how (by rw [← hy, ← e]; exact hx)
  · rw [gs] at hp
    by_cases hut : u = t
    · subst hut
      refine ⟨a, by rw [look_put, if_pos rfl], ?_⟩
      by_cases e : b = a
      · exact .inl e.symm
      · rw [if_neg e] at hp
        obtain ⟨c, hc, hc2⟩ := I.up b hb p hp u hu
        rw [ho] at hc; cases hc
        right
        rcases hc2 with e2 | h2
        · subst e2; exact hr
        · omega
    · rw [look_put, if_neg hut]
      by_cases e : b = a
      · subst e
        rw [if_pos rfl] at hp
        have : p ≠ at_.getD b 0 := fun e => hut (by rw [e, h] at hu; exact (Option.some.inj hu).symm)
        exact I.up b hb p (by omega) u hu
      · rw [if_neg e] at hp
        exact I.up b hb p hp u hu
  · rw [gs] at hp
    rw [look_put] at hno
    by_cases e : b = a
    · subst e
      rw [if_pos rfl] at hp
      by_cases hut : u = t
      · subst hut; exact absurd (if_pos rfl) hno
      · have : p ≠ at_.getD b 0 := fun e => hut (by rw [e, h] at hu; exact (Option.some.inj hu).symm)
        rw [if_neg hut] at hno
        exact I.no M hv hs b hb p (by omega) u hu hno
    · rw [if_neg e] at hp
      by_cases hut : u = t
      · subst hut
        by_cases hbo : b = o
        · subst hbo
          exact no_steal S (at_ := at_) (own := own) han hb h hr (fun M hv hs p hp u hu => I.no M hv hs a han p hp u hu (hao u)) hv hs
        · exact I.no M hv hs b hb p hp u hu (by rw [ho]; intro e; cases e; exact hbo rfl)
      · rw [if_neg hut] at hno
        exact I.no M hv hs b hb p hp u hu hno
  · have hno2 : b ∉ wait ∧ b ≠ o := by
      rw [List.mem_append, List.mem_singleton, not_or] at hn; exact hn
    by_cases e : b = a
    · subst e
      exact .inl ⟨t, by rw [look_put, if_pos rfl]⟩
    · rcases I.fin b hb (by simp [e, hno2.1]) with ⟨u, hu⟩ | h2
      · refine .inl ⟨u, ?_⟩
        rw [look_put, if_neg (fun e => by rw [e, ho] at hu; cases hu; exact hno2.2 rfl)]; exact hu
      · right; rw [gs, if_neg e]; exact h2
/-- the tool keeps the old ask -/
theorem inv_keep (S : Su W R n m) {at_ : List Nat} {own : List (Nat × Nat)} {a t o : Nat} {wait : List Nat} (I : Inv W R n m at_ own (a :: wait)) (h : (wi W a)[at_.getD a 0]? = some t) (ho : own.lookup t = some o) (hr : ¬ rk R t a < rk R t o) :
    Inv W R n m (at_.set a (at_.getD a 0 + 1)) own (wait ++ [a]) := by
  obtain ⟨han, hao⟩ := I.wt a List.mem_cons_self
  have hal : a < at_.length := by rw [I.lat]; exact han
  obtain ⟨hlt, _⟩ := List.getElem?_eq_some_iff.mp h
  have htm : t ∈ wi W a := List.mem_of_getElem? h
  have gs := fun j => getD_set at_ a j (at_.getD a 0 + 1) hal
  obtain ⟨hon, htM, q, hq1, hq2⟩ := I.ow t o ho
  have hoa : o ≠ a := fun e => hao t (by rw [ho, e])
  have hr2 : rk R t o < rk R t a := by
    have : rk R t o ≠ rk R t a := fun e => hoa (S.rank t htM o hon a han e)
    omega
  refine ⟨by rw [List.length_set]; exact I.lat, fun b hb => ?_, I.keys, fun u b hu => ?_, fun b hb => ?_, ?_, fun b hb p hp u hu => ?_, fun M hv hs b hb p hp u hu hno => ?_, fun b hb hn => ?_⟩
  · rw [gs]; split
    · rename_i e; subst e; omega
    · exact I.le b hb
  · obtain ⟨h1, h2, p, h3, h4⟩ := I.ow u b hu
    have : b ≠ a := fun e => hao u (by rw [hu, e])
    exact ⟨h1, h2, p, by rw [gs, if_neg this]; exact h3, h4⟩
  · rcases List.mem_append.mp hb with hb | hb
    · exact I.wt b (List.mem_cons_of_mem _ hb)
    · rw [List.mem_singleton] at hb
      subst hb
      exact I.wt b List.mem_cons_self
  · rw [List.nodup_append]
    refine ⟨(List.nodup_cons.mp I.wnd).2, by simp, fun x hx y hy e => ?_⟩
    rw [List.mem_singleton] at hy
    exact (List.nodup_cons.mp I.wnd).1 (by rw [← hy, ← e]; exact hx)
  · rw [gs] at hp
    by_cases e : b = a
    · subst e
      rw [if_pos rfl] at hp
      by_cases h1 : p = at_.getD b 0
      · rw [h1, h] at hu
        cases hu
        exact ⟨o, ho, .inr hr2⟩
      · exact I.up b hb p (by omega) u hu
    · rw [if_neg e] at hp
      exact I.up b hb p hp u hu
  · rw [gs] at hp
    by_cases e : b = a
    · subst e
      rw [if_pos rfl] at hp
      by_cases h1 : p = at_.getD b 0
      · rw [h1, h] at hu
        cases hu
        refine no_steal S (at_ := at_) (own := own) hon hb hq2 hr2 (fun M hv hs p hp u hu => I.no M hv hs o hon p (by omega) u hu fun z => ?_) hv hs
        obtain ⟨_, _, p', h3, h4⟩ := I.ow u o z
        have : p' = p := nd_ix (S.nd o) h4 hu
        omega
      · exact I.no M hv hs b hb p (by omega) u hu hno
    · rw [if_neg e] at hp
      exact I.no M hv hs b hb p hp u hu hno
  · have hno2 : b ∉ wait ∧ b ≠ a := by
      rw [List.mem_append, List.mem_singleton, not_or] at hn; exact hn
    rcases I.fin b hb (by simp [hno2.2, hno2.1]) with ⟨u, hu⟩ | h2
    · exact .inl ⟨u, hu⟩
    · right; rw [gs, if_neg hno2.2]; exact h2
/-- the row that comes out -/
theorem inv_end (S : Su W R n m) {at_ : List Nat} {own : List (Nat × Nat)} (I : Inv W R n m at_ own []) {F : List (Option Nat)} (hl : F.length = n) (hF : ∀ a, a < n → ∀ t, get F a = some t ↔ own.lookup t = some a) :
    Valid W n F ∧ Stable W R n F ∧ ∀ M, Valid W n M → Stable W R n M → ∀ a, a < n → pos W F a ≤ pos W M a := by
  have big : ∀ {M : List (Option Nat)} {a t}, M.length = n → get M a = some t → a < n := fun {M a t} hl h => by
    by_cases ha : a < n
    · exact ha
    · rw [← hl] at ha
      have : get M a = none := by
        show M.getD a none = none
        rw [List.getD_eq_getElem?_getD, List.getElem?_eq_none (by omega)]; rfl
      rw [this] at h; cases h
  have fpos : ∀ a, a < n → (∃ t, get F a = some t ∧ pos W F a + 1 = at_.getD a 0 ∧ (wi W a)[pos W F a]? = some t) ∨ (get F a = none ∧ pos W F a = at_.getD a 0 ∧ pos W F a = (wi W a).length) := fun a ha => by
    cases e : get F a with
    | some t =>
      obtain ⟨_, _, p, h3, h4⟩ := I.ow t a ((hF a ha t).mp e)
      have : pos W F a = p := by
        unfold pos; rw [e]; exact idx_ix (S.nd a) h4
      exact .inl ⟨t, rfl, by omega, by rw [this]; exact h4⟩
    | none =>
      rcases I.fin a ha (by simp) with ⟨t, ht⟩ | h2
      · rw [(hF a ha t).mpr ht] at e; cases e
      · have : pos W F a = (wi W a).length := by unfold pos; rw [e]
        exact .inr ⟨rfl, by omega, this⟩
  refine ⟨⟨hl, fun a t h => ?_, fun a b t h1 h2 => ?_⟩, fun a ha p hp t ht => ?_, fun M hv hs a ha => ?_⟩
  · obtain ⟨_, _, p, _, h4⟩ := I.ow t a ((hF a (big hl h) t).mp h)
    exact List.mem_of_getElem? h4
  · have e1 := (hF a (big hl h1) t).mp h1
    have e2 := (hF b (big hl h2) t).mp h2
    rw [e1] at e2
    exact Option.some.inj e2
  · have hpa : p < at_.getD a 0 := by
      rcases fpos a ha with ⟨_, _, h1, _⟩ | ⟨_, h1, _⟩
      · omega
      · omega
    obtain ⟨b, hb, hb2⟩ := I.up a ha p hpa t ht
    obtain ⟨hbn, _, _⟩ := I.ow t b hb
    refine ⟨b, hbn, (hF b hbn t).mpr hb, ?_⟩
    rcases hb2 with e | h
    · subst e; omega
    · omega
  · by_cases hlt : pos W M a < pos W F a
    · exfalso
      have hpa : pos W M a < at_.getD a 0 := by
        rcases fpos a ha with ⟨_, _, h1, _⟩ | ⟨_, h1, _⟩
        · omega
        · omega
      cases e : get M a with
      | none =>
        have e1 : pos W M a = (wi W a).length := by unfold pos; rw [e]
        have := I.le a ha
        omega
      | some t =>
        have hm := hv.mem a t e
        have hli := List.idxOf_lt_length_of_mem hm
        have hi : (wi W a)[pos W M a]? = some t := by
          have : pos W M a = (wi W a).idxOf t := by unfold pos; rw [e]
          rw [this]
          exact List.getElem?_eq_some_iff.mpr ⟨hli, List.getElem_idxOf hli⟩
        refine I.no M hv hs a ha _ hpa t hi (fun z => ?_) e
        have e2 := (hF a ha t).mpr z
        have : pos W F a = (wi W a).idxOf t := by unfold pos; rw [e2]
        have : pos W M a = (wi W a).idxOf t := by unfold pos; rw [e]
        omega
    · omega
theorem inv_start (S : Su W R n m) : Inv W R n m (List.replicate n 0) [] (List.range n) := by
  have z : ∀ a, (List.replicate n 0).getD a 0 = 0 := fun a => by
    rw [List.getD_eq_getElem?_getD, List.getElem?_replicate]; split <;> rfl
  refine ⟨by simp, fun a ha => by rw [z]; omega, by simp, fun t a h => (nomatch h), fun a ha => ⟨by simpa using ha, fun t h => (nomatch h)⟩, List.nodup_range, fun a ha p hp => ?_, fun M _ _ a ha p hp => ?_, fun a ha hn => absurd (List.mem_range.mpr ha) hn⟩
  · rw [z] at hp; omega
  · rw [z] at hp; omega
end
end MP.K04

namespace MP.K04
open PySem MP
abbrev nI (k : Nat) : PV := .int (k : Int)
abbrev EL (xs : List Nat) : PV := .tup (xs.map nI)
abbrev EX (xs : List Nat) : PV := .lck (EL xs)
abbrev EA (A : List (List Nat)) : PV := .tup (A.map EL)
abbrev EW (W : List (List Nat)) : PV := .tup (W.map EX)
def oN : Option Nat → PV
  | none => .non
  | some t => nI t
abbrev EM (M : List (Option Nat)) : PV := .tup (M.map oN)
abbrev vN (k : Nat) : Option (Bool × PV) := some (false, nI k)
section
variable {Φ : Fns} {D D1 : DS} {ρ ρ1 : Envi}
theorem ev_b2 {f : Bi} {a b : CE} {x y x' y' v : PV} {D2 : DS} (h : ev Φ a ρ D = some (x, D1)) (h2 : ev Φ b ρ D1 = some (y, D2)) (ho : opd D2 x = some x') (ho2 : opd D2 y = some y') (hv : pBi f [x', y'] = some v) : ev Φ (.bi f (.cons a (.cons b .nil))) ρ D = some (v, D2) := by
  rw [ev_bi, evs_cons, h, Option.bind_some, evs_cons, h2]
  simp only [evs_nil, Option.bind_some, Option.map_some, mapO_cons, mapO_nil, ho, ho2, hv]
theorem st1_m {own : List Nat} {ce : CE} {pt : Pat} {x v : PV} (hb : bindP pt x (wipE ρ own) = some ρ1) (hv : ev Φ ce ρ1 D = some (v, D)) : st1 Φ own ce pt .nil ρ x D = some ([v], D) := by
  unfold st1; rw [hb]; simp [hv]
theorem st1_t {own : List Nat} {ce t : CE} {pt : Pat} {x v : PV} {b : Bool} (hb : bindP pt x (wipE ρ own) = some ρ1) (ht : ev Φ t ρ1 D = some (.bl b, D)) (hv : b = true → ev Φ ce ρ1 D = some (v, D)) : st1 Φ own ce pt (.cons t .nil) ρ x D = some (if b then [v] else [], D) := by
  unfold st1; rw [hb]
  cases b with
  | true => simp [ht, hv rfl]
  | false => simp [ht]
theorem ev_ux {c : CE} {x : PV} (h : ev Φ c ρ D = some (.lck x, D1)) : ev Φ (.unx c) ρ D = some (x, D1) := by
  show (ev Φ c ρ D).map (fun r => (unx r.1, r.2)) = _
  rw [h]; rfl
theorem ev_m1 {m : Me} {a b : CE} {x y v : PV} {D2 : DS} (h : ev Φ a ρ D = some (x, D1)) (h2 : ev Φ b ρ D1 = some (y, D2)) (hv : pMe m x [y] = some v) : ev Φ (.met m a (.cons b .nil)) ρ D = some (v, D2) := by
  rw [ev_met, h, Option.bind_some, evs_cons, h2]
  simp only [Option.bind_some, evs_nil, Option.map_some, hv]
theorem ix_N {α : Type} (enc : α → PV) (d : α) {L : List α} {i : Nat} (h : i < L.length) : pIdx (.lst (L.map enc)) (.int i) = some (enc (L.getD i d)) := by
  refine ix_lst enc (by omega) ?_
  rw [Int.toNat_natCast, List.getD_eq_getElem?_getD, List.getElem?_eq_getElem h]; rfl
theorem ix_NT {α : Type} (enc : α → PV) (d : α) {L : List α} {i : Nat} (h : i < L.length) : pIdx (.tup (L.map enc)) (.int i) = some (enc (L.getD i d)) := ix_N enc d h
theorem ix_at {xs : List Nat} {i t : Nat} (h : xs[i]? = some t) : pIdx (EL xs) (.int i) = some (nI t) := ix_lst nI (by omega) (by rw [Int.toNat_natCast]; exact h)
theorem mapO_N (xs : List Nat) : mapO intOf (xs.map nI) = some (xs.map fun k : Nat => (k : Int)) := mapO_map (fun k : Nat => (k : Int)) xs
theorem mem_cast {xs : List Nat} {t : Nat} : ((t : Int) ∈ xs.map fun k : Nat => (k : Int)) ↔ t ∈ xs := by
  rw [List.mem_map]
  constructor
  · intro ⟨k, hk, e⟩
    rwa [← show k = t by omega]
  · exact fun h => ⟨t, h, rfl⟩
theorem idx_cast (t : Nat) : ∀ xs : List Nat, (xs.map fun k : Nat => (k : Int)).idxOf (t : Int) = xs.idxOf t
  | [] => rfl
  | k :: xs => by
    rw [List.map_cons, List.idxOf_cons, List.idxOf_cons, idx_cast t xs]
    by_cases c : k = t
    · subst c; simp
    · have h1 : (k == t) = false := by simpa using c
      have h2 : ((k : Int) == (t : Int)) = false := by simp; omega
      rw [h1, h2]
theorem ix_T {xs : List Nat} {t : Nat} (h : t ∈ xs) : pMe .indexT (EX xs) [.int t] = some (nI (xs.idxOf t)) := by
  show (mapO intOf (xs.map nI)).bind (fun ns => if (t : Int) ∈ ns then some (PV.int (ns.idxOf (t : Int))) else none) = _
  rw [mapO_N, Option.bind_some, if_pos (mem_cast.mpr h), idx_cast]
def kvN (o : List (Nat × Nat)) : List (PV × PV) := o.map fun p => (nI p.1, nI p.2)
theorem beq_cast {a b : Nat} : ((a : Int) == (b : Int)) = (a == b) := by
  by_cases c : a = b
  · subst c; simp
  · have h1 : (a == b) = false := by simpa using c
    have h2 : ((a : Int) == (b : Int)) = false := by simp; omega
    rw [h1, h2]
theorem dGet_N (o : List (Nat × Nat)) (t : Nat) : dGet (nI t) (kvN o) = (o.lookup t).map nI := by
  induction o with
  | nil => rfl
  | cons p o ih =>
    obtain ⟨k, a⟩ := p
    show (if peq (nI k) (nI t) then some (nI a) else dGet (nI t) (kvN o)) = _
    rw [peq_int, beq_cast, ih, List.lookup_cons]
    by_cases c : k = t
    · subst c; simp
    · have h1 : (k == t) = false := by simpa using c
      have h2 : (t == k) = false := by simpa using fun z => c z.symm
      rw [h1, h2]; rfl
theorem dPut_N (o : List (Nat × Nat)) (t a : Nat) : dPut (nI t) (nI a) (kvN o) = kvN (put t a o) := by
  unfold dPut put
  have : ((kvN o).any fun p => peq p.1 (nI t)) = o.any fun p => p.1 == t := by
    unfold kvN
    rw [List.any_map]
    congr 1
    funext p
    show peq (nI p.1) (nI t) = _
    rw [peq_int, beq_cast]
  rw [this]
  split
  · unfold kvN
    rw [List.map_map, List.map_map]
    refine List.map_congr_left fun p _ => ?_
    show (if peq (nI p.1) (nI t) = true then (nI p.1, nI a) else (nI p.1, nI p.2)) = _
    rw [peq_int, beq_cast]
    cases c : p.1 == t <;> simp [Function.comp, c]
  · simp [kvN]
theorem put_len (t a : Nat) (o : List (Nat × Nat)) : (put t a o).length ≤ o.length + 1 := by
  unfold put; split <;> simp
theorem get_N {o : List (Nat × Nat)} {t : Nat} : pMe .get1 (.dct 0 (kvN o)) [nI t] = some (oN (o.lookup t)) := by
  show (if isKey 0 (nI t) = true then some ((dGet (nI t) (kvN o)).getD .non) else none) = _
  rw [if_pos (show isKey 0 (nI t) = true from rfl), dGet_N]
  cases o.lookup t <;> rfl
theorem put_N {o : List (Nat × Nat)} {t a : Nat} (h : o.length < 1000000) : pSet (.dct 0 (kvN o)) (nI t) (nI a) = some (.dct 0 (kvN (put t a o))) := by
  show (if (isKey 0 (nI t) && decide ((kvN o).length < 1000000)) = true then some (PV.dct 0 (dPut (nI t) (nI a) (kvN o))) else none) = _
  rw [if_pos (by simp [isKey, kvN]; exact h), dPut_N]
theorem set_N {α : Type} {enc : α → PV} {xs : List α} {i : Nat} {v : α} (h : i < xs.length) : pSet (.lst (xs.map enc)) (.int i) (enc v) = some (.lst ((xs.set i v).map enc)) := by
  show (ixN (xs.map enc).length (i : Int)).map (fun j => PV.lst ((xs.map enc).set j (enc v))) = _
  rw [ixN_ok (by omega) (by rw [List.length_map]; omega), Option.map_some, Int.toNat_natCast, List.map_set]
theorem pLtN {i j : Nat} : pCmp .lt (nI i) (nI j) = some (decide (i < j)) := by
  rw [show pCmp .lt (nI i) (nI j) = some (decide ((i : Int) < (j : Int))) from pLt_int]
  congr 1
  exact decide_eq_decide.mpr (by omega)
theorem is_non {x : Option Nat} : pCmp .is_ (oN x) .non = some x.isNone := by cases x <;> rfl
theorem isn_non {x : Option Nat} : pCmp .isn (oN x) .non = some x.isSome := by cases x <;> rfl
theorem ne_nil {α : Type} {enc : α → PV} {xs : List α} (h : ∀ x ∈ xs, shp 19 (enc x) = true) : pCmp .ne (.lst (xs.map enc)) (.lst []) = some (!decide (xs = [])) := by
  have h1 : shp DEP (.lst (xs.map enc)) = true := by
    show (xs.map enc).all (shp 19) = true
    rw [List.all_map, List.all_eq_true]; exact h
  show ((if (shp DEP (.lst (xs.map enc)) && shp DEP (.lst [])) = true then some (peq _ _) else none)).map (!·) = _
  rw [h1, show shp DEP (.lst []) = true from rfl, if_pos (show (true && true) = true from rfl)]
  cases xs with
  | nil => rfl
  | cons x xs => simp [peq, peqs]
theorem eq_nil {α : Type} {enc : α → PV} {xs : List α} (h : ∀ x ∈ xs, shp 19 (enc x) = true) : pCmp .eq (.lst (xs.map enc)) (.lst []) = some (decide (xs = [])) := by
  have h1 : shp DEP (.lst (xs.map enc)) = true := by
    show (xs.map enc).all (shp 19) = true
    rw [List.all_map, List.all_eq_true]; exact h
  show (if (shp DEP (.lst (xs.map enc)) && shp DEP (.lst [])) = true then some (peq _ _) else none) = _
  rw [h1, show shp DEP (.lst []) = true from rfl, if_pos (show (true && true) = true from rfl)]
  cases xs with
  | nil => rfl
  | cons x xs => simp [peq, peqs]
theorem app_ok {xs : List PV} {v : PV} (h : xs.length < 1000000) : pApp v (.lst xs) = some (.lst (xs ++ [v])) := if_pos h
theorem pre_len {α : Type} {xs pre post : List α} {x : α} (h : xs = pre ++ x :: post) : pre.length < xs.length := by
  rw [h, List.length_append, List.length_cons]; omega
theorem rep0 (m : Nat) : (List.replicate m [PV.int 0]).flatten = (List.replicate m 0).map nI := by
  rw [List.map_replicate, List.flatten_replicate_singleton]; rfl
theorem nsum_le {c : Nat} : ∀ {xs : List Nat}, (∀ x ∈ xs, x ≤ c) → xs.sum ≤ c * xs.length
  | [], _ => by simp
  | x :: xs, h => by
    have a := h x (by simp)
    have b := nsum_le (xs := xs) fun y hy => h y (List.mem_cons_of_mem _ hy)
    rw [List.sum_cons, List.length_cons, Nat.mul_succ]; omega
theorem sum_set : ∀ (xs : List Nat) (i : Nat), i < xs.length → (xs.set i (xs.getD i 0 + 1)).sum = xs.sum + 1
  | [], i, h => by simp at h
  | x :: xs, 0, _ => by simp; omega
  | x :: xs, i + 1, h => by
    have := sum_set xs i (by simpa using h)
    simp at this ⊢; omega
end
/-! ### stable -/
def sC : CE := (.cmp .ne (.bor 3) (.lst .nil))
def sB : CSs := (.cons (.pop0 (.nm 7) 3)
 (.cons (.ife (.cmp .lt (.idx (.bor 5) (.var 7)) (.bi .len (.cons (.unx (.idx (.var 1) (.var 7))) .nil))) (.cons (.asg false 8 (.idx (.unx (.idx (.var 1) (.var 7))) (.idx (.bor 5) (.var 7))))
 (.cons (.augI 5 (.var 7) .add (.int 1))
 (.cons (.asg false 9 (.met .get1 (.bor 6) (.cons (.var 8) .nil)))
 (.cons (.ife (.or_ (.cons (.cmp .is_ (.var 9) .non) (.cons (.cmp .lt (.met .indexT (.idx (.var 2) (.var 8)) (.cons (.var 7) .nil)) (.met .indexT (.idx (.var 2) (.var 8)) (.cons (.var 9) .nil))) .nil))) (.cons (.setI 6 (.var 8) (.var 7))
 (.cons (.ext 3 (.ite (.cmp .isn (.var 9) .non) (.lst (.cons (.var 9) .nil)) (.lst .nil)))
 .nil)) (.cons (.app 3 (.var 7))
 .nil))
 .nil)))) .nil)
 .nil))
section
variable {k : Nat} {D : DS} {A W R : List (List Nat)} {n m : Nat} {at_ : List Nat} {own : List (Nat × Nat)} {wait : List Nat} {x7 x8 x9 : Option (Bool × PV)}
abbrev eS (A W R : List (List Nat)) (at_ : List Nat) (own : List (Nat × Nat)) (wait : List Nat) (x7 x8 x9 : Option (Bool × PV)) : Envi := [some (false, EA A), some (false, EW W), some (false, EW R), some (true, .lst (wait.map nI)), none, some (true, .lst (at_.map nI)), some (true, .dct 0 (kvN own)), x7, x8, x9]
theorem body_ok {x7_ x8_ x9_ : Option (Bool × PV)} (S : Su W R n m) {a : Nat} (I : Inv W R n m at_ own (a :: wait)) (hn : n ≤ 4) (hm : m ≤ 4) (h4 : ∀ a, (wi W a).length ≤ 4) (hol : own.length ≤ 100 * (1 + at_.sum)) (hw : wait.length ≤ 4) (hs : at_.sum ≤ 16) :
    ∃ at' own' wait' x7 x8 x9, exs (sem DD k) sB (eS A W R at_ own (a :: wait) x7_ x8_ x9_) D = some (.nx, eS A W R at' own' wait' x7 x8 x9, D) ∧ Inv W R n m at' own' wait' ∧ own'.length ≤ 100 * (1 + at'.sum) ∧
      ((at'.sum = at_.sum ∧ wait'.length = wait.length) ∨ (at'.sum = at_.sum + 1 ∧ wait'.length ≤ wait.length + 1)) := by
  obtain ⟨han, hao⟩ := I.wt a List.mem_cons_self
  have hal : a < at_.length := by rw [I.lat]; exact han
  have haW : a < W.length := by rw [S.nW]; exact han
  have iW : pIdx (EW W) (nI a) = some (EX (wi W a)) := ix_NT EX [] haW
  have iat : pIdx (.lst (at_.map nI)) (nI a) = some (nI (at_.getD a 0)) := ix_N nI 0 hal
  have p0 : ex (sem DD k) (.pop0 (.nm 7) 3) (eS A W R at_ own (a :: wait) x7_ x8_ x9_) D = some (.nx, eS A W R at_ own wait (vN a) x8_ x9_, D) := rfl
  have tst : ev (sem DD k) (.cmp .lt (.idx (.bor 5) (.var 7)) (.bi .len (.cons (.unx (.idx (.var 1) (.var 7))) .nil))) (eS A W R at_ own wait (vN a) x8_ x9_) D = some (.bl (decide (at_.getD a 0 < (wi W a).length)), D) :=
    ev_cm (ev_ix (ev_br rfl) rfl rfl iat) (ev_b1 (ev_ux (ev_ix rfl rfl rfl iW)) rfl (v := nI (wi W a).length) (by rw [pLenT, List.length_map])) rfl pLtN
  by_cases hlt : at_.getD a 0 < (wi W a).length
  · have ht : (wi W a)[at_.getD a 0]? = some (wi W a)[at_.getD a 0] := List.getElem?_eq_getElem hlt
    generalize (wi W a)[at_.getD a 0] = t at ht
    have htm : t ∈ wi W a := List.mem_of_getElem? ht
    have htl : t < m := S.lt a t htm
    have htR : t < R.length := by rw [S.nR]; exact htl
    have iR : pIdx (EW R) (nI t) = some (EX (R.getD t [])) := ix_NT EX [] htR
    rw [decide_eq_true hlt] at tst
    have s1 : ex (sem DD k) (.asg false 8 (.idx (.unx (.idx (.var 1) (.var 7))) (.idx (.bor 5) (.var 7)))) (eS A W R at_ own wait (vN a) x8_ x9_) D = some (.nx, eS A W R at_ own wait (vN a) (vN t) x9_, D) :=
      ex_as (ev_ix (ev_ux (ev_ix rfl rfl rfl iW)) (ev_ix (ev_br rfl) rfl rfl iat) rfl (ix_at ht))
    have s2 : ex (sem DD k) (.augI 5 (.var 7) .add (.int 1)) (eS A W R at_ own wait (vN a) (vN t) x9_) D = some (.nx, eS A W R (at_.set a (at_.getD a 0 + 1)) own wait (vN a) (vN t) x9_, D) := by
      have st := set_N (enc := nI) (v := at_.getD a 0 + 1) hal
      have st' : pSet (.lst (at_.map nI)) (nI a) (.int ((at_.getD a 0 : Int) + 1)) = _ := st
      rw [ex_augI, ev_vr (v := nI a) rfl, Option.bind_some]
      show ((opd D (.lst (at_.map nI))).bind _) = _
      rw [opd_lst, Option.bind_some]
      show ((pIdx (.lst (at_.map nI)) (nI a)).bind _) = _
      rw [iat, Option.bind_some, ev_int, Option.bind_some]
      show (((some (PV.int ((at_.getD a 0 : Int) + 1))).bind _)) = _
      rw [Option.bind_some, chg_of rfl, st']
      rfl
    have s3 : ex (sem DD k) (.asg false 9 (.met .get1 (.bor 6) (.cons (.var 8) .nil))) (eS A W R (at_.set a (at_.getD a 0 + 1)) own wait (vN a) (vN t) x9_) D = some (.nx, eS A W R (at_.set a (at_.getD a 0 + 1)) own wait (vN a) (vN t) (some (false, oN (own.lookup t))), D) :=
      ex_as (ev_m1 (ev_br rfl) rfl get_N)
    have ss := sum_set at_ a hal
    have c1 : ev (sem DD k) (.cmp .is_ (.var 9) .non) (eS A W R (at_.set a (at_.getD a 0 + 1)) own wait (vN a) (vN t) (some (false, oN (own.lookup t)))) D = some (.bl (own.lookup t).isNone, D) := ev_cm rfl rfl rfl is_non
    have ia : ev (sem DD k) (.met .indexT (.idx (.var 2) (.var 8)) (.cons (.var 7) .nil)) (eS A W R (at_.set a (at_.getD a 0 + 1)) own wait (vN a) (vN t) (some (false, oN (own.lookup t)))) D = some (nI (rk R t a), D) := ev_m1 (ev_ix rfl rfl rfl iR) rfl (ix_T (S.rmem t htl a han))
    have sD : pSet (.dct 0 (kvN own)) (nI t) (nI a) = some (.dct 0 (kvN (put t a own))) := put_N (by omega)
    have s4 : ex (sem DD k) (.setI 6 (.var 8) (.var 7)) (eS A W R (at_.set a (at_.getD a 0 + 1)) own wait (vN a) (vN t) (some (false, oN (own.lookup t)))) D = some (.nx, eS A W R (at_.set a (at_.getD a 0 + 1)) (put t a own) wait (vN a) (vN t) (some (false, oN (own.lookup t))), D) := by
      rw [ex_setI, ev_vr (v := nI a) rfl, Option.bind_some, ev_vr (v := nI t) rfl, Option.bind_some, chg_of rfl, sD]; rfl
    have pl := put_len t a own
    have fin : ∀ (own' : List (Nat × Nat)) (wait' : List Nat), ex (sem DD k) (.ife (.or_ (.cons (.cmp .is_ (.var 9) .non) (.cons (.cmp .lt (.met .indexT (.idx (.var 2) (.var 8)) (.cons (.var 7) .nil)) (.met .indexT (.idx (.var 2) (.var 8)) (.cons (.var 9) .nil))) .nil))) (.cons (.setI 6 (.var 8) (.var 7)) (.cons (.ext 3 (.ite (.cmp .isn (.var 9) .non) (.lst (.cons (.var 9) .nil)) (.lst .nil))) .nil)) (.cons (.app 3 (.var 7)) .nil)) (eS A W R (at_.set a (at_.getD a 0 + 1)) own wait (vN a) (vN t) (some (false, oN (own.lookup t)))) D = some (.nx, eS A W R (at_.set a (at_.getD a 0 + 1)) own' wait' (vN a) (vN t) (some (false, oN (own.lookup t))), D) →
        exs (sem DD k) sB (eS A W R at_ own (a :: wait) x7_ x8_ x9_) D = some (.nx, eS A W R (at_.set a (at_.getD a 0 + 1)) own' wait' (vN a) (vN t) (some (false, oN (own.lookup t))), D) := fun own' wait' e => by
      unfold sB
      rw [xs_nx p0]
      rw [xs_nx (ρ1 := eS A W R (at_.set a (at_.getD a 0 + 1)) own' wait' (vN a) (vN t) (some (false, oN (own.lookup t)))) (D1 := D) (by
        rw [ex_ife, tst, Option.bind_some, blOf_bl, Option.bind_some, if_pos rfl, xs_nx s1, xs_nx s2, xs_nx s3, xs_nx e]; rfl)]
      rfl
    cases ho : own.lookup t with
    | none =>
      rw [ho] at s4 c1 fin
      refine ⟨at_.set a (at_.getD a 0 + 1), put t a own, wait, vN a, vN t, _, fin (put t a own) wait ?_, inv_free S I ht ho, by omega, .inr ⟨ss, by omega⟩⟩
      rw [ex_ife, ev_or, evor_cons, c1, Option.bind_some, blOf_bl, Option.bind_some]
      show ((some (PV.bl true, D)).bind _) = _
      rw [Option.bind_some, blOf_bl, Option.bind_some, if_pos rfl, xs_nx s4]
      rw [xs_nx (ρ1 := eS A W R (at_.set a (at_.getD a 0 + 1)) (put t a own) wait (vN a) (vN t) (some (false, oN none))) (D1 := D) (by
        rw [ex_ext, ev_it (z := false) (v := .lst []) (ev_cm (x := oN none) rfl rfl rfl isn_non) rfl, Option.bind_some, chgO_of rfl]
        show ((if (wait.map nI).length + 0 ≤ 1000000 then some (PV.lst (wait.map nI ++ [])) else none).map _).map _ = _
        rw [if_pos (by simp; omega), List.append_nil]; rfl)]
      rfl
    | some o =>
      obtain ⟨hon, _, _⟩ := I.ow t o ho
      rw [ho] at s4 c1 fin ia
      have io : ev (sem DD k) (.met .indexT (.idx (.var 2) (.var 8)) (.cons (.var 9) .nil)) (eS A W R (at_.set a (at_.getD a 0 + 1)) own wait (vN a) (vN t) (some (false, oN (some o)))) D = some (nI (rk R t o), D) := ev_m1 (ev_ix rfl rfl rfl iR) rfl (ix_T (S.rmem t htl o hon))
      have c2 : ev (sem DD k) (.or_ (.cons (.cmp .is_ (.var 9) .non) (.cons (.cmp .lt (.met .indexT (.idx (.var 2) (.var 8)) (.cons (.var 7) .nil)) (.met .indexT (.idx (.var 2) (.var 8)) (.cons (.var 9) .nil))) .nil))) (eS A W R (at_.set a (at_.getD a 0 + 1)) own wait (vN a) (vN t) (some (false, oN (some o)))) D = some (.bl (decide (rk R t a < rk R t o)), D) := by
        rw [ev_or, evor_cons, c1, Option.bind_some, blOf_bl, Option.bind_some]
        show evor (sem DD k) _ _ D = _
        rw [evor_one]
        exact ev_cm ia io rfl pLtN
      by_cases hr : rk R t a < rk R t o
      · rw [decide_eq_true hr] at c2
        refine ⟨at_.set a (at_.getD a 0 + 1), put t a own, wait ++ [o], vN a, vN t, _, fin (put t a own) (wait ++ [o]) ?_, inv_take S I ht ho hr, by omega, .inr ⟨ss, by simp⟩⟩
        rw [ex_ife, c2, Option.bind_some, blOf_bl, Option.bind_some, if_pos rfl, xs_nx s4]
        rw [xs_nx (ρ1 := eS A W R (at_.set a (at_.getD a 0 + 1)) (put t a own) (wait ++ [o]) (vN a) (vN t) (some (false, oN (some o)))) (D1 := D) (by
          rw [ex_ext, ev_it (z := true) (v := .lst [nI o]) (ev_cm (x := oN (some o)) rfl rfl rfl isn_non) rfl, Option.bind_some, chgO_of rfl]
          show ((if (wait.map nI).length + 1 ≤ 1000000 then some (PV.lst (wait.map nI ++ [nI o])) else none).map _).map _ = _
          rw [if_pos (by simp; omega)]
          simp)]
        rfl
      · rw [decide_eq_false hr] at c2
        refine ⟨at_.set a (at_.getD a 0 + 1), own, wait ++ [a], vN a, vN t, _, fin own (wait ++ [a]) ?_, inv_keep S I ht ho hr, by omega, .inr ⟨ss, by simp⟩⟩
        rw [ex_ife, c2, Option.bind_some, blOf_bl, Option.bind_some, if_neg (by simp)]
        rw [xs_nx (ρ1 := eS A W R (at_.set a (at_.getD a 0 + 1)) own (wait ++ [a]) (vN a) (vN t) (some (false, oN (some o)))) (D1 := D) (by
          rw [ex_app, ev_vr (v := nI a) rfl, Option.bind_some, chgO_of rfl, app_ok (by simp; omega)]
          simp)]
        rfl
  · rw [decide_eq_false hlt] at tst
    have hle := I.le a han
    refine ⟨at_, own, wait, vN a, x8_, x9_, ?_, inv_done S I (by omega), hol, .inl ⟨rfl, rfl⟩⟩
    unfold sB
    rw [xs_nx p0, xs_nx (ex_no tst)]
    rfl
end
end MP.K04

namespace MP.K04
open PySem MP
section
variable {k : Nat} {D : DS} {A W R : List (List Nat)} {n m : Nat} {at_ : List Nat} {own : List (Nat × Nat)} {wait : List Nat} {x7 x8 x9 : Option (Bool × PV)}
theorem rgN (n : Nat) : (rg 0 n).map PV.int = (List.range n).map nI := by
  unfold rg
  rw [List.map_map]
  simp [Function.comp_def]
theorem evi_rN {Φ : Fns} {ρ : Envi} {e : CE} {D1 : DS} (h : ev Φ e ρ D = some (nI n, D1)) (hn : n ≤ 1000) : evi Φ (.rng1 e) ρ D = some ((List.range n).map nI, D1) := by
  rw [← rgN]; exact evi_r1 h (by omega) (by omega)
theorem nlen {xs : List Nat} (h : xs.Nodup) (hl : ∀ x ∈ xs, x < n) : xs.length ≤ n := by
  have := nodup_len (ks := xs.map fun k : Nat => (k : Int)) (ns := rg 0 n) (List.Pairwise.map _ (fun a b h (e : (a : Int) = (b : Int)) => h (by omega)) h) fun x hx => by
    obtain ⟨y, hy, rfl⟩ := List.mem_map.mp hx
    have := hl y hy
    exact mem_rg.mpr ⟨by omega, by omega⟩
  rw [List.length_map, rg_len] at this
  omega
theorem at_sum (I : Inv W R n m at_ own wait) (h4 : ∀ a, (wi W a).length ≤ 4) (hn : n ≤ 4) : at_.sum ≤ 16 := by
  have := nsum_le (c := 4) (xs := at_) fun x hx => by
    obtain ⟨i, hi⟩ := List.mem_iff_getElem?.mp hx
    have hl := (List.getElem?_eq_some_iff.mp hi).1
    have := I.le i (by rw [← I.lat]; exact hl)
    have h2 := h4 i
    rw [List.getD_eq_getElem?_getD, hi] at this
    have : x ≤ (wi W i).length := this
    omega
  have hl := I.lat
  have : 4 * at_.length ≤ 16 := by omega
  omega
theorem wait_len (I : Inv W R n m at_ own wait) : wait.length ≤ n := nlen I.wnd fun a ha => (I.wt a ha).1
def swp (o : List (Nat × Nat)) : List (Nat × Nat) := o.map fun p => (p.2, p.1)
theorem own_nd (I : Inv W R n m at_ own wait) : (own.map (·.2)).Nodup := by
  have hk : own.Pairwise fun p q => p.1 ≠ q.1 := List.pairwise_map.mp I.keys
  refine List.pairwise_map.mpr (List.Pairwise.imp_of_mem (fun {p q} hp hq h e => h ?_) hk)
  obtain ⟨_, _, i, h1, h2⟩ := I.ow p.1 p.2 (mem_look I.keys hp)
  obtain ⟨_, _, j, h3, h4⟩ := I.ow q.1 q.2 (mem_look I.keys hq)
  rw [e] at h1 h2
  have : i = j := by omega
  subst this
  rw [h2] at h4
  exact Option.some.inj h4
theorem swp_look (I : Inv W R n m at_ own wait) {a t : Nat} : (swp own).lookup a = some t ↔ own.lookup t = some a := by
  have nd : ((swp own).map (·.1)).Nodup := by
    unfold swp
    rw [List.map_map]
    exact own_nd I
  constructor
  · intro h
    have := look_mem h
    unfold swp at this
    obtain ⟨p, hp, e⟩ := List.mem_map.mp this
    cases e
    exact mem_look I.keys hp
  · intro h
    exact mem_look nd (List.mem_map.mpr ⟨(t, a), look_mem h, rfl⟩)
theorem keys_N (hl : own.length ≤ 1000000) : keysOf (.dct 0 (kvN own)) = some (own.map fun p => nI p.1) := by
  show (if (kvN own).length ≤ 1000000 then some ((kvN own).map (·.1)) else none) = _
  rw [if_pos (by simp [kvN]; exact hl)]
  unfold kvN
  rw [List.map_map]; rfl
theorem dict_N (I : Inv W R n m at_ own wait) : pBi .dict [.lst (own.map fun p => .tup [nI p.2, nI p.1])] = some (.dct 0 (kvN (swp own))) := by
  have h := dict_I (fx := own.map fun p => ((p.2 : Int), (p.1 : Int))) (by
    rw [List.map_map]
    have := own_nd I
    have q : (own.map fun p => (p.2 : Int)) = (own.map (·.2)).map fun k : Nat => (k : Int) := by rw [List.map_map]; rfl
    show (own.map fun p => (p.2 : Int)).Nodup
    rw [q]
    exact List.Pairwise.map _ (fun a b h (e : (a : Int) = (b : Int)) => h (by omega)) this)
  rw [List.map_map] at h
  have e : kvI (own.map fun p => ((p.2 : Int), (p.1 : Int))) = kvN (swp own) := by
    unfold kvI kvN swp
    rw [List.map_map, List.map_map]; rfl
  rw [e] at h
  exact h
theorem stable_ok (S : Su W R n m) (hn : n ≤ 4) (hm : m ≤ 4) (h4 : ∀ a, (wi W a).length ≤ 4) (hA : A.length = n) : ∃ F, sem DD (k + 1) 0 [EA A, EW W, EW R] D = some (EM F, D) ∧ Valid W n F ∧ Stable W R n F ∧ ∀ M, Valid W n M → Stable W R n M → ∀ a, a < n → pos W F a ≤ pos W M a := by
  have ln : ∀ ρ : Envi, getS ρ 0 = some (EA A) → ev (sem DD k) (.bi .len (.cons (.var 0) .nil)) ρ D = some (nI n, D) := fun ρ h => ev_b1 (ev_vr h) rfl (by rw [pLenT, List.length_map, hA])
  have s1 : ex (sem DD k) (.par (nms [5, 6]) [true, true] (.cons (.bin .rep (.lst (.cons (.int 0) .nil)) (.bi .len (.cons (.var 0) .nil))) (.cons (.dsp 0 .nil) .nil))) [some (false, EA A), some (false, EW W), some (false, EW R), none, none, none, none, none, none, none] D = some (.nx, [some (false, EA A), some (false, EW W), some (false, EW R), none, none, some (true, .lst ((List.replicate n 0).map nI)), some (true, .dct 0 []), none, none, none], D) := by
    have r0 : ev (sem DD k) (.bin .rep (.lst (.cons (.int 0) .nil)) (.bi .len (.cons (.var 0) .nil))) [some (false, EA A), some (false, EW W), some (false, EW R), none, none, none, none, none, none, none] D = some (.lst ((List.replicate n 0).map nI), D) := by
      refine ev_bn (y := nI n) rfl (ln _ rfl) ?_
      show (if (1 : Nat) * (n : Int).toNat ≤ 1000000 ∧ (n : Int) ≤ 1000000 ∧ -1000000 ≤ (n : Int) then some (PV.lst (List.replicate (n : Int).toNat [PV.int 0]).flatten) else none) = _
      rw [if_pos (by omega), Int.toNat_natCast, rep0]
    rw [ex_par, evs_cons, r0]; rfl
  have s2 : ex (sem DD k) (.asg true 3 (.bi .listRange (.cons (.bi .len (.cons (.var 0) .nil)) .nil))) [some (false, EA A), some (false, EW W), some (false, EW R), none, none, some (true, .lst ((List.replicate n 0).map nI)), some (true, .dct 0 []), none, none, none] D = some (.nx, eS A W R (List.replicate n 0) [] (List.range n) none none none, D) := by
    refine ex_as (ev_b1 (ln _ rfl) rfl ?_)
    show (if (n : Int) ≤ 1000000 ∧ -1000000 ≤ (n : Int) then some (PV.lst ((List.range (n : Int).toNat).map fun (k : Nat) => .int k)) else none) = _
    rw [if_pos (by omega), Int.toNat_natCast]
  have wl := while_inv (c := fun ρ D => (ev (sem DD k) sC ρ D).bind fun r => (blOf r.1).map fun z => (z, r.2)) (f := fun ρ D => exs (sem DD k) sB ρ D) (P := fun ρ D' => D' = D ∧ ∃ at' own' x7 x8 x9, ρ = eS A W R at' own' [] x7 x8 x9 ∧ Inv W R n m at' own' [] ∧ own'.length ≤ 100 * (1 + at'.sum))
    (fun μ ρ D' => D' = D ∧ ∃ at' own' wait' x7 x8 x9, ρ = eS A W R at' own' wait' x7 x8 x9 ∧ Inv W R n m at' own' wait' ∧ own'.length ≤ 100 * (1 + at'.sum) ∧ (100 - at'.sum) + wait'.length ≤ μ) (fun μ ρ D' ⟨hD, at', own', wait', x7, x8, x9, hρ, I, hol, hμ⟩ => by
      subst hD hρ
      have as16 := at_sum I h4 hn
      have wn := wait_len I
      have c : ev (sem DD k) sC (eS A W R at' own' wait' x7 x8 x9) D' = some (.bl (!decide (wait' = [])), D') := ev_cm (ev_br rfl) rfl rfl (ne_nil fun x _ => rfl)
      cases wait' with
      | nil =>
        refine .inl ⟨D', ?_, rfl, at', own', x7, x8, x9, rfl, I, hol⟩
        show (ev (sem DD k) sC _ D').bind _ = _
        rw [c]; rfl
      | cons a wait =>
        obtain ⟨at2, own2, wait2, y7, y8, y9, e, I2, ho2, hs⟩ := body_ok (k := k) (D := D') (A := A) (x7_ := x7) (x8_ := x8) (x9_ := x9) S I hn hm h4 hol (by rw [List.length_cons] at wn; omega) as16
        have as2 := at_sum I2 h4 hn
        rw [List.length_cons] at hμ
        refine .inr ⟨D', _, D', μ - 1, ?_, by omega, e, rfl, at2, own2, wait2, y7, y8, y9, rfl, I2, ho2, by omega⟩
        show (ev (sem DD k) sC _ D').bind _ = _
        rw [c]; rfl)
    (100 + n) WH (eS A W R (List.replicate n 0) [] (List.range n) none none none) D (by show 100 + n < 100000; omega) ⟨rfl, _, _, _, _, _, _, rfl, inv_start S, by simp, by simp⟩
  obtain ⟨ρ', D', e, hD, at', own', x7, x8, x9, hρ, I, hol⟩ := wl
  subst hD hρ
  have as16 := at_sum I h4 hn
  refine ⟨(List.range n).map fun a => (swp own').lookup a, ?_, inv_end S I (by simp) fun a ha t => ?_⟩
  · rw [r_f_stable]
    refine run_ex rfl ?_
    unfold c_f_stable
    show ∃ ρ', exs _ _ [some (false, EA A), some (false, EW W), some (false, EW R), none, none, none, none, none, none, none] _ = _
    refine go_nx s1 (go_nx s2 (go_nx (s := .whl sC sB) (by rw [ex_whl]; exact e) ?_))
    have lc := lcM (Φ := sem DD k) (D := D') (ρ := eS A W R at' own' [] x7 x8 x9) (own := [8]) (ce := (.tup (.cons (.idx (.bor 6) (.var 8)) (.cons (.var 8) .nil)))) (pt := .nm 8) (ci := .keys 6) (ct := .nil) (fun p : Nat × Nat => nI p.1) own' (fun p => .tup [nI p.2, nI p.1]) (by
      rw [evi_keys]
      show ((some (PV.dct 0 (kvN own'))).bind keysOf).map _ = _
      rw [Option.bind_some, keys_N (by omega)]; rfl) fun p hp => by
      refine st1_m rfl (ev_t2 (ev_ix (z := .dct 0 (kvN own')) (ev_br rfl) rfl rfl ?_) rfl)
      show (if isKey 0 (nI p.1) = true then dGet (nI p.1) (kvN own') else none) = _
      rw [if_pos (show isKey 0 (nI p.1) = true from rfl), dGet_N, mem_look I.keys hp]; rfl
    refine go_asg (.dct 0 (kvN (swp own'))) (ev_b1 (f := .dict) lc rfl (dict_N I)) ?_
    refine go_ret (ev_b1 (f := .tuple) (lcM nI (List.range n) (fun a => oN ((swp own').lookup a)) (evi_rN (ln _ rfl) (by omega)) fun a _ => st1_m rfl (ev_m1 (x := .dct 0 (kvN (swp own'))) (y := nI a) rfl rfl get_N)) rfl ?_)
    rw [pTupL]
    show _ = some (PV.tup (((List.range n).map fun a => (swp own').lookup a).map oN))
    rw [List.map_map]; rfl
  · show ((List.range n).map fun a => (swp own').lookup a).getD a none = _ ↔ _
    rw [List.getD_eq_getElem?_getD, List.getElem?_map, List.getElem?_range ha]
    exact swp_look I
end
end MP.K04

namespace MP.K04
open PySem MP
section
variable {k : Nat} {D : DS} {A W R : List (List Nat)} {n m : Nat} {M : List (Option Nat)} {a t b : Nat}
/-! ### who would rather -/
def ownr (M : List (Option Nat)) (t : Nat) : List Nat := (List.range M.length).filter fun b => decide (get M b = some t)
def blkB (R : List (List Nat)) (M : List (Option Nat)) (a t : Nat) : Bool := match (ownr M t).head? with
  | none => true
  | some b => decide (rk R t a < rk R t b)
def blA (W R : List (List Nat)) (M : List (Option Nat)) (a : Nat) : List (Nat × Nat) := ((wi W a).take (pos W M a)).flatMap fun t => if blkB R M a t = true then [(a, t)] else []
def bl (n : Nat) (W R : List (List Nat)) (M : List (Option Nat)) : List (Nat × Nat) := (List.range n).flatMap (blA W R M)
def cI (L : List (Nat × Nat)) : List (Int × Int) := L.map fun p => ((p.1 : Int), (p.2 : Int))
theorem own_head (V : Valid W n M) : (ownr M t).head? = some b ↔ get M b = some t := by
  have inb : ∀ c, get M c = some t → c ∈ ownr M t := fun c hc => by
    refine List.mem_filter.mpr ⟨List.mem_range.mpr ?_, decide_eq_true hc⟩
    refine Classical.byContradiction fun h => ?_
    have : get M c = none := by
      show M.getD c none = none
      rw [List.getD_eq_getElem?_getD, List.getElem?_eq_none (by omega)]; rfl
    rw [this] at hc; cases hc
  constructor
  · intro h
    have := List.mem_of_mem_head? h
    exact of_decide_eq_true (List.mem_filter.mp this).2
  · intro h
    have hb := inb b h
    cases e : (ownr M t).head? with
    | none =>
      rw [List.head?_eq_none_iff] at e
      rw [e] at hb; cases hb
    | some c =>
      have := List.mem_of_mem_head? e
      have hc := of_decide_eq_true (List.mem_filter.mp this).2
      rw [V.inj c b t hc h]
theorem get_lt (V : Valid W n M) (h : get M b = some t) : b < n := by
  refine Classical.byContradiction fun hn => ?_
  have : get M b = none := by
    show M.getD b none = none
    rw [List.getD_eq_getElem?_getD, List.getElem?_eq_none (by rw [V.len]; omega)]; rfl
  rw [this] at h; cases h
theorem pos_le : pos W M a ≤ (wi W a).length := by
  unfold pos
  cases get M a with
  | none => exact Nat.le_refl _
  | some t => exact List.idxOf_le_length
theorem mem_take {xs : List Nat} {p : Nat} : t ∈ xs.take p ↔ ∃ i, i < p ∧ xs[i]? = some t := by
  rw [List.mem_iff_getElem?]
  constructor
  · intro ⟨i, hi⟩
    rw [List.getElem?_take] at hi
    split at hi
    · rename_i h; exact ⟨i, h, hi⟩
    · cases hi
  · intro ⟨i, h, hi⟩
    exact ⟨i, by rw [List.getElem?_take, if_pos h]; exact hi⟩
theorem bl_nil (V : Valid W n M) : bl n W R M = [] ↔ Stable W R n M := by
  unfold bl
  rw [List.flatMap_eq_nil_iff]
  constructor
  · intro h a ha p hp t ht
    have := h a (List.mem_range.mpr ha)
    unfold blA at this
    rw [List.flatMap_eq_nil_iff] at this
    have := this t (mem_take.mpr ⟨p, hp, ht⟩)
    have hb : ¬ blkB R M a t = true := fun z => by rw [if_pos z] at this; cases this
    unfold blkB at hb
    cases e : (ownr M t).head? with
    | none => rw [e] at hb; exact absurd rfl hb
    | some b =>
      rw [e] at hb
      have hg := (own_head V).mp e
      exact ⟨b, get_lt V hg, hg, fun z => hb (decide_eq_true z)⟩
  · intro h a ha
    unfold blA
    rw [List.flatMap_eq_nil_iff]
    intro t ht
    obtain ⟨p, hp, ht⟩ := mem_take.mp ht
    obtain ⟨b, hb, hg, hr⟩ := h a (List.mem_range.mp ha) p hp t ht
    rw [if_neg]
    unfold blkB
    rw [(own_head V).mpr hg]
    show ¬ decide (rk R t a < rk R t b) = true
    rw [decide_eq_false hr]; simp
theorem srt_nil {L : List (Nat × Nat)} : srtP (cI L) = [] ↔ L = [] := by
  have p := (srtP_perm (cI L)).length_eq
  constructor
  · intro h
    rw [h] at p
    have : (cI L).length = 0 := p.symm
    rw [cI, List.length_map] at this
    exact List.length_eq_zero_iff.mp this
  · intro h
    subst h
    exact List.length_eq_zero_iff.mp p
theorem cutN' {xs : List Nat} {p : Nat} (h : p ≤ xs.length) : pCut (EL xs) none (some (p : Int)) = some (EL (xs.take p)) := by
  rw [pCut_tup, cutL_map, cut_pre (by omega) (by omega), Int.toNat_natCast]
theorem ev_ctN {Φ : Fns} {ρ : Envi} {a c : CE} {xs : List Nat} {p : Nat} (h : ev Φ a ρ D = some (EL xs, D)) (h2 : ev Φ c ρ D = some (nI p, D)) (hp : p ≤ xs.length) : ev Φ (.cut a .nil (.cons c .nil)) ρ D = some (EL (xs.take p), D) := by
  rw [ev_cut, h, Option.bind_some, evo_nil, Option.bind_some, evo_one, h2]
  simp only [Option.bind_some, intOf_int, Option.map_some]
  rw [cutN' hp]; rfl
theorem eq_oN {x : Option Nat} : pCmp .eq (oN x) (nI t) = some (decide (x = some t)) := by
  cases x with
  | none => rw [decide_eq_false (by simp)]; rfl
  | some s =>
    show pEq (.int s) (.int t) = _
    rw [pEq_int, beq_cast]
    congr 1
    by_cases c : s = t
    · subst c; simp
    · have : ¬ some s = some t := fun z => c (Option.some.inj z)
      rw [decide_eq_false this]; simpa using c
theorem have_ok {Φ : Fns} {ρ : Envi} {r w l : CE} (V : Valid W n M) (ha : a < n) (hr : ev Φ r ρ D = some (oN (get M a), D)) (hw : ev Φ w ρ D = some (EX (wi W a), D)) (hl : ev Φ l ρ D = some (EX (wi W a), D)) : ev Φ (.ite (.cmp .isn r .non) (.met .indexT w (.cons r .nil)) (.bi .len (.cons (.unx l) .nil))) ρ D = some (nI (pos W M a), D) := by
  refine ev_it (z := (get M a).isSome) (ev_cm hr rfl rfl isn_non) ?_
  unfold pos
  cases e : get M a with
  | none =>
    show ev Φ (.bi .len (.cons (.unx l) .nil)) ρ D = _
    exact ev_b1 (ev_ux hl) rfl (by rw [pLenT, List.length_map])
  | some t =>
    show ev Φ (.met .indexT w (.cons r .nil)) ρ D = _
    rw [e] at hr
    exact ev_m1 hw hr (ix_T (V.mem a t e))
theorem fold_flat {α β : Type} (g : α → List β) : ∀ (xs : List α) (b : List β), xs.foldl (fun a x => a ++ g x) b = b ++ xs.flatMap g
  | [], b => by simp
  | x :: xs, b => by rw [List.foldl_cons, fold_flat g xs]; simp
abbrev pvN (p : Nat × Nat) : PV := pv2 ((p.1 : Int), (p.2 : Int))
theorem cI_map (L : List (Nat × Nat)) : (cI L).map pv2 = L.map pvN := by unfold cI; rw [List.map_map]; rfl
theorem bl_len1 (a : Nat) (xs : List Nat) : (xs.flatMap fun t => if blkB R M a t = true then [(a, t)] else []).length ≤ xs.length := by
  have := flat_len (fun t => if blkB R M a t = true then [(a, t)] else []) 1 xs fun t _ => by split <;> simp
  omega
theorem blA_len (h4 : ∀ a, (wi W a).length ≤ 4) (a : Nat) : (blA W R M a).length ≤ 4 := by
  have := bl_len1 (R := R) (M := M) a ((wi W a).take (pos W M a))
  unfold blA
  rw [List.length_take] at this
  have := h4 a
  omega
theorem law_blocks_ok (S : Su W R n m) (V : Valid W n M) (hn : n ≤ 4) (h4 : ∀ a, (wi W a).length ≤ 4) : sem DD (k + 1) 7 [EW W, EW R, EM M] D = some (.lst ((srtP (cI (bl n W R M))).map pv2), D) := by
  rw [r_f__law_blocks]
  refine run_ex rfl ?_
  unfold c_f__law_blocks
  show ∃ ρ', exs _ _ [some (false, EW W), some (false, EW R), some (false, EM M), none, none, none, none, none, none] _ = _
  refine go_asg (.lst []) rfl ?_
  refine go_forP nI (List.range n) (fun (s : List (Nat × Nat)) ρ => ∃ x4 x5 x6 x7, ρ = [some (false, EW W), some (false, EW R), some (false, EM M), some (false, .lst (s.map pvN)), x4, x5, x6, x7, none]) (fun s a => s ++ blA W R M a) [] (evi_rN (ev_b1 rfl rfl (by rw [pLenT, List.length_map, S.nW])) (by omega)) ⟨_, _, _, _, rfl⟩ (fun pre x post ρ hx hR => ?_) (fun ρ1 hR => ?_)
  · obtain ⟨x4, x5, x6, x7, rfl⟩ := hR
    have pl := pre_len hx
    rw [List.length_range] at pl
    have xn : x < n := List.mem_range.mp (by rw [hx]; simp)
    have iW : pIdx (EW W) (nI x) = some (EX (wi W x)) := ix_NT EX [] (by rw [S.nW]; exact xn)
    have iM : pIdx (EM M) (nI x) = some (oN (get M x)) := ix_NT oN none (by rw [V.len]; exact xn)
    have fl : (pre.foldl (fun s a => s ++ blA W R M a) []).length ≤ 16 := by
      rw [fold_flat, List.nil_append]
      have := flat_len (blA W R M) 4 pre fun a _ => blA_len h4 a
      omega
    generalize pre.foldl (fun s a => s ++ blA W R M a) [] = s at *
    have pe := pos_le (W := W) (M := M) (a := x)
    have h4x := h4 x
    obtain ⟨ρ2, e2, y6, y7, hρ2⟩ := ex_forP (Φ := sem DD k) (D := D) (ρ := [some (false, EW W), some (false, EW R), some (false, EM M), some (false, .lst (s.map pvN)), vN x, vN (pos W M x), x6, x7, none]) (p := .nm 6) (it := .over (.cut (.unx (.idx (.var 0) (.var 4))) .nil (.cons (.var 5) .nil)))
      (b := (.cons (.asg false 7 (.lc1 [8] (.var 8) (.nm 8) (.rng1 (.bi .len (.cons (.var 2) .nil))) (.cons (.cmp .eq (.idx (.var 2) (.var 8)) (.var 6)) .nil))) (.cons (.asg false 3 (.bin .add (.var 3) (.ite (.or_ (.cons (.cmp .eq (.var 7) (.lst .nil)) (.cons (.cmp .lt (.met .indexT (.idx (.var 1) (.var 6)) (.cons (.var 4) .nil)) (.met .indexT (.idx (.var 1) (.var 6)) (.cons (.idx (.var 7) (.int 0)) .nil))) .nil))) (.lst (.cons (.tup (.cons (.var 4) (.cons (.var 6) .nil))) .nil)) (.lst .nil)))) .nil)))
      nI ((wi W x).take (pos W M x)) (fun (q : List (Nat × Nat)) ρ => ∃ y6 y7, ρ = [some (false, EW W), some (false, EW R), some (false, EM M), some (false, .lst ((s ++ q).map pvN)), vN x, vN (pos W M x), y6, y7, none]) (fun q t => q ++ (if blkB R M x t = true then [(x, t)] else [])) [] (evi_ovT (ev_ctN (ev_ux (ev_ix rfl rfl rfl iW)) rfl pe)) ⟨_, _, by rw [List.append_nil]⟩ (fun pre2 t post2 ρ hx2 hR => by
        obtain ⟨y6, y7, rfl⟩ := hR
        have pl2 := pre_len hx2
        rw [List.length_take] at pl2
        have ttk : t ∈ (wi W x).take (pos W M x) := by rw [hx2]; simp
        have tW : t ∈ wi W x := List.mem_of_mem_take ttk
        have tm : t < m := S.lt x t tW
        have iR : pIdx (EW R) (nI t) = some (EX (R.getD t [])) := ix_NT EX [] (by rw [S.nR]; exact tm)
        have ql : (pre2.foldl (fun q t => q ++ (if blkB R M x t = true then [(x, t)] else [])) []).length ≤ 4 := by
          rw [fold_flat, List.nil_append]
          have := bl_len1 (R := R) (M := M) x pre2
          omega
        generalize pre2.foldl (fun q t => q ++ (if blkB R M x t = true then [(x, t)] else [])) [] = q at *
        refine ⟨.nx, [some (false, EW W), some (false, EW R), some (false, EM M), some (false, .lst ((s ++ (q ++ (if blkB R M x t = true then [(x, t)] else []))).map pvN)), vN x, vN (pos W M x), vN t, some (false, .lst ((ownr M t).map nI)), none], ?_, .inl rfl, ⟨_, _, rfl⟩⟩
        rw [show bindP (.nm 6) (nI t) [some (false, EW W), some (false, EW R), some (false, EM M), some (false, .lst ((s ++ q).map pvN)), vN x, vN (pos W M x), y6, y7, none] = some [some (false, EW W), some (false, EW R), some (false, EM M), some (false, .lst ((s ++ q).map pvN)), vN x, vN (pos W M x), vN t, y7, none] from rfl, Option.bind_some]
        have lc := lcP (Φ := sem DD k) (D := D) (ρ := [some (false, EW W), some (false, EW R), some (false, EM M), some (false, .lst ((s ++ q).map pvN)), vN x, vN (pos W M x), vN t, y7, none]) (own := [8]) (ce := .var 8) (pt := .nm 8) (ci := .rng1 (.bi .len (.cons (.var 2) .nil))) (ct := (.cons (.cmp .eq (.idx (.var 2) (.var 8)) (.var 6)) .nil)) nI (List.range M.length) (fun b => decide (get M b = some t)) nI (evi_rN (ev_b1 rfl rfl (by rw [pLenT, List.length_map])) (by rw [V.len]; omega)) fun b hb => st1_t rfl (ev_cm (ev_ix (z := EM M) rfl rfl rfl (ix_NT oN none (List.mem_range.mp hb))) rfl rfl eq_oN) fun _ => rfl
        rw [xs_nx (ρ1 := [some (false, EW W), some (false, EW R), some (false, EM M), some (false, .lst ((s ++ q).map pvN)), vN x, vN (pos W M x), vN t, some (false, .lst ((ownr M t).map nI)), none]) (D1 := D) (ex_as lc)]
        have ia : ev (sem DD k) (.met .indexT (.idx (.var 1) (.var 6)) (.cons (.var 4) .nil)) [some (false, EW W), some (false, EW R), some (false, EM M), some (false, .lst ((s ++ q).map pvN)), vN x, vN (pos W M x), vN t, some (false, .lst ((ownr M t).map nI)), none] D = some (nI (rk R t x), D) := ev_m1 (ev_ix rfl rfl rfl iR) rfl (ix_T (S.rmem t tm x xn))
        have c1 : ev (sem DD k) (.cmp .eq (.var 7) (.lst .nil)) [some (false, EW W), some (false, EW R), some (false, EM M), some (false, .lst ((s ++ q).map pvN)), vN x, vN (pos W M x), vN t, some (false, .lst ((ownr M t).map nI)), none] D = some (.bl (decide (ownr M t = [])), D) := ev_cm rfl rfl rfl (eq_nil fun x _ => rfl)
        have c : ev (sem DD k) (.or_ (.cons (.cmp .eq (.var 7) (.lst .nil)) (.cons (.cmp .lt (.met .indexT (.idx (.var 1) (.var 6)) (.cons (.var 4) .nil)) (.met .indexT (.idx (.var 1) (.var 6)) (.cons (.idx (.var 7) (.int 0)) .nil))) .nil))) [some (false, EW W), some (false, EW R), some (false, EM M), some (false, .lst ((s ++ q).map pvN)), vN x, vN (pos W M x), vN t, some (false, .lst ((ownr M t).map nI)), none] D = some (.bl (blkB R M x t), D) := by
          rw [ev_or, evor_cons, c1, Option.bind_some, blOf_bl, Option.bind_some]
          unfold blkB
          cases e : (ownr M t) with
          | nil => rfl
          | cons b rest =>
            rw [decide_eq_false (by simp), if_neg (by simp), evor_one]
            show _ = some (PV.bl (decide (rk R t x < rk R t b)), D)
            have hb : get M b = some t := (own_head V).mp (by rw [e]; rfl)
            rw [e] at ia
            refine ev_cm ia (ev_m1 (y := nI b) (ev_ix rfl rfl rfl iR) (ev_ix rfl rfl rfl (ix_lst nI (L := b :: rest) (i := 0) (by decide) rfl)) (ix_T (S.rmem t tm b (get_lt V hb)))) rfl pLtN
        rw [xs_nx (ρ1 := [some (false, EW W), some (false, EW R), some (false, EM M), some (false, .lst ((s ++ (q ++ (if blkB R M x t = true then [(x, t)] else []))).map pvN)), vN x, vN (pos W M x), vN t, some (false, .lst ((ownr M t).map nI)), none]) (D1 := D) (ex_as (ev_bn rfl (y := .lst ((if blkB R M x t = true then [(x, t)] else []).map pvN)) (ev_it c (by cases blkB R M x t <;> rfl)) (by
          rw [lst_add (by rw [List.length_map, List.length_map, List.length_append]; split <;> simp <;> omega), ← List.map_append, List.append_assoc])))]
        rfl)
    rw [fold_flat, List.nil_append] at hρ2
    refine ⟨.nx, [some (false, EW W), some (false, EW R), some (false, EM M), some (false, .lst ((s ++ blA W R M x).map pvN)), vN x, vN (pos W M x), y6, y7, none], ?_, .inl rfl, ⟨_, _, _, _, rfl⟩⟩
    rw [show bindP (.nm 4) (nI x) [some (false, EW W), some (false, EW R), some (false, EM M), some (false, .lst (s.map pvN)), x4, x5, x6, x7, none] = some [some (false, EW W), some (false, EW R), some (false, EM M), some (false, .lst (s.map pvN)), vN x, x5, x6, x7, none] from rfl, Option.bind_some]
    rw [xs_nx (ρ1 := [some (false, EW W), some (false, EW R), some (false, EM M), some (false, .lst (s.map pvN)), vN x, vN (pos W M x), x6, x7, none]) (D1 := D) (ex_as (have_ok V xn (ev_ix rfl rfl rfl iM) (ev_ix rfl rfl rfl iW) (ev_ix rfl rfl rfl iW))), xs_nx e2, hρ2]
    rfl
  · obtain ⟨x4, x5, x6, x7, rfl⟩ := hR
    rw [fold_flat, List.nil_append]
    refine go_ret (ev_b1 (f := .sorted) rfl rfl ?_)
    have := pSorted_pairs (cI (bl n W R M))
    rw [cI_map] at this
    exact this
end
end MP.K04

namespace MP.K04
open PySem MP
section
variable {k : Nat} {D : DS} {A W R : List (List Nat)} {n m : Nat} {M : List (Option Nat)} {a t b : Nat}
theorem enumN {α : Type} (enc : α → PV) (d : α) (xs : List α) : enumL (xs.map enc) = (List.range xs.length).map fun a => .tup [nI a, enc (xs.getD a d)] := by
  rw [enumL_g enc d xs]
  unfold rg
  rw [List.map_map, show ((xs.length : Int) - 0).toNat = xs.length by omega]
  refine List.map_congr_left fun a _ => ?_
  show PV.tup [.int (0 + (a : Int)), enc (xs.getD (0 + (a : Int)).toNat d)] = _
  rw [show (0 : Int) + (a : Int) = a by omega, Int.toNat_natCast]
theorem evi_en {α : Type} {Φ : Fns} {ρ : Envi} {e : CE} (enc : α → PV) (d : α) {xs : List α} (h : ev Φ e ρ D = some (.tup (xs.map enc), D)) : evi Φ (.enum e) ρ D = some ((List.range xs.length).map (fun a => .tup [nI a, enc (xs.getD a d)]), D) := by
  rw [evi_enum, h, Option.bind_some, seqOf_tup]
  show some (enumL (xs.map enc), D) = _
  rw [enumN enc d]
def pm (M : List (Option Nat)) : List (Nat × Nat) := ((List.range M.length).filter fun a => (get M a).isSome).map fun a => ((get M a).getD 0, a)
theorem mem_pm : (t, b) ∈ pm M ↔ get M b = some t := by
  unfold pm
  rw [List.mem_map]
  constructor
  · intro ⟨c, hc, e⟩
    cases e
    have := (List.mem_filter.mp hc).2
    cases q : get M b with
    | none => rw [q] at this; cases this
    | some s => rfl
  · intro h
    refine ⟨b, List.mem_filter.mpr ⟨List.mem_range.mpr ?_, by rw [h]; rfl⟩, by rw [h]; rfl⟩
    refine Classical.byContradiction fun hn => ?_
    have : get M b = none := by
      show M.getD b none = none
      rw [List.getD_eq_getElem?_getD, List.getElem?_eq_none (by omega)]; rfl
    rw [this] at h; cases h
theorem pm_nd (V : Valid W n M) : ((pm M).map (·.1)).Nodup := by
  refine List.pairwise_map.mpr ?_
  have h2 : (pm M).Pairwise fun p q => p.2 ≠ q.2 := by
    unfold pm
    refine List.pairwise_map.mpr ?_
    exact List.Pairwise.imp (fun {a b} (h : a ≠ b) => h) (List.nodup_range.sublist List.filter_sublist)
  refine List.Pairwise.imp_of_mem (fun {p q} hp hq h e => h ?_) h2
  have a1 := mem_pm.mp (show (p.1, p.2) ∈ pm M from hp)
  have a2 := mem_pm.mp (show (q.1, q.2) ∈ pm M from hq)
  rw [e] at a1
  exact V.inj _ _ _ a1 a2
theorem pm_look (V : Valid W n M) : (pm M).lookup t = (ownr M t).head? := by
  cases e : (ownr M t).head? with
  | none =>
    cases q : (pm M).lookup t with
    | none => rfl
    | some b =>
      have := (own_head V).mpr (mem_pm.mp (look_mem q))
      rw [e] at this; cases this
  | some b => exact mem_look (pm_nd V) (mem_pm.mpr ((own_head V).mp e))
theorem pm_len (V : Valid W n M) : (pm M).length ≤ n := by
  unfold pm
  rw [List.length_map]
  have := List.length_filter_le (fun a => (get M a).isSome) (List.range M.length)
  rw [List.length_range] at this
  have := V.len
  omega
theorem dict_pm (V : Valid W n M) : pBi .dict [.lst ((pm M).map fun p => .tup [nI p.1, nI p.2])] = some (.dct 0 (kvN (pm M))) := by
  have h := dict_I (fx := cI (pm M)) (by
    unfold cI
    rw [List.map_map]
    have q : ((pm M).map ((fun p : Int × Int => p.1) ∘ fun p : Nat × Nat => ((p.1 : Int), (p.2 : Int)))) = ((pm M).map (·.1)).map fun k : Nat => (k : Int) := by rw [List.map_map]; rfl
    rw [q]
    exact List.Pairwise.map _ (fun a b h (e : (a : Int) = (b : Int)) => h (by omega)) (pm_nd V))
  rw [cI_map] at h
  have e : kvI (cI (pm M)) = kvN (pm M) := by
    unfold kvI kvN cI
    rw [List.map_map]; rfl
  rw [e] at h
  exact h
theorem nin_N {o : List (Nat × Nat)} : pCmp .nin (nI t) (.dct 0 (kvN o)) = some (o.lookup t).isNone := by
  show ((if isKey 0 (nI t) = true then some (dGet (nI t) (kvN o)).isSome else none)).map (!·) = _
  rw [if_pos (show isKey 0 (nI t) = true from rfl), dGet_N]
  cases o.lookup t <;> rfl
theorem ix_D {o : List (Nat × Nat)} (h : o.lookup t = some b) : pIdx (.dct 0 (kvN o)) (nI t) = some (nI b) := by
  show (if isKey 0 (nI t) = true then dGet (nI t) (kvN o) else none) = _
  rw [if_pos (show isKey 0 (nI t) = true from rfl), dGet_N, h]; rfl
theorem blocking_ok (S : Su W R n m) (V : Valid W n M) (hn : n ≤ 4) (h4 : ∀ a, (wi W a).length ≤ 4) : sem DD (k + 1) 1 [EW W, EW R, EM M] D = some (.tup ((srtP (cI (bl n W R M))).map pv2), D) := by
  rw [r_f_blocking]
  refine run_ex rfl ?_
  unfold c_f_blocking
  show ∃ ρ', exs _ _ [some (false, EW W), some (false, EW R), some (false, EM M), none, none, none, none, none, none] _ = _
  have lc := lcP (Φ := sem DD k) (D := D) (ρ := [some (false, EW W), some (false, EW R), some (false, EM M), none, none, none, none, none, none]) (own := [5, 8]) (ce := (.tup (.cons (.var 8) (.cons (.var 5) .nil)))) (pt := (.tp [(.nm 5), (.nm 8)])) (ci := .enum (.var 2)) (ct := (.cons (.cmp .isn (.var 8) .non) .nil))
    (fun a => .tup [nI a, oN (get M a)]) (List.range M.length) (fun a => (get M a).isSome) (fun a => .tup [oN (get M a), nI a]) (evi_en oN none (ev_vr rfl)) fun a _ => st1_t rfl (ev_cm (x := oN (get M a)) rfl rfl rfl isn_non) fun _ => ev_t2 rfl rfl
  have lc2 : ((List.range M.length).filter fun a => (get M a).isSome).map (fun a => PV.tup [oN (get M a), nI a]) = (pm M).map fun p => .tup [nI p.1, nI p.2] := by
    unfold pm
    rw [List.map_map]
    refine List.map_congr_left fun a ha => ?_
    have := (List.mem_filter.mp ha).2
    show PV.tup [oN (get M a), nI a] = .tup [nI ((get M a).getD 0), nI a]
    cases q : get M a with
    | none => rw [q] at this; cases this
    | some s => rfl
  rw [lc2] at lc
  refine go_asg (.dct 0 (kvN (pm M))) (ev_b1 (f := .dict) lc rfl (dict_pm V)) ?_
  refine go_asg (.lst []) rfl ?_
  show ∃ ρ', exs _ _ [some (false, EW W), some (false, EW R), some (false, EM M), some (false, .dct 0 (kvN (pm M))), some (true, .lst []), none, none, none, none] _ = _
  refine go_forP (fun a => .tup [nI a, EX (W.getD a [])]) (List.range W.length) (fun (s : List (Nat × Nat)) ρ => ∃ x5 x6 x7 x8, ρ = [some (false, EW W), some (false, EW R), some (false, EM M), some (false, .dct 0 (kvN (pm M))), some (true, .lst (s.map pvN)), x5, x6, x7, x8]) (fun s a => s ++ blA W R M a) [] (evi_en EX [] (ev_vr rfl)) ⟨_, _, _, _, rfl⟩ (fun pre x post ρ hx hR => ?_) (fun ρ1 hR => ?_)
  · obtain ⟨x5, x6, x7, x8, rfl⟩ := hR
    have pl := pre_len hx
    rw [List.length_range, S.nW] at pl
    have xn : x < n := by rw [← S.nW]; exact List.mem_range.mp (by rw [hx]; simp)
    have iM : pIdx (EM M) (nI x) = some (oN (get M x)) := ix_NT oN none (by rw [V.len]; exact xn)
    have fl : (pre.foldl (fun s a => s ++ blA W R M a) []).length ≤ 16 := by
      rw [fold_flat, List.nil_append]
      have := flat_len (blA W R M) 4 pre fun a _ => blA_len h4 a
      omega
    generalize pre.foldl (fun s a => s ++ blA W R M a) [] = s at *
    have pe := pos_le (W := W) (M := M) (a := x)
    have h4x := h4 x
    obtain ⟨ρ2, e2, y8, hρ2⟩ := ex_forP (Φ := sem DD k) (D := D) (ρ := [some (false, EW W), some (false, EW R), some (false, EM M), some (false, .dct 0 (kvN (pm M))), some (true, .lst (s.map pvN)), vN x, some (false, EX (wi W x)), vN (pos W M x), x8]) (p := .nm 8) (it := (.over (.cut (.unx (.var 6)) .nil (.cons (.var 7) .nil))))
      (b := (.cons (.ife (.or_ (.cons (.cmp .nin (.var 8) (.var 3)) (.cons (.cmp .lt (.met .indexT (.idx (.var 1) (.var 8)) (.cons (.var 5) .nil)) (.met .indexT (.idx (.var 1) (.var 8)) (.cons (.idx (.var 3) (.var 8)) .nil))) .nil))) (.cons (.app 4 (.tup (.cons (.var 5) (.cons (.var 8) .nil)))) .nil) .nil) .nil))
      nI ((wi W x).take (pos W M x)) (fun (q : List (Nat × Nat)) ρ => ∃ y8, ρ = [some (false, EW W), some (false, EW R), some (false, EM M), some (false, .dct 0 (kvN (pm M))), some (true, .lst ((s ++ q).map pvN)), vN x, some (false, EX (wi W x)), vN (pos W M x), y8]) (fun q t => q ++ (if blkB R M x t = true then [(x, t)] else [])) [] (evi_ovT (ev_ctN (ev_ux rfl) rfl pe)) ⟨_, by rw [List.append_nil]⟩ (fun pre2 t post2 ρ hx2 hR => by
        obtain ⟨y8, rfl⟩ := hR
        have pl2 := pre_len hx2
        rw [List.length_take] at pl2
        have ttk : t ∈ (wi W x).take (pos W M x) := by rw [hx2]; simp
        have tW : t ∈ wi W x := List.mem_of_mem_take ttk
        have tm : t < m := S.lt x t tW
        have iR : pIdx (EW R) (nI t) = some (EX (R.getD t [])) := ix_NT EX [] (by rw [S.nR]; exact tm)
        have ql : (pre2.foldl (fun q t => q ++ (if blkB R M x t = true then [(x, t)] else [])) []).length ≤ 4 := by
          rw [fold_flat, List.nil_append]
          have := bl_len1 (R := R) (M := M) x pre2
          omega
        generalize pre2.foldl (fun q t => q ++ (if blkB R M x t = true then [(x, t)] else [])) [] = q at *
        refine ⟨.nx, [some (false, EW W), some (false, EW R), some (false, EM M), some (false, .dct 0 (kvN (pm M))), some (true, .lst ((s ++ (q ++ (if blkB R M x t = true then [(x, t)] else []))).map pvN)), vN x, some (false, EX (wi W x)), vN (pos W M x), vN t], ?_, .inl rfl, ⟨_, rfl⟩⟩
        rw [show bindP (.nm 8) (nI t) [some (false, EW W), some (false, EW R), some (false, EM M), some (false, .dct 0 (kvN (pm M))), some (true, .lst ((s ++ q).map pvN)), vN x, some (false, EX (wi W x)), vN (pos W M x), y8] = some [some (false, EW W), some (false, EW R), some (false, EM M), some (false, .dct 0 (kvN (pm M))), some (true, .lst ((s ++ q).map pvN)), vN x, some (false, EX (wi W x)), vN (pos W M x), vN t] from rfl, Option.bind_some]
        have ia : ev (sem DD k) (.met .indexT (.idx (.var 1) (.var 8)) (.cons (.var 5) .nil)) [some (false, EW W), some (false, EW R), some (false, EM M), some (false, .dct 0 (kvN (pm M))), some (true, .lst ((s ++ q).map pvN)), vN x, some (false, EX (wi W x)), vN (pos W M x), vN t] D = some (nI (rk R t x), D) := ev_m1 (ev_ix rfl rfl rfl iR) rfl (ix_T (S.rmem t tm x xn))
        have c1 : ev (sem DD k) (.cmp .nin (.var 8) (.var 3)) [some (false, EW W), some (false, EW R), some (false, EM M), some (false, .dct 0 (kvN (pm M))), some (true, .lst ((s ++ q).map pvN)), vN x, some (false, EX (wi W x)), vN (pos W M x), vN t] D = some (.bl ((pm M).lookup t).isNone, D) := ev_cm (x := nI t) (y := .dct 0 (kvN (pm M))) rfl rfl rfl nin_N
        have c : ev (sem DD k) (.or_ (.cons (.cmp .nin (.var 8) (.var 3)) (.cons (.cmp .lt (.met .indexT (.idx (.var 1) (.var 8)) (.cons (.var 5) .nil)) (.met .indexT (.idx (.var 1) (.var 8)) (.cons (.idx (.var 3) (.var 8)) .nil))) .nil))) [some (false, EW W), some (false, EW R), some (false, EM M), some (false, .dct 0 (kvN (pm M))), some (true, .lst ((s ++ q).map pvN)), vN x, some (false, EX (wi W x)), vN (pos W M x), vN t] D = some (.bl (blkB R M x t), D) := by
          rw [ev_or, evor_cons, c1, Option.bind_some, blOf_bl, Option.bind_some]
          unfold blkB
          rw [pm_look V]
          cases e : (ownr M t).head? with
          | none => rfl
          | some b =>
            rw [if_neg (by simp), evor_one]
            have hb : get M b = some t := (own_head V).mp e
            exact ev_cm ia (ev_m1 (y := nI b) (ev_ix rfl rfl rfl iR) (ev_ix (z := .dct 0 (kvN (pm M))) rfl rfl rfl (ix_D (by rw [pm_look V]; exact e))) (ix_T (S.rmem t tm b (get_lt V hb)))) rfl pLtN
        rw [xs_nx (ρ1 := [some (false, EW W), some (false, EW R), some (false, EM M), some (false, .dct 0 (kvN (pm M))), some (true, .lst ((s ++ (q ++ (if blkB R M x t = true then [(x, t)] else []))).map pvN)), vN x, some (false, EX (wi W x)), vN (pos W M x), vN t]) (D1 := D) (by
          rw [ex_ife, c, Option.bind_some, blOf_bl, Option.bind_some]
          cases blkB R M x t with
          | true =>
            rw [if_pos rfl, if_pos rfl]
            rw [xs_nx (ρ1 := [some (false, EW W), some (false, EW R), some (false, EM M), some (false, .dct 0 (kvN (pm M))), some (true, .lst ((s ++ (q ++ [(x, t)])).map pvN)), vN x, some (false, EX (wi W x)), vN (pos W M x), vN t]) (D1 := D) (by
              rw [ex_app, ev_t2 (x := nI x) (y := nI t) rfl rfl, Option.bind_some, chgO_of rfl, app_ok (by simp; omega)]
              simp; rfl)]
            rfl
          | false => simp)]
        rfl)
    rw [fold_flat, List.nil_append] at hρ2
    refine ⟨.nx, [some (false, EW W), some (false, EW R), some (false, EM M), some (false, .dct 0 (kvN (pm M))), some (true, .lst ((s ++ blA W R M x).map pvN)), vN x, some (false, EX (wi W x)), vN (pos W M x), y8], ?_, .inl rfl, ⟨_, _, _, _, rfl⟩⟩
    rw [show bindP (.tp [(.nm 5), (.nm 6)]) (.tup [nI x, EX (W.getD x [])]) [some (false, EW W), some (false, EW R), some (false, EM M), some (false, .dct 0 (kvN (pm M))), some (true, .lst (s.map pvN)), x5, x6, x7, x8] = some [some (false, EW W), some (false, EW R), some (false, EM M), some (false, .dct 0 (kvN (pm M))), some (true, .lst (s.map pvN)), vN x, some (false, EX (wi W x)), x7, x8] from rfl, Option.bind_some]
    rw [xs_nx (ρ1 := [some (false, EW W), some (false, EW R), some (false, EM M), some (false, .dct 0 (kvN (pm M))), some (true, .lst (s.map pvN)), vN x, some (false, EX (wi W x)), vN (pos W M x), x8]) (D1 := D) (ex_as (have_ok V xn (ev_ix rfl rfl rfl iM) rfl rfl)), xs_nx e2, hρ2]
    rfl
  · obtain ⟨x5, x6, x7, x8, rfl⟩ := hR
    rw [fold_flat, List.nil_append, show W.length = n from S.nW]
    have := pSorted_pairs (cI (bl n W R M))
    rw [cI_map] at this
    exact go_ret (ev_b1 (f := .tuple) (ev_b1 (f := .sorted) (ev_br rfl) rfl this) rfl rfl)
/-! ### draws -/
theorem draw {m : Int} (h : Wst D) (hm : 0 < m) : ∃ r D', sem DD (k + 1) 3 [.shr 0, .int m] D = some (.int r, D') ∧ 0 ≤ r ∧ r < m ∧ Wst D' := by
  rw [r_f__law_next]; exact next_ok h hm
theorem alike_k {j n : Nat} {x : PV} (h : ag j x = true) (hk : j < n) : sem DD n 5 [x, x] D = some (.bl true, D) :=
  alike_ok (Fs := fun n => sem DD n) (g := 5) (fun n args D => r_f__law_alike n args D) j n x h hk
theorem wlen (h : Wst D) : D.length = 1 := by obtain ⟨_, _, rfl, _⟩ := h; rfl
theorem pick_k {xs : List PV} (h : Wst D) (hne : xs ≠ []) : ∃ x D', sem DD (k + 2) 4 [.shr 0, .lst xs] D = some (x, D') ∧ x ∈ xs ∧ Wst D' := by
  have hl : 0 < xs.length := List.length_pos_iff.mpr hne
  obtain ⟨r, D', e, r0, r1, w⟩ := draw (k := k) (m := xs.length) h (by omega)
  refine ⟨xs[r.toNat]'(by omega), D', ?_, List.getElem_mem _, w⟩
  obtain ⟨ds, a, rfl, _⟩ := w
  rw [r_f__law_pick]
  obtain ⟨ds0, a0, rfl, _⟩ := h
  refine run_ex rfl ?_ rfl
  unfold c_f__law_pick
  show ∃ ρ', exs _ _ [some (false, .shr 0), some (false, .lst xs)] _ = _
  refine go_ret ?_
  have v : ev (sem DD (k + 1)) (.call 3 (.cons (.var 0) (.cons (.bi .len (.cons (.var 1) .nil)) .nil))) [some (false, .shr 0), some (false, .lst xs)] [wD ds0 a0] = some (.int r, [wD ds a]) := ev_c2 rfl (ev_b1 rfl rfl rfl) e
  have ix : pIdx (.lst xs) (.int r) = some (xs[r.toNat]'(by omega)) := by
    show (ixN xs.length r).bind (fun j => xs[j]?) = _
    rw [ixN_ok r0 r1, Option.bind_some, List.getElem?_eq_getElem]
  rw [ev_idx, show ev (sem DD (k + 1)) (.var 1) [some (false, .shr 0), some (false, .lst xs)] [wD ds0 a0] = some (.lst xs, [wD ds0 a0]) from rfl, Option.bind_some, v, Option.bind_some]
  simp only [opd_lst, Option.bind_some, ix, Option.map_some]
theorem ne_N {i j : Nat} : pCmp .ne (nI i) (nI j) = some (!decide (i = j)) := by
  show (pEq (.int i) (.int j)).map (!·) = _
  rw [pEq_int, beq_cast]
  by_cases c : i = j
  · subst c; simp
  · have h1 : (i == j) = false := by simpa using c
    rw [h1, decide_eq_false c]; rfl
/-- things in an order out of the draws -/
theorem order_ok {own : List Nat} {x : PV} (h : Wst D) (hx : x = EL own ∨ x = .lst (own.map nI)) (hn : own.Nodup) (hl : own.length ≤ 1000) : ∃ ys D', sem DD (k + 3) 6 [.shr 0, x] D = some (EX ys, D') ∧ ys.Perm own ∧ Wst D' := by
  have s1 : ex (sem DD (k + 2)) (.par (nms [2, 3]) [false, false] (.cons (.bi .list (.cons (.var 1) .nil)) (.cons (.lst .nil) .nil))) [some (false, .shr 0), some (false, x), none, none, none, none] D = some (.nx, [some (false, .shr 0), some (false, x), some (false, .lst (own.map nI)), some (false, .lst []), none, none], D) := by
    rcases hx with rfl | rfl <;> rfl
  have wl := while_inv (c := fun ρ D => (ev (sem DD (k + 2)) (.cmp .ne (.var 2) (.lst .nil)) ρ D).bind fun r => (blOf r.1).map fun z => (z, r.2)) (f := fun ρ D => exs (sem DD (k + 2)) (.cons (.asg false 4 (.call 4 (.cons (.var 0) (.cons (.var 2) .nil))))
     (.cons (.par (nms [3, 2]) [false, false] (.cons (.bin .add (.var 3) (.lst (.cons (.var 4) .nil))) (.cons (.lc1 [5] (.var 5) (.nm 5) (.over (.var 2)) (.cons (.cmp .ne (.var 5) (.var 4)) .nil)) .nil)))
     .nil)) ρ D) (P := fun ρ D' => Wst D' ∧ ∃ (found : List Nat) (x4 : Option (Bool × PV)), ρ = [some (false, .shr 0), some (false, x), some (false, .lst []), some (false, .lst (found.map nI)), x4, none] ∧ found.Perm own)
    (fun μ ρ D' => Wst D' ∧ ∃ (left found : List Nat) (x4 : Option (Bool × PV)), ρ = [some (false, .shr 0), some (false, x), some (false, .lst (left.map nI)), some (false, .lst (found.map nI)), x4, none] ∧ (found ++ left).Perm own ∧ left.length ≤ μ) (fun μ ρ D' ⟨hw, left, found, x4, hρ, hp, hμ⟩ => by
      subst hρ
      have c : ev (sem DD (k + 2)) (.cmp .ne (.var 2) (.lst .nil)) [some (false, .shr 0), some (false, x), some (false, .lst (left.map nI)), some (false, .lst (found.map nI)), x4, none] D' = some (.bl (!decide (left = [])), D') := ev_cm rfl rfl rfl (ne_nil fun x _ => rfl)
      by_cases hne : left = []
      · subst hne
        refine .inl ⟨D', ?_, hw, found, x4, rfl, by simpa using hp⟩
        show (ev _ _ _ _).bind _ = _
        rw [c]; rfl
      · obtain ⟨y, D2, e, hy, w2⟩ := pick_k (k := k) (xs := left.map nI) hw (by simpa using hne)
        obtain ⟨q, hq, rfl⟩ := List.mem_map.mp hy
        have nd : (found ++ left).Nodup := hp.nodup_iff.mpr hn
        have ndl : left.Nodup := (List.nodup_append.mp nd).2.1
        have hlen := hp.length_eq
        rw [List.length_append] at hlen
        have er : left.filter (fun z => !decide (z = q)) = left.erase q := by
          rw [ndl.erase_eq_filter]
          refine List.filter_congr fun z _ => ?_
          by_cases c : z = q
          · subst c; simp
          · rw [decide_eq_false c]; simpa using c
        have pl : left.Perm (q :: left.erase q) := List.perm_cons_erase hq
        have l0 : 0 < left.length := List.length_pos_iff.mpr hne
        have el : (left.erase q).length = left.length - 1 := List.length_erase_of_mem hq
        refine .inr ⟨D', [some (false, .shr 0), some (false, x), some (false, .lst ((left.erase q).map nI)), some (false, .lst ((found ++ [q]).map nI)), vN q, none], D2, μ - 1, ?_, by omega, ?_, w2, left.erase q, found ++ [q], vN q, rfl, ?_, by omega⟩
        · show (ev _ _ _ _).bind _ = _
          rw [c, decide_eq_false hne]; rfl
        · show exs _ _ _ _ = _
          rw [xs_nx (ρ1 := [some (false, .shr 0), some (false, x), some (false, .lst (left.map nI)), some (false, .lst (found.map nI)), vN q, none]) (D1 := D2) (ex_as (ev_c2 rfl rfl e))]
          have lc := lcP (Φ := sem DD (k + 2)) (D := D2) (ρ := [some (false, .shr 0), some (false, x), some (false, .lst (left.map nI)), some (false, .lst (found.map nI)), vN q, none]) (own := [5]) (ce := .var 5) (pt := .nm 5) (ci := .over (.var 2)) (ct := (.cons (.cmp .ne (.var 5) (.var 4)) .nil)) nI left (fun z => !decide (z = q)) nI (evi_ov rfl) fun z _ => st1_t rfl (ev_cm (x := nI z) rfl rfl rfl ne_N) fun _ => rfl
          rw [er] at lc
          rw [xs_nx (ρ1 := [some (false, .shr 0), some (false, x), some (false, .lst ((left.erase q).map nI)), some (false, .lst ((found ++ [q]).map nI)), vN q, none]) (D1 := D2) (by
            rw [ex_par, evs_cons, ev_bn (x := .lst (found.map nI)) (y := .lst [nI q]) (v := .lst ((found ++ [q]).map nI)) rfl rfl (by rw [lst_add (by rw [List.length_map]; show _ + 1 ≤ _; omega)]; simp), Option.bind_some, evs_cons, lc]
            rfl)]
          rfl
        · rw [List.append_assoc]
          exact (List.Perm.append_left found pl.symm).trans hp)
    own.length WH [some (false, .shr 0), some (false, x), some (false, .lst (own.map nI)), some (false, .lst []), none, none] D (by show own.length < 100000; omega) ⟨h, own, [], none, rfl, by simp, Nat.le_refl _⟩
  obtain ⟨ρ', D', e, w, found, x4, hρ, hp⟩ := wl
  subst hρ
  refine ⟨found, D', ?_, hp, w⟩
  rw [r_f__law_order]
  refine run_ex rfl ?_ (by rw [wlen w, wlen h])
  unfold c_f__law_order
  show ∃ ρ', exs _ _ [some (false, .shr 0), some (false, x), none, none, none, none] _ = _
  refine go_nx s1 (go_nx (s := .whl _ _) (by rw [ex_whl]; exact e) ?_)
  exact go_ret (ev_b1 (f := .tupX) rfl rfl rfl)
/-- a comprehension that draws, item by item -/
theorem lcR {α β : Type} {Φ : Fns} {ρ : Envi} {own : List Nat} {ce : CE} {pt : Pat} {ci : CI} {ct : CEs} {D0 : DS} (enc : β → PV) (f : α → PV) (Rl : β → α → Prop) : ∀ (xs : List β) (D : DS), Wst D → evi Φ ci ρ D0 = some (xs.map enc, D) → (∀ x ∈ xs, ∀ D, Wst D → ∃ (y : α) (D' : DS), st1 Φ own ce pt ct ρ (enc x) D = some ([f y], D') ∧ Wst D' ∧ Rl x y) →
    ∃ (ms : List α) (D' : DS), ev Φ (.lc1 own ce pt ci ct) ρ D0 = some (.lst (ms.map f), D') ∧ Wst D' ∧ ms.length = xs.length ∧ ∀ (i : Nat) (x : β) (y : α), xs[i]? = some x → ms[i]? = some y → Rl x y := by
  have key : ∀ (xs : List β) (D : DS), Wst D → (∀ x ∈ xs, ∀ D, Wst D → ∃ (y : α) (D' : DS), st1 Φ own ce pt ct ρ (enc x) D = some ([f y], D') ∧ Wst D' ∧ Rl x y) → ∃ (ms : List α) (D' : DS), lcF (st1 Φ own ce pt ct ρ) (xs.map enc) D = some (ms.map f, D') ∧ Wst D' ∧ ms.length = xs.length ∧ ∀ (i : Nat) (x : β) (y : α), xs[i]? = some x → ms[i]? = some y → Rl x y := by
    intro xs
    induction xs with
    | nil => exact fun D h _ => ⟨[], D, rfl, h, rfl, fun i x y h => by simp at h⟩
    | cons x xs ih =>
      intro D h H
      obtain ⟨y, D1, e1, h1, hq⟩ := H x List.mem_cons_self D h
      obtain ⟨ms, D2, e2, h2, hl, hQ⟩ := ih D1 h1 fun m hm => H m (List.mem_cons_of_mem _ hm)
      refine ⟨y :: ms, D2, ?_, h2, by rw [List.length_cons, List.length_cons, hl], fun i a b ha hb => ?_⟩
      · rw [List.map_cons, lcF, e1, Option.bind_some, e2]; rfl
      · cases i with
        | zero => simp at ha hb; subst ha hb; exact hq
        | succ i => exact hQ i a b (by simpa using ha) (by simpa using hb)
  intro xs D h hi H
  obtain ⟨ms, D', e, h1, h2⟩ := key xs D h H
  refine ⟨ms, D', ?_, h1, h2⟩
  rw [ev_lc1, hi, Option.bind_some, e]; rfl
end
end MP.K04

namespace MP.K04
open PySem MP
section
variable {k : Nat} {D : DS} {A W R : List (List Nat)} {n m : Nat} {M : List (Option Nat)} {a t b : Nat}
/-! ### all dealings -/
def nxtR (own : List Nat) (row : List (Option Nat)) : List (List (Option Nat)) := ((own.map some ++ [none]).filter fun (x : Option Nat) => x.isNone || !decide (x ∈ row)).map fun x => row ++ [x]
def stepR (rows : List (List (Option Nat))) (own : List Nat) : List (List (Option Nat)) := rows.flatMap (nxtR own)
def rowsL (A : List (List Nat)) : List (List (Option Nat)) := A.foldl stepR [[]]
theorem nxtR_len {own : List Nat} (h : own.length ≤ 4) (row : List (Option Nat)) : (nxtR own row).length ≤ 5 := by
  unfold nxtR
  rw [List.length_map]
  have := List.length_filter_le (fun (x : Option Nat) => x.isNone || !decide (x ∈ row)) (own.map some ++ [none])
  rw [List.length_append, List.length_map] at this
  have : ([none] : List (Option Nat)).length = 1 := rfl
  omega
theorem rowsL_len : ∀ (A : List (List Nat)), (∀ own ∈ A, own.length ≤ 4) → (rowsL A).length ≤ 5 ^ A.length := fun A => by
  refine snoc_ind (P := fun (A : List (List Nat)) => (∀ own ∈ A, own.length ≤ 4) → (rowsL A).length ≤ 5 ^ A.length) (fun _ => Nat.le_refl 1) (fun A own ih h => ?_) A
  have ih := ih fun o ho => h o (List.mem_append_left _ ho)
  have e : rowsL (A ++ [own]) = (rowsL A).flatMap (nxtR own) := by
    unfold rowsL
    rw [List.foldl_append]; rfl
  rw [e, List.length_append]
  have := flat_len (nxtR own) 5 (rowsL A) fun r _ => nxtR_len (h own (by simp)) r
  show _ ≤ 5 ^ (A.length + 1)
  rw [Nat.pow_succ]
  exact Nat.le_trans this (Nat.mul_le_mul_right 5 ih)
theorem get_app {M : List (Option Nat)} {x : Option Nat} : get (M ++ [x]) a = if a < M.length then get M a else if a = M.length then x else none := by
  show (M ++ [x]).getD a none = _
  rw [List.getD_eq_getElem?_getD, List.getElem?_append]
  split
  · show _ = M.getD a none
    rw [List.getD_eq_getElem?_getD]
  · by_cases c : a = M.length
    · subst c; simp
    · rw [if_neg c, List.getElem?_eq_none (by simp; omega)]; rfl
theorem get_out {M : List (Option Nat)} (h : M.length ≤ a) : get M a = none := by
  show M.getD a none = none
  rw [List.getD_eq_getElem?_getD, List.getElem?_eq_none h]; rfl
theorem some_mem {M : List (Option Nat)} : some t ∈ M ↔ ∃ a, get M a = some t := by
  rw [List.mem_iff_getElem?]
  constructor
  · intro ⟨i, hi⟩
    exact ⟨i, by show M.getD i none = _; rw [List.getD_eq_getElem?_getD, hi]; rfl⟩
  · intro ⟨i, hi⟩
    refine ⟨i, ?_⟩
    have hi : M.getD i none = some t := hi
    rw [List.getD_eq_getElem?_getD] at hi
    cases q : M[i]? with
    | none => rw [q] at hi; cases hi
    | some x => rw [q] at hi; exact congrArg some hi
structure VA (A : List (List Nat)) (M : List (Option Nat)) : Prop where
  len : M.length = A.length
  mem : ∀ a t, get M a = some t → t ∈ A.getD a []
  inj : ∀ a b t, get M a = some t → get M b = some t → a = b
theorem rowsL_mem (A : List (List Nat)) : ∀ M, M ∈ rowsL A ↔ VA A M := by
  refine snoc_ind (P := fun (A : List (List Nat)) => ∀ M, M ∈ rowsL A ↔ VA A M) (fun M => ?_) (fun A own ih M => ?_) A
  · constructor
    · intro h
      have : M = [] := List.mem_singleton.mp h
      subst this
      exact ⟨rfl, fun a t h => (by rw [get_out (by simp)] at h; cases h), fun a b t h => (by rw [get_out (by simp)] at h; cases h)⟩
    · intro h
      have : M = [] := List.length_eq_zero_iff.mp h.len
      subst this
      exact List.mem_singleton.mpr rfl
  · have e : rowsL (A ++ [own]) = (rowsL A).flatMap (nxtR own) := by
      unfold rowsL
      rw [List.foldl_append]; rfl
    rw [e, List.mem_flatMap]
    constructor
    · intro ⟨row, hr, hM⟩
      obtain ⟨x, hx, rfl⟩ := List.mem_map.mp hM
      obtain ⟨hx, hc⟩ := List.mem_filter.mp hx
      have V := (ih row).mp hr
      have vl := V.len
      have hxo : ∀ s, x = some s → s ∈ own ∧ ∀ c, get row c ≠ some s := fun s es => by
        subst es
        refine ⟨?_, fun c hc2 => ?_⟩
        · rcases List.mem_append.mp hx with h | h
          · obtain ⟨y, hy, e⟩ := List.mem_map.mp h
            rw [← Option.some.inj e]; exact hy
          · simp at h
        · have : some s ∈ row := some_mem.mpr ⟨c, hc2⟩
          simp [this] at hc
      refine ⟨by rw [List.length_append, List.length_append, vl]; rfl, fun a t h => ?_, fun a b t h1 h2 => ?_⟩
      · rw [get_app] at h
        rw [List.getD_eq_getElem?_getD, List.getElem?_append]
        split at h
        · rename_i hl
          rw [if_pos (by omega), ← List.getD_eq_getElem?_getD]; exact V.mem a t h
        · split at h
          · rename_i hl
            rw [if_neg (by omega), show a - A.length = 0 by omega]
            exact (hxo t h).1
          · cases h
      · rw [get_app] at h1 h2
        split at h1
        · split at h2
          · exact V.inj a b t h1 h2
          · split at h2
            · exact absurd h1 ((hxo t h2).2 a)
            · cases h2
        · split at h1
          · split at h2
            · exact absurd h2 ((hxo t h1).2 b)
            · split at h2
              · omega
              · cases h2
          · cases h1
    · intro V
      have vl := V.len
      rw [List.length_append] at vl
      have vl : M.length = A.length + 1 := vl
      have hne : M ≠ [] := fun z => by rw [z] at vl; simp at vl
      have hM : M = M.dropLast ++ [M.getLast hne] := (List.dropLast_concat_getLast hne).symm
      generalize M.getLast hne = x at hM
      generalize M.dropLast = row at hM
      subst hM
      rw [List.length_append] at vl
      have rl : row.length = A.length := by have : ([x]).length = 1 := rfl; omega
      have lo : ∀ a, a < row.length → get (row ++ [x]) a = get row a := fun a h => by rw [get_app, if_pos h]
      have la : get (row ++ [x]) row.length = x := by rw [get_app, if_neg (Nat.lt_irrefl _), if_pos rfl]
      have inr : ∀ a t, get row a = some t → a < row.length := fun a t h => by
        refine Classical.byContradiction fun hn => ?_
        rw [get_out (by omega)] at h; cases h
      refine ⟨row, (ih row).mpr ⟨rl, fun a t h => ?_, fun a b t h1 h2 => ?_⟩, List.mem_map.mpr ⟨x, List.mem_filter.mpr ⟨?_, ?_⟩, rfl⟩⟩
      · have al := inr a t h
        have := V.mem a t (by rw [lo a al]; exact h)
        rw [List.getD_eq_getElem?_getD, List.getElem?_append, if_pos (by omega), ← List.getD_eq_getElem?_getD] at this
        exact this
      · exact V.inj a b t (by rw [lo a (inr a t h1)]; exact h1) (by rw [lo b (inr b t h2)]; exact h2)
      · cases x with
        | none => simp
        | some s =>
          have := V.mem row.length s la
          rw [List.getD_eq_getElem?_getD, List.getElem?_append, if_neg (by omega), show row.length - A.length = 0 by omega] at this
          exact List.mem_append_left _ (List.mem_map.mpr ⟨s, this, rfl⟩)
      · cases x with
        | none => rfl
        | some s =>
          have : ¬ some s ∈ row := fun z => by
            obtain ⟨c, hc⟩ := some_mem.mp z
            have cl := inr c s hc
            have := V.inj c row.length s (by rw [lo c cl]; exact hc) la
            omega
          simp [this]
theorem nin_oN {x : Option Nat} {row : List (Option Nat)} : pCmp .nin (oN x) (EM row) = some (!decide (x ∈ row)) := by
  have s1 : ∀ y : Option Nat, ∀ d, shp d (oN y) = true := fun y d => by cases y <;> cases d <;> rfl
  have h2 : (row.map oN).all (shp DEP) = true := by
    rw [List.all_map, List.all_eq_true]; exact fun y _ => s1 y _
  show ((if (shp DEP (oN x) && (row.map oN).all (shp DEP)) = true then some ((row.map oN).any fun y => peq y (oN x)) else none)).map (!·) = _
  rw [s1, h2, if_pos (show (true && true) = true from rfl)]
  have pe : ∀ y : Option Nat, peq (oN y) (oN x) = decide (y = x) := fun y => by
    cases y with
    | none => cases x <;> rfl
    | some s =>
      cases x with
      | none => rfl
      | some r =>
        show peq (.int s) (.int r) = _
        rw [peq_int, beq_cast]
        by_cases c : s = r
        · subst c; simp
        · have : ¬ some s = some r := fun z => c (Option.some.inj z)
          rw [decide_eq_false this]; simpa using c
  have : ((row.map oN).any fun y => peq y (oN x)) = decide (x ∈ row) := by
    rw [List.any_map]
    induction row with
    | nil => rfl
    | cons y row ih =>
      rw [List.any_cons, ih (by
        rw [List.all_map, List.all_eq_true]; exact fun y _ => s1 y _)]
      show (peq (oN y) (oN x) || decide (x ∈ row)) = _
      rw [pe]
      by_cases c : y = x
      · subst c; simp
      · have : ¬ x = y := fun z => c z.symm
        rw [decide_eq_false c]; simp [this]
  rw [this]; rfl
/-! ### the least -/
theorem minN {L : List Nat} {x : Nat} (hx : x ∈ L) (h : ∀ y ∈ L, x ≤ y) : pMin (L.map nI) = some (nI x) := by
  have C : Cmp (L.map nI) := Cmp.of L (fun a => rfl) (fun a => shp_int) fun a b => rfl
  obtain ⟨r, e, hr, hm⟩ := pMin_ok C (by intro z; rw [List.map_eq_nil_iff] at z; rw [z] at hx; cases hx)
  obtain ⟨y, hy, rfl⟩ := List.mem_map.mp hr
  have := hm _ (List.mem_map.mpr ⟨x, hx, rfl⟩)
  have h3 := h y hy
  simp [plt] at this
  rw [e, show y = x by omega]
theorem at_pos {n : Nat} (V : Valid W n M) (ha : a < n) : ((wi W a).map nI ++ [PV.non])[pos W M a]? = some (oN (get M a)) := by
  unfold pos
  cases e : get M a with
  | none =>
    show _ = some PV.non
    rw [List.getElem?_append, if_neg (by simp)]
    simp
  | some t =>
    have ht := V.mem a t e
    have hl : (wi W a).idxOf t < (wi W a).length := List.idxOf_lt_length_of_mem ht
    rw [List.getElem?_append, if_pos (by simpa using hl), List.getElem?_map, List.getElem?_eq_getElem hl, List.getElem_idxOf hl]; rfl
/-- a comprehension over things, with a drawn test -/
theorem lcWe {β : Type} {Φ : Fns} {ρ : Envi} {own : List Nat} {ce : CE} {pt : Pat} {ci : CI} {ct : CEs} {D0 : DS} (enc : β → PV) : ∀ (xs : List β) (D : DS), Wst D → evi Φ ci ρ D0 = some (xs.map enc, D) → (∀ x ∈ xs, ∀ D, Wst D → ∃ (b : Bool) (D' : DS), st1 Φ own ce pt ct ρ (enc x) D = some (if b then [enc x] else [], D') ∧ Wst D') →
    ∃ (ms : List β) (D' : DS), ev Φ (.lc1 own ce pt ci ct) ρ D0 = some (.lst (ms.map enc), D') ∧ Wst D' ∧ ms.Sublist xs := by
  have key : ∀ (xs : List β) (D : DS), Wst D → (∀ x ∈ xs, ∀ D, Wst D → ∃ (b : Bool) (D' : DS), st1 Φ own ce pt ct ρ (enc x) D = some (if b then [enc x] else [], D') ∧ Wst D') → ∃ (ms : List β) (D' : DS), lcF (st1 Φ own ce pt ct ρ) (xs.map enc) D = some (ms.map enc, D') ∧ Wst D' ∧ ms.Sublist xs := by
    intro xs
    induction xs with
    | nil => exact fun D h _ => ⟨[], D, rfl, h, List.Sublist.refl _⟩
    | cons n ns ih =>
      intro D h H
      obtain ⟨b, D1, e1, h1⟩ := H n List.mem_cons_self D h
      obtain ⟨ms, D2, e2, h2, hs⟩ := ih D1 h1 fun m hm => H m (List.mem_cons_of_mem _ hm)
      cases b with
      | true => exact ⟨n :: ms, D2, by rw [List.map_cons, lcF, e1, Option.bind_some, e2]; rfl, h2, List.Sublist.cons₂ _ hs⟩
      | false => exact ⟨ms, D2, by rw [List.map_cons, lcF, e1, Option.bind_some, e2]; rfl, h2, List.Sublist.cons _ hs⟩
  intro xs D h hi H
  obtain ⟨ms, D', e, h1, h2⟩ := key xs D h H
  refine ⟨ms, D', ?_, h1, h2⟩
  rw [ev_lc1, hi, Option.bind_some, e]; rfl
end
end MP.K04

namespace MP.K04
open PySem MP
abbrev P40 : Fns := sem DD 40
def b0 : CS := (.par (nms [13, 14]) [false, false] (.cons (.call 3 (.cons (.var 1) (.cons (.int 5) .nil))) (.cons (.bin .add (.int 1) (.call 3 (.cons (.var 1) (.cons (.int 4) .nil)))) .nil)))
def b1 : CS := (.asg false 3 (.bi .tuple (.cons (.lc1 [10] (.bi .tuple (.cons (.lc1 [17] (.var 17) (.nm 17) (.rng1 (.var 14)) (.cons (.cmp .gt (.call 3 (.cons (.var 1) (.cons (.int 3) .nil))) (.int 0)) .nil)) .nil)) (.nm 10) (.rng1 (.var 13)) .nil) .nil)))
def b2 : CS := (.asg false 4 (.bi .tuple (.cons (.lc1 [7] (.call 6 (.cons (.var 1) (.cons (.var 7) .nil))) (.nm 7) (.over (.var 3)) .nil) .nil)))
def b3 : CS := (.asg false 5 (.bi .tuple (.cons (.lc1 [17] (.call 6 (.cons (.var 1) (.cons (.bi .listRange (.cons (.var 13) .nil)) .nil))) (.nm 17) (.rng1 (.var 14)) .nil) .nil)))
def b4 : CS := (.asg false 6 (.lst (.cons (.tup .nil) .nil)))
def b5 : CS := (.for_ (.nm 7) (.over (.var 3)) (.cons (.asg false 15 (.lst .nil)) (.cons (.for_ (.nm 12) (.over (.var 6)) (.cons (.asg false 15 (.bin .add (.var 15) (.lc1 [18] (.bin .add (.var 12) (.tup (.cons (.var 18) .nil))) (.nm 18) (.over (.bin .add (.var 7) (.tup (.cons .non .nil)))) (.cons (.or_ (.cons (.cmp .is_ (.var 18) .non) (.cons (.cmp .nin (.var 18) (.var 12)) .nil))) .nil)))) .nil)) (.cons (.asg false 6 (.var 15)) .nil))))
def b6 : CS := (.asg false 8 (.lc1 [12] (.var 12) (.nm 12) (.over (.var 6)) (.cons (.cmp .eq (.call 7 (.cons (.var 4) (.cons (.var 5) (.cons (.var 12) .nil)))) (.lst .nil)) .nil)))
def b7 : CS := (.asg true 9 (.lst .nil))
def b8 : CS := (.for_ (.nm 10) (.rng1 (.var 13)) (.cons (.asg false 16 (.lc1 [12] (.ite (.cmp .isn (.idx (.var 12) (.var 10)) .non) (.met .indexT (.idx (.var 4) (.var 10)) (.cons (.idx (.var 12) (.var 10)) .nil)) (.bi .len (.cons (.unx (.idx (.var 4) (.var 10))) .nil))) (.nm 12) (.over (.var 8)) .nil)) (.cons (.app 9 (.idx (.bin .add (.unx (.idx (.var 4) (.var 10))) (.tup (.cons .non .nil))) (.bi .min (.cons (.var 16) .nil)))) .nil)))
def b9 : CS := (.asg false 11 (.call 0 (.cons (.var 3) (.cons (.var 4) (.cons (.var 5) .nil)))))
def b10 : CS := (.ife (.or_ (.cons (.cmp .nin (.bi .tuple (.cons (.bor 9) .nil)) (.var 8)) (.cons (.not_ (.call 5 (.cons (.var 11) (.cons (.bi .tuple (.cons (.bor 9) .nil)) .nil)))) .nil))) (.cons (.ret (.bl false)) .nil) .nil)
def b11 : CS := (.for_ (.nm 12) (.over (.tup (.cons (.call 4 (.cons (.var 1) (.cons (.var 6) .nil))) (.cons (.call 4 (.cons (.var 1) (.cons (.var 6) .nil))) (.cons (.bi .tuple (.cons (.bor 9) .nil)) .nil))))) (.cons (.ife (.not_ (.call 5 (.cons (.call 1 (.cons (.var 4) (.cons (.var 5) (.cons (.var 12) .nil)))) (.cons (.bi .tuple (.cons (.call 7 (.cons (.var 4) (.cons (.var 5) (.cons (.var 12) .nil)))) .nil)) .nil)))) (.cons (.ret (.bl false)) .nil) .nil) .nil))
def bod : CSs := (.cons b0 (.cons b1 (.cons b2 (.cons b3 (.cons b4 (.cons b5 (.cons b6 (.cons b7 (.cons b8 (.cons b9 (.cons b10 (.cons b11 .nil))))))))))))
theorem law_eq : c_f_law = .cons (.asgS 1 (.dsp 0 (.cons (.str "draws") (.call 2 (.cons (.var 0) (.cons (.int 500) .nil))) (.cons (.str "at") (.int 0) .nil)))) (.cons (.for_ (.nm 2) (.rng1 (.int 8)) bod) (.cons (.ret (.bl true)) .nil)) := rfl
section
variable {ρ : Envi} {D D1 : DS} {L : List (Nat × PV)} {i j : Nat} {v x : PV}
/-- what is known of the slots -/
def Kn (L : List (Nat × PV)) (ρ : Envi) : Prop := ρ.length = 19 ∧ ∀ i v, L.lookup i = some v → getS ρ i = some v
theorem Kn.get (h : Kn L ρ) (e : L.lookup i = some v := by rfl) : getS ρ i = some v := h.2 i v e
theorem lookup_cons {a : Nat} : ((i, x) :: L).lookup a = if a = i then some x else L.lookup a := by
  rw [List.lookup_cons]
  by_cases c : a = i
  · subst c; simp
  · have q : (a == i) = false := by simpa using c
    rw [q, if_neg c]
theorem Kn.set (h : Kn L ρ) (hi : i < 19) : Kn ((i, v) :: L) (ρ.set i (some (false, v))) := by
  refine ⟨by rw [List.length_set]; exact h.1, fun a u e => ?_⟩
  rw [lookup_cons] at e
  rw [getS_set]
  by_cases c : a = i
  · rw [if_pos c] at e
    rw [if_pos c.symm, if_pos (by rw [h.1]; exact hi)]; exact e
  · rw [if_neg c] at e
    rw [if_neg fun z => c z.symm]; exact h.2 a u e
theorem lookup_filter {S : List Nat} : ∀ {L : List (Nat × PV)} {a : Nat} {u : PV}, (L.filter fun p => !S.contains p.1).lookup a = some u → a ∉ S ∧ L.lookup a = some u
  | [], a, u, h => by cases h
  | p :: L, a, u, h => by
    obtain ⟨k, w⟩ := p
    rw [List.filter_cons] at h
    rw [lookup_cons]
    cases c : S.contains k with
    | true =>
      rw [show (!S.contains (k, w).1) = false by show (!S.contains k) = false; rw [c]; rfl, if_neg (by simp)] at h
      obtain ⟨h1, h2⟩ := lookup_filter h
      refine ⟨h1, ?_⟩
      rw [if_neg fun z => h1 (by rw [z]; exact List.contains_iff_mem.mp c)]
      exact h2
    | false =>
      rw [show (!S.contains (k, w).1) = true by show (!S.contains k) = true; rw [c]; rfl, if_pos rfl, lookup_cons] at h
      by_cases q : a = k
      · rw [if_pos q] at h ⊢
        refine ⟨fun z => ?_, h⟩
        rw [q] at z
        have := List.contains_iff_mem.mpr z
        rw [c] at this; cases this
      · rw [if_neg q] at h ⊢
        exact lookup_filter h
theorem Kn.kp {S : List Nat} {ρ' : Envi} (h : Kn L ρ) (k : Kp S ρ ρ') : Kn (L.filter fun p => !S.contains p.1) ρ' :=
  ⟨k.1.trans h.1, fun a u e => by
    obtain ⟨h1, h2⟩ := lookup_filter e
    exact k.get (h.2 a u h2) h1⟩
theorem goK {s : CS} {r : CSs} {Q : Envi → DS → Prop} (K : Kn L ρ) (h : ex P40 s ρ D = some (.nx, ρ.set i (some (false, v)), D1)) (k : ∀ τ, Kn ((i, v) :: L) τ → ∃ ρ' D', exs P40 r τ D1 = some (.nx, ρ', D') ∧ Q ρ' D') (hi : i < 19 := by decide) : ∃ ρ' D', exs P40 (.cons s r) ρ D = some (.nx, ρ', D') ∧ Q ρ' D' :=
  go h (k _ (K.set hi))
theorem goK3 {s : CS} {r : CSs} {Q : Envi → DS → Prop} {a b c : Nat} {x y z : PV} (K : Kn L ρ) (h : ex P40 s ρ D = some (.nx, ((ρ.set a (some (false, x))).set b (some (false, y))).set c (some (false, z)), D1)) (k : ∀ τ, Kn ((c, z) :: (b, y) :: (a, x) :: L) τ → ∃ ρ' D', exs P40 r τ D1 = some (.nx, ρ', D') ∧ Q ρ' D') (ha : a < 19 := by decide) (hb : b < 19 := by decide) (hc : c < 19 := by decide) : ∃ ρ' D', exs P40 (.cons s r) ρ D = some (.nx, ρ', D') ∧ Q ρ' D' :=
  go h (k _ (((K.set ha).set hb).set hc))
theorem goK2 {s : CS} {r : CSs} {Q : Envi → DS → Prop} {a b : Nat} {x y : PV} (K : Kn L ρ) (h : ex P40 s ρ D = some (.nx, (ρ.set a (some (false, x))).set b (some (false, y)), D1)) (k : ∀ τ, Kn ((b, y) :: (a, x) :: L) τ → ∃ ρ' D', exs P40 r τ D1 = some (.nx, ρ', D') ∧ Q ρ' D') (ha : a < 19 := by decide) (hb : b < 19 := by decide) : ∃ ρ' D', exs P40 (.cons s r) ρ D = some (.nx, ρ', D') ∧ Q ρ' D' :=
  go h (k _ ((K.set ha).set hb))
/-- the env within a comprehension of one name -/
abbrev B (ρ : Envi) (i : Nat) (x : PV) : Envi := (wipE ρ [i]).set i (some (false, x))
theorem B_len : (B ρ i x).length = ρ.length := by simp [B, wipE]
theorem B_i (hi : i < ρ.length) : getS (B ρ i x) i = some x := by
  show getS ((ρ.set i none).set i (some (false, x))) i = _
  rw [getS_set, if_pos rfl, if_pos (by rw [List.length_set]; exact hi)]
theorem B_j (h : getS ρ j = some v) (hij : i ≠ j := by decide) : getS (B ρ i x) j = some v := by
  show getS ((ρ.set i none).set i (some (false, x))) j = _
  rw [getS_set, if_neg hij, getS_setN, if_neg hij]; exact h
theorem Kn.add (h : Kn L ρ) (e : getS ρ i = some v) : Kn ((i, v) :: L) ρ := ⟨h.1, fun a u q => by
  rw [lookup_cons] at q
  by_cases c : a = i
  · rw [if_pos c] at q; rw [c, e]; exact q
  · rw [if_neg c] at q; exact h.2 a u q⟩
end
section
variable {ρ : Envi} {D D1 : DS} {A W R : List (List Nat)} {n m : Nat} {M F : List (Option Nat)}
theorem x0 (hl : ρ.length = 19) (h1 : getS ρ 1 = some (.shr 0)) (hw : Wst D) : ∃ (n m : Nat) (D' : DS), ex P40 b0 ρ D = some (.nx, (ρ.set 13 (vN n)).set 14 (vN m), D') ∧ Wst D' ∧ n ≤ 4 ∧ 1 ≤ m ∧ m ≤ 4 := by
  obtain ⟨a, D1, e1, a0, a1, w1⟩ := draw (k := 39) (m := 5) hw (by decide)
  obtain ⟨c, D2, e2, c0, c1, w2⟩ := draw (k := 39) (m := 4) w1 (by decide)
  obtain ⟨a, rfl⟩ := Int.eq_ofNat_of_zero_le a0
  obtain ⟨c, rfl⟩ := Int.eq_ofNat_of_zero_le c0
  refine ⟨a, 1 + c, D2, ?_, w2, by omega, by omega, by omega⟩
  unfold b0
  rw [ex_par, evs_cons, ev_c2 (x := .shr 0) (y := .int 5) (ev_vr h1) rfl e1, Option.bind_some, evs_cons, show ev P40 (.bin .add (.int 1) (.call 3 (.cons (.var 1) (.cons (.int 4) .nil)))) ρ D1 = some (nI (1 + c), D2) by
    rw [ev_bin, ev_int, Option.bind_some, ev_c2 (x := .shr 0) (y := .int 4) (ev_vr h1) rfl e2, show nI (1 + c) = .int (1 + (c : Int)) from congrArg PV.int (by omega)]; rfl]
  rfl
structure OkA (A : List (List Nat)) (n m : Nat) : Prop where
  len : A.length = n
  sub : ∀ own ∈ A, own.Sublist (List.range m)
theorem x1 (hl : ρ.length = 19) (h1 : getS ρ 1 = some (.shr 0)) (h13 : getS ρ 13 = some (nI n)) (h14 : getS ρ 14 = some (nI m)) (hn : n ≤ 4) (hm : m ≤ 4) (hw : Wst D) : ∃ (A : List (List Nat)) (D' : DS), ex P40 b1 ρ D = some (.nx, ρ.set 3 (some (false, EA A)), D') ∧ Wst D' ∧ OkA A n m := by
  obtain ⟨A, D', e, w, hln, hR⟩ := lcR (Φ := P40) (ρ := ρ) (own := [10]) (ce := (.bi .tuple (.cons (.lc1 [17] (.var 17) (.nm 17) (.rng1 (.var 14)) (.cons (.cmp .gt (.call 3 (.cons (.var 1) (.cons (.int 3) .nil))) (.int 0)) .nil)) .nil))) (pt := .nm 10) (ci := .rng1 (.var 13)) (ct := .nil) nI EL (fun (_ : Nat) (own : List Nat) => own.Sublist (List.range m)) (List.range n) D hw (evi_rN (ev_vr h13) (by omega)) fun x _ D hD => by
    obtain ⟨ms, D2, e2, w2, hs⟩ := lcWe (Φ := P40) (ρ := B ρ 10 (nI x)) (D0 := D) (own := [17]) (ce := .var 17) (pt := .nm 17) (ci := .rng1 (.var 14)) (ct := (.cons (.cmp .gt (.call 3 (.cons (.var 1) (.cons (.int 3) .nil))) (.int 0)) .nil)) nI (List.range m) D hD (evi_rN (ev_vr (B_j h14)) (by omega)) fun y _ D hD => by
      obtain ⟨r, D3, e3, _, _, w3⟩ := draw (k := 39) (m := 3) hD (by decide)
      refine ⟨decide (0 < r), D3, ?_, w3⟩
      have v17 : getS (B (B ρ 10 (nI x)) 17 (nI y)) 17 = some (nI y) := B_i (by rw [B_len]; omega)
      have tst : ev P40 (.cmp .gt (.call 3 (.cons (.var 1) (.cons (.int 3) .nil))) (.int 0)) (B (B ρ 10 (nI x)) 17 (nI y)) D = some (.bl (decide (0 < r)), D3) := by
        rw [ev_cmp, ev_c2 (x := .shr 0) (y := .int 3) (ev_vr (B_j (B_j h1))) rfl e3, Option.bind_some, ev_int, Option.bind_some, opd_int, Option.bind_some]
        rw [show pCmp .gt (.int r) (.int 0) = some (decide (0 < r)) from pLt_int]; rfl
      unfold st1
      rw [show bindP (.nm 17) (nI y) (wipE (B ρ 10 (nI x)) [17]) = some (B (B ρ 10 (nI x)) 17 (nI y)) from rfl, Option.bind_some, evt_one, tst, Option.bind_some, blOf_bl, Option.map_some, Option.bind_some]
      cases decide (0 < r) with
      | true => rw [if_pos rfl, ev_vr v17]; rfl
      | false => rfl
    refine ⟨ms, D2, ?_, w2, hs⟩
    unfold st1
    rw [show bindP (.nm 10) (nI x) (wipE ρ [10]) = some (B ρ 10 (nI x)) from rfl, Option.bind_some, evt_nil, Option.bind_some, if_pos rfl, ev_b1 (f := .tuple) (v := EL ms) e2 rfl rfl]; rfl
  refine ⟨A, D', ex_as (ev_b1 (f := .tuple) e rfl rfl), w, by rw [hln, List.length_range], fun own ho => ?_⟩
  obtain ⟨i, hi⟩ := List.mem_iff_getElem?.mp ho
  have hil := (List.getElem?_eq_some_iff.mp hi).1
  rw [hln, List.length_range] at hil
  exact hR i i own (by rw [List.getElem?_range hil]) hi
/-- wishes are the able ones in some order -/
structure OkWi (A W : List (List Nat)) : Prop where
  len : W.length = A.length
  pm : ∀ (i : Nat) (x y : List Nat), A[i]? = some x → W[i]? = some y → y.Perm x
theorem x2 (hl : ρ.length = 19) (h1 : getS ρ 1 = some (.shr 0)) (h3 : getS ρ 3 = some (EA A)) (oA : OkA A n m) (hm : m ≤ 4) (hw : Wst D) : ∃ (W : List (List Nat)) (D' : DS), ex P40 b2 ρ D = some (.nx, ρ.set 4 (some (false, EW W)), D') ∧ Wst D' ∧ OkWi A W := by
  obtain ⟨W, D', e, w, hln, hR⟩ := lcR (Φ := P40) (ρ := ρ) (own := [7]) (ce := (.call 6 (.cons (.var 1) (.cons (.var 7) .nil)))) (pt := .nm 7) (ci := .over (.var 3)) (ct := .nil) EL EX (fun (x y : List Nat) => y.Perm x) A D hw (evi_ovT (ev_vr h3)) fun x hx D hD => by
    have hs := oA.sub x hx
    have hlx := hs.length_le
    rw [List.length_range] at hlx
    obtain ⟨ys, D2, e2, hp, w2⟩ := order_ok (k := 37) (own := x) (x := EL x) hD (.inl rfl) (List.nodup_range.sublist hs) (by omega)
    refine ⟨ys, D2, ?_, w2, hp⟩
    unfold st1
    rw [show bindP (.nm 7) (EL x) (wipE ρ [7]) = some (B ρ 7 (EL x)) from rfl, Option.bind_some, evt_nil, Option.bind_some, if_pos rfl, ev_c2 (ev_vr (B_j h1)) (ev_vr (B_i (by omega))) e2]; rfl
  exact ⟨W, D', ex_as (ev_b1 (f := .tuple) e rfl rfl), w, hln, hR⟩
theorem lrange_N (hn : n ≤ 1000) : pBi .listRange [nI n] = some (.lst ((List.range n).map nI)) := by
  show (if (n : Int) ≤ 1000000 ∧ -1000000 ≤ (n : Int) then some (PV.lst ((List.range (n : Int).toNat).map fun (k : Nat) => .int k)) else none) = _
  rw [if_pos (by omega), Int.toNat_natCast]
structure OkR (R : List (List Nat)) (n m : Nat) : Prop where
  len : R.length = m
  pm : ∀ y ∈ R, y.Perm (List.range n)
theorem x3 (hl : ρ.length = 19) (h1 : getS ρ 1 = some (.shr 0)) (h13 : getS ρ 13 = some (nI n)) (h14 : getS ρ 14 = some (nI m)) (hn : n ≤ 4) (hm : m ≤ 4) (hw : Wst D) : ∃ (R : List (List Nat)) (D' : DS), ex P40 b3 ρ D = some (.nx, ρ.set 5 (some (false, EW R)), D') ∧ Wst D' ∧ OkR R n m := by
  obtain ⟨R, D', e, w, hln, hR⟩ := lcR (Φ := P40) (ρ := ρ) (own := [17]) (ce := (.call 6 (.cons (.var 1) (.cons (.bi .listRange (.cons (.var 13) .nil)) .nil)))) (pt := .nm 17) (ci := .rng1 (.var 14)) (ct := .nil) nI EX (fun (_ : Nat) (y : List Nat) => y.Perm (List.range n)) (List.range m) D hw (evi_rN (ev_vr h14) (by omega)) fun x hx D hD => by
    obtain ⟨ys, D2, e2, hp, w2⟩ := order_ok (k := 37) (own := List.range n) (x := .lst ((List.range n).map nI)) hD (.inr rfl) List.nodup_range (by rw [List.length_range]; omega)
    refine ⟨ys, D2, ?_, w2, hp⟩
    unfold st1
    rw [show bindP (.nm 17) (nI x) (wipE ρ [17]) = some (B ρ 17 (nI x)) from rfl, Option.bind_some, evt_nil, Option.bind_some, if_pos rfl, ev_c2 (ev_vr (B_j h1)) (ev_b1 (f := .listRange) (ev_vr (B_j h13)) rfl (lrange_N (by omega))) e2]; rfl
  refine ⟨R, D', ex_as (ev_b1 (f := .tuple) e rfl rfl), w, by rw [hln, List.length_range], fun y hy => ?_⟩
  obtain ⟨i, hi⟩ := List.mem_iff_getElem?.mp hy
  have hil := (List.getElem?_eq_some_iff.mp hi).1
  rw [hln, List.length_range] at hil
  exact hR i i y (by rw [List.getElem?_range hil]) hi
theorem wi_perm (oA : OkA A n m) (oW : OkWi A W) (a : Nat) : (wi W a).Perm (A.getD a []) := by
  show (W.getD a []).Perm _
  rw [List.getD_eq_getElem?_getD, List.getD_eq_getElem?_getD]
  by_cases h : a < A.length
  · rw [List.getElem?_eq_getElem h, List.getElem?_eq_getElem (by rw [oW.len]; exact h)]
    exact oW.pm a _ _ (List.getElem?_eq_getElem h) (List.getElem?_eq_getElem (by rw [oW.len]; exact h))
  · have := oW.len
    rw [List.getElem?_eq_none (show W.length ≤ a by omega), List.getElem?_eq_none (show A.length ≤ a by omega)]
theorem A_sub (oA : OkA A n m) (a : Nat) : (A.getD a []).Sublist (List.range m) := by
  rw [List.getD_eq_getElem?_getD]
  cases e : A[a]? with
  | none => exact List.nil_sublist _
  | some x => exact oA.sub x (List.mem_of_getElem? e)
theorem wi_len (oA : OkA A n m) (oW : OkWi A W) (hm : m ≤ 4) (a : Nat) : (wi W a).length ≤ 4 := by
  rw [(wi_perm oA oW a).length_eq]
  have := (A_sub oA a).length_le
  rw [List.length_range] at this
  omega
theorem R_perm (oR : OkR R n m) {t : Nat} (ht : t < m) : (R.getD t []).Perm (List.range n) := by
  rw [List.getD_eq_getElem?_getD, List.getElem?_eq_getElem (by rw [oR.len]; exact ht)]
  exact oR.pm _ (List.getElem_mem _)
theorem idx_inj {xs : List Nat} {a b : Nat} (ha : a ∈ xs) (hb : b ∈ xs) (h : xs.idxOf a = xs.idxOf b) : a = b := by
  have la := List.idxOf_lt_length_of_mem ha
  have lb := List.idxOf_lt_length_of_mem hb
  have e1 : xs[xs.idxOf a]? = some a := by rw [List.getElem?_eq_getElem la, List.getElem_idxOf la]
  have e2 : xs[xs.idxOf b]? = some b := by rw [List.getElem?_eq_getElem lb, List.getElem_idxOf lb]
  rw [h, e2] at e1
  exact (Option.some.inj e1).symm
theorem su_of (oA : OkA A n m) (oW : OkWi A W) (oR : OkR R n m) : Su W R n m where
  nW := by rw [oW.len, oA.len]
  nR := oR.len
  nd := fun a => (wi_perm oA oW a).nodup_iff.mpr (List.nodup_range.sublist (A_sub oA a))
  lt := fun a t ht => List.mem_range.mp ((A_sub oA a).subset ((wi_perm oA oW a).mem_iff.mp ht))
  rank := fun t ht a ha b hb h => idx_inj ((R_perm oR ht).mem_iff.mpr (List.mem_range.mpr ha)) ((R_perm oR ht).mem_iff.mpr (List.mem_range.mpr hb)) h
  rmem := fun t ht a ha => (R_perm oR ht).mem_iff.mpr (List.mem_range.mpr ha)
  rnd := fun t a ha => by
    by_cases ht : t < m
    · exact List.mem_range.mp ((R_perm oR ht).mem_iff.mp ha)
    · rw [List.getD_eq_getElem?_getD, List.getElem?_eq_none (by rw [oR.len]; omega)] at ha; cases ha
theorem row_valid (oA : OkA A n m) (oW : OkWi A W) : M ∈ rowsL A ↔ Valid W n M := by
  rw [rowsL_mem]
  constructor
  · intro V
    exact ⟨by rw [V.len, oA.len], fun a t h => (wi_perm oA oW a).mem_iff.mpr (V.mem a t h), V.inj⟩
  · intro V
    exact ⟨by rw [V.len, oA.len], fun a t h => (wi_perm oA oW a).mem_iff.mp (V.mem a t h), V.inj⟩
/-! ### all dealings -/
theorem x5 (hl : ρ.length = 19) (h3 : getS ρ 3 = some (EA A)) (h6 : getS ρ 6 = some (.lst ([[]].map EM))) (oA : OkA A n m) (hn : n ≤ 4) (hm : m ≤ 4) : ∃ ρ', ex P40 b5 ρ D = some (.nx, ρ', D) ∧ Kp [6, 7, 12, 15] ρ ρ' ∧ getS ρ' 6 = some (.lst ((rowsL A).map EM)) := by
  obtain ⟨ρ2, e2, k2, g2⟩ := ex_forP (Φ := P40) (D := D) (ρ := ρ) (p := .nm 7) (it := .over (.var 3)) (b := (.cons (.asg false 15 (.lst .nil)) (.cons (.for_ (.nm 12) (.over (.var 6)) (.cons (.asg false 15 (.bin .add (.var 15) (.lc1 [18] (.bin .add (.var 12) (.tup (.cons (.var 18) .nil))) (.nm 18) (.over (.bin .add (.var 7) (.tup (.cons .non .nil)))) (.cons (.or_ (.cons (.cmp .is_ (.var 18) .non) (.cons (.cmp .nin (.var 18) (.var 12)) .nil))) .nil)))) .nil)) (.cons (.asg false 6 (.var 15)) .nil))))
    EL A (fun (s : List (List (Option Nat))) ρ' => Kp [6, 7, 12, 15] ρ ρ' ∧ getS ρ' 6 = some (.lst (s.map EM))) stepR [[]] (evi_ovT (ev_vr h3)) ⟨Kp.refl _ _, h6⟩ (fun pre own post ρ1 hx ⟨kp, h6⟩ => by
      have pl := pre_len hx
      have hAl := oA.len
      have rl : (pre.foldl stepR [[]]).length ≤ 625 := by
        have := rowsL_len pre fun o ho => by
          have hs := (oA.sub o (by rw [hx]; exact List.mem_append_left _ ho)).length_le
          rw [List.length_range] at hs; omega
        exact Nat.le_trans this (show 5 ^ pre.length ≤ 5 ^ 4 from Nat.pow_le_pow_right (by decide) (by omega))
      have rlen : ∀ row ∈ pre.foldl stepR [[]], row.length ≤ 4 := fun row hr => by
        have := ((rowsL_mem pre row).mp hr).len
        omega
      have ol := (oA.sub own (by rw [hx]; simp)).length_le
      rw [List.length_range] at ol
      generalize pre.foldl stepR [[]] = rows at *
      have kq : Kp [6, 7, 12, 15] ρ ((ρ1.set 7 (some (false, EL own))).set 15 (some (false, .lst []))) := (kp.set).set
      have q6 : getS ((ρ1.set 7 (some (false, EL own))).set 15 (some (false, .lst []))) 6 = some (.lst (rows.map EM)) := by rw [getS_set, if_neg (by decide), getS_set, if_neg (by decide)]; exact h6
      have ln : ((ρ1.set 7 (some (false, EL own))).set 15 (some (false, .lst []))).length = 19 := kq.1.trans hl
      have q7 : getS ((ρ1.set 7 (some (false, EL own))).set 15 (some (false, .lst []))) 7 = some (EL own) := by rw [getS_set, if_neg (by decide), getS_set, if_pos rfl, if_pos (by rw [List.length_set, List.length_set] at ln; omega)]
      have q15 : getS ((ρ1.set 7 (some (false, EL own))).set 15 (some (false, .lst []))) 15 = some (.lst []) := by rw [getS_set, if_pos rfl, if_pos (by rw [List.length_set] at ln; rw [List.length_set]; rw [List.length_set] at ln; omega)]
      obtain ⟨ρ3, e3, k3, h7, h6b, h15⟩ := ex_forP (Φ := P40) (D := D) (ρ := (ρ1.set 7 (some (false, EL own))).set 15 (some (false, .lst []))) (p := .nm 12) (it := .over (.var 6)) (b := (.cons (.asg false 15 (.bin .add (.var 15) (.lc1 [18] (.bin .add (.var 12) (.tup (.cons (.var 18) .nil))) (.nm 18) (.over (.bin .add (.var 7) (.tup (.cons .non .nil)))) (.cons (.or_ (.cons (.cmp .is_ (.var 18) .non) (.cons (.cmp .nin (.var 18) (.var 12)) .nil))) .nil)))) .nil))
        EM rows (fun (q : List (List (Option Nat))) ρ' => Kp [6, 7, 12, 15] ρ ρ' ∧ getS ρ' 7 = some (EL own) ∧ getS ρ' 6 = some (.lst (rows.map EM)) ∧ getS ρ' 15 = some (.lst (q.map EM))) (fun q row => q ++ nxtR own row) [] (evi_ov (ev_vr q6)) ⟨kq, q7, q6, q15⟩ (fun pre2 row post2 ρ4 hx2 ⟨k4, a7, a6, a15⟩ => by
          have pl2 := pre_len hx2
          have rw4 := rlen row (by rw [hx2]; simp)
          have ql : (pre2.foldl (fun q row => q ++ nxtR own row) []).length ≤ 3125 := by
            rw [fold_flat, List.nil_append]
            have := flat_len (nxtR own) 5 pre2 fun r _ => nxtR_len (by omega) r
            omega
          generalize pre2.foldl (fun q row => q ++ nxtR own row) [] = q at *
          have k5 : Kp [6, 7, 12, 15] ρ (ρ4.set 12 (some (false, EM row))) := k4.set
          have l5 := k5.1.trans hl
          have c12 : getS (ρ4.set 12 (some (false, EM row))) 12 = some (EM row) := by rw [getS_set, if_pos rfl, if_pos (by rw [List.length_set] at l5; omega)]
          have c7 : getS (ρ4.set 12 (some (false, EM row))) 7 = some (EL own) := by rw [getS_set, if_neg (by decide)]; exact a7
          have c6 : getS (ρ4.set 12 (some (false, EM row))) 6 = some (.lst (rows.map EM)) := by rw [getS_set, if_neg (by decide)]; exact a6
          have c15 : getS (ρ4.set 12 (some (false, EM row))) 15 = some (.lst (q.map EM)) := by rw [getS_set, if_neg (by decide)]; exact a15
          generalize hτ : ρ4.set 12 (some (false, EM row)) = τ at *
          have ov : evi P40 (.over (.bin .add (.var 7) (.tup (.cons .non .nil)))) τ D = some ((own.map some ++ [none]).map oN, D) := by
            refine evi_ovT (ev_bn (ev_vr c7) (y := .tup [.non]) rfl ?_)
            rw [tup_add (by rw [List.length_map]; show _ + 1 ≤ _; omega), List.map_append, List.map_map]; rfl
          have lc := lcP (Φ := P40) (D := D) (ρ := τ) (own := [18]) (ce := (.bin .add (.var 12) (.tup (.cons (.var 18) .nil)))) (pt := .nm 18) (ci := .over (.bin .add (.var 7) (.tup (.cons .non .nil)))) (ct := (.cons (.or_ (.cons (.cmp .is_ (.var 18) .non) (.cons (.cmp .nin (.var 18) (.var 12)) .nil))) .nil)) oN (own.map some ++ [none]) (fun x => x.isNone || !decide (x ∈ row)) (fun x => EM (row ++ [x])) ov fun x _ => by
            have v18 : getS (B τ 18 (oN x)) 18 = some (oN x) := B_i (by omega)
            have v12 : getS (B τ 18 (oN x)) 12 = some (EM row) := B_j c12
            have t1 : ev P40 (.cmp .is_ (.var 18) .non) (B τ 18 (oN x)) D = some (.bl x.isNone, D) := ev_cm (ev_vr v18) rfl rfl is_non
            have t2 : ev P40 (.cmp .nin (.var 18) (.var 12)) (B τ 18 (oN x)) D = some (.bl (!decide (x ∈ row)), D) := ev_cm (ev_vr v18) (ev_vr v12) rfl nin_oN
            refine st1_t (ρ1 := B τ 18 (oN x)) rfl ?_ fun _ => ev_bn (ev_vr v12) (y := .tup [oN x]) (by rw [ev_tup, evs_cons, ev_vr v18]; rfl) (by
              rw [tup_add (by rw [List.length_map]; show _ + 1 ≤ _; omega)]
              show some (PV.tup (row.map oN ++ [oN x])) = some (PV.tup ((row ++ [x]).map oN))
              rw [List.map_append]; rfl)
            rw [ev_or, evor_cons, t1, Option.bind_some, blOf_bl, Option.bind_some]
            cases x.isNone with
            | true => rfl
            | false => rw [if_neg (by simp), evor_one, t2]; rfl
          have nl := nxtR_len (own := own) (by omega) row
          have em : ((own.map some ++ [none]).filter fun (x : Option Nat) => x.isNone || !decide (x ∈ row)).map (fun x => EM (row ++ [x])) = (nxtR own row).map EM := by unfold nxtR; rw [List.map_map]; rfl
          rw [em] at lc
          have k6 : Kp [6, 7, 12, 15] ρ (τ.set 15 (some (false, .lst ((q ++ nxtR own row).map EM)))) := k5.set
          refine ⟨.nx, τ.set 15 (some (false, .lst ((q ++ nxtR own row).map EM))), ?_, .inl rfl, k6, by rw [getS_set, if_neg (by decide)]; exact c7, by rw [getS_set, if_neg (by decide)]; exact c6, by rw [getS_set, if_pos rfl, if_pos (by omega)]⟩
          rw [show bindP (.nm 12) (EM row) ρ4 = some (ρ4.set 12 (some (false, EM row))) from rfl, Option.bind_some, hτ]
          rw [xs_nx (ex_as (ev_bn (ev_vr c15) lc (by rw [lst_add (by rw [List.length_map, List.length_map]; omega), ← List.map_append])))]
          rfl)
      rw [fold_flat, List.nil_append] at h15
      have k7 : Kp [6, 7, 12, 15] ρ (ρ3.set 6 (some (false, .lst ((stepR rows own).map EM)))) := k3.set
      have l3 := k3.1.trans hl
      refine ⟨.nx, ρ3.set 6 (some (false, .lst ((stepR rows own).map EM))), ?_, .inl rfl, k7, by rw [getS_set, if_pos rfl, if_pos (by omega)]⟩
      rw [show bindP (.nm 7) (EL own) ρ1 = some (ρ1.set 7 (some (false, EL own))) from rfl, Option.bind_some]
      rw [xs_nx (ρ1 := (ρ1.set 7 (some (false, EL own))).set 15 (some (false, .lst []))) (D1 := D) rfl, xs_nx e3, xs_nx (ex_as (ev_vr h15))]
      rfl)
  exact ⟨ρ2, e2, k2, g2⟩
def calm (A W R : List (List Nat)) (n : Nat) : List (List (Option Nat)) := (rowsL A).filter fun M => decide (bl n W R M = [])
theorem x6 (hl : ρ.length = 19) (h4' : getS ρ 4 = some (EW W)) (h5 : getS ρ 5 = some (EW R)) (h6 : getS ρ 6 = some (.lst ((rowsL A).map EM))) (S : Su W R n m) (hn : n ≤ 4) (h4 : ∀ a, (wi W a).length ≤ 4) (hV : ∀ M ∈ rowsL A, Valid W n M) : ex P40 b6 ρ D = some (.nx, ρ.set 8 (some (false, .lst ((calm A W R n).map EM))), D) := by
  refine ex_as (lcP EM (rowsL A) (fun M => decide (bl n W R M = [])) EM (evi_ov (ev_vr h6)) fun M hM => ?_)
  have v12 : getS (B ρ 12 (EM M)) 12 = some (EM M) := B_i (by omega)
  refine st1_t (ρ1 := B ρ 12 (EM M)) rfl (ev_cm (ev_c3 (ev_vr (B_j h4')) (ev_vr (B_j h5)) (ev_vr v12) (law_blocks_ok (k := 39) S (hV M hM) hn h4)) rfl rfl ?_) fun _ => ev_vr v12
  show pEq _ _ = _
  rw [pEq_lst2N]
  congr 1
  exact decide_eq_decide.mpr srt_nil
theorem fold_snoc {α β : Type} (g : α → β) : ∀ (xs : List α) (b : List β), xs.foldl (fun a x => a ++ [g x]) b = b ++ xs.map g
  | [], b => by simp
  | x :: xs, b => by rw [List.foldl_cons, fold_snoc g xs]; simp
theorem map_get (V : Valid W n F) : (List.range n).map (get F) = F := by
  have vl := V.len
  refine List.ext_getElem? fun i => ?_
  rw [List.getElem?_map]
  by_cases h : i < n
  · rw [List.getElem?_range h, List.getElem?_eq_getElem (by omega)]
    show some (F.getD i none) = _
    rw [List.getD_eq_getElem?_getD, List.getElem?_eq_getElem (by omega)]; rfl
  · rw [List.getElem?_eq_none (by simp; omega), List.getElem?_eq_none (by omega)]; rfl
theorem x8 (hl : ρ.length = 19) (h4' : getS ρ 4 = some (EW W)) (h8 : getS ρ 8 = some (.lst ((calm A W R n).map EM))) (h9 : ρ[9]? = some (some (true, .lst []))) (h13 : getS ρ 13 = some (nI n)) (S : Su W R n m) (hn : n ≤ 4) (h4 : ∀ a, (wi W a).length ≤ 4) (hV : ∀ M ∈ rowsL A, Valid W n M) (VF : Valid W n F) (hF : F ∈ calm A W R n) (hb : ∀ M ∈ calm A W R n, ∀ a, a < n → pos W F a ≤ pos W M a) :
    ∃ ρ', ex P40 b8 ρ D = some (.nx, ρ', D) ∧ Kp [9, 10, 16] ρ ρ' ∧ ρ'[9]? = some (some (true, .lst (F.map oN))) := by
  obtain ⟨ρ2, e2, k2, g2⟩ := ex_forP (Φ := P40) (D := D) (ρ := ρ) (p := .nm 10) (it := .rng1 (.var 13)) (b := (.cons (.asg false 16 (.lc1 [12] (.ite (.cmp .isn (.idx (.var 12) (.var 10)) .non) (.met .indexT (.idx (.var 4) (.var 10)) (.cons (.idx (.var 12) (.var 10)) .nil)) (.bi .len (.cons (.unx (.idx (.var 4) (.var 10))) .nil))) (.nm 12) (.over (.var 8)) .nil)) (.cons (.app 9 (.idx (.bin .add (.unx (.idx (.var 4) (.var 10))) (.tup (.cons .non .nil))) (.bi .min (.cons (.var 16) .nil)))) .nil)))
    nI (List.range n) (fun (q : List (Option Nat)) ρ' => Kp [9, 10, 16] ρ ρ' ∧ ρ'[9]? = some (some (true, .lst (q.map oN)))) (fun q a => q ++ [get F a]) [] (evi_rN (ev_vr h13) (by omega)) ⟨Kp.refl _ _, h9⟩ (fun pre a post ρ1 hx ⟨kp, h9⟩ => by
      have pl := pre_len hx
      rw [List.length_range] at pl
      have an : a < n := List.mem_range.mp (by rw [hx]; simp)
      have iW : pIdx (EW W) (nI a) = some (EX (wi W a)) := ix_NT EX [] (by rw [S.nW]; exact an)
      rw [fold_snoc, List.nil_append] at h9 ⊢
      have k1 : Kp [9, 10, 16] ρ (ρ1.set 10 (vN a)) := kp.set
      have l1 := k1.1.trans hl
      have c10 : getS (ρ1.set 10 (vN a)) 10 = some (nI a) := by rw [getS_set, if_pos rfl, if_pos (by rw [List.length_set] at l1; omega)]
      have c4 := k1.get h4'
      have c8 := k1.get h8
      have c9 : (ρ1.set 10 (vN a))[9]? = some (some (true, .lst ((pre.map (get F)).map oN))) := by rw [List.getElem?_set_ne (by decide)]; exact h9
      generalize hτ : ρ1.set 10 (vN a) = τ at *
      have lc := lcM (Φ := P40) (D := D) (ρ := τ) (own := [12]) (ce := (.ite (.cmp .isn (.idx (.var 12) (.var 10)) .non) (.met .indexT (.idx (.var 4) (.var 10)) (.cons (.idx (.var 12) (.var 10)) .nil)) (.bi .len (.cons (.unx (.idx (.var 4) (.var 10))) .nil)))) (pt := .nm 12) (ci := .over (.var 8)) (ct := .nil) EM (calm A W R n) (fun M => nI (pos W M a)) (evi_ov (ev_vr c8)) fun M hM => by
        have VM := hV M (List.mem_filter.mp hM).1
        have v12 : getS (B τ 12 (EM M)) 12 = some (EM M) := B_i (by omega)
        have v10 : getS (B τ 12 (EM M)) 10 = some (nI a) := B_j c10
        have iM : pIdx (EM M) (nI a) = some (oN (get M a)) := ix_NT oN none (by rw [VM.len]; exact an)
        exact st1_m (ρ1 := B τ 12 (EM M)) rfl (have_ok VM an (ev_ix (ev_vr v12) (ev_vr v10) rfl iM) (ev_ix (ev_vr (B_j c4)) (ev_vr v10) rfl iW) (ev_ix (ev_vr (B_j c4)) (ev_vr v10) rfl iW))
      rw [show (calm A W R n).map (fun M => nI (pos W M a)) = ((calm A W R n).map fun M => pos W M a).map nI by rw [List.map_map]; rfl] at lc
      have mn := minN (L := (calm A W R n).map fun M => pos W M a) (x := pos W F a) (List.mem_map.mpr ⟨F, hF, rfl⟩) fun y hy => by
        obtain ⟨M, hM, rfl⟩ := List.mem_map.mp hy
        exact hb M hM a an
      have k2 : Kp [9, 10, 16] ρ (τ.set 16 (some (false, .lst (((calm A W R n).map fun M => pos W M a).map nI)))) := k1.set
      have l2 := k2.1.trans hl
      have d16 : getS (τ.set 16 (some (false, .lst (((calm A W R n).map fun M => pos W M a).map nI)))) 16 = some (.lst (((calm A W R n).map fun M => pos W M a).map nI)) := by rw [getS_set, if_pos rfl, if_pos (by omega)]
      have d10 : getS (τ.set 16 (some (false, .lst (((calm A W R n).map fun M => pos W M a).map nI)))) 10 = some (nI a) := by rw [getS_set, if_neg (by decide)]; exact c10
      have d4 := k2.get h4'
      have d9 : (τ.set 16 (some (false, .lst (((calm A W R n).map fun M => pos W M a).map nI))))[9]? = some (some (true, .lst ((pre.map (get F)).map oN))) := by rw [List.getElem?_set_ne (by decide)]; exact c9
      have hτ2 : ex P40 (.asg false 16 _) τ D = some (.nx, τ.set 16 (some (false, .lst (((calm A W R n).map fun M => pos W M a).map nI))), D) := ex_as lc
      generalize τ.set 16 (some (false, PV.lst (((calm A W R n).map fun M => pos W M a).map nI))) = τ2 at *
      have h4a := h4 a
      have ix := ix_lst (fun x : PV => x) (L := (wi W a).map nI ++ [PV.non]) (i := (pos W F a : Int)) (by omega) (by rw [Int.toNat_natCast]; exact at_pos VF an)
      rw [List.map_id'] at ix
      have vv : ev P40 (.idx (.bin .add (.unx (.idx (.var 4) (.var 10))) (.tup (.cons .non .nil))) (.bi .min (.cons (.var 16) .nil))) τ2 D = some (oN (get F a), D) := by
        refine ev_ix (ev_bn (ev_ux (ev_ix (ev_vr d4) (ev_vr d10) rfl iW)) (y := .tup [.non]) rfl (tup_add (by rw [List.length_map]; show _ + 1 ≤ _; omega))) (ev_b1 (f := .min) (ev_vr d16) rfl mn) rfl ix
      refine ⟨.nx, τ2.set 9 (some (true, .lst (((pre.map (get F)) ++ [get F a]).map oN))), ?_, .inl rfl, k2.setO, by rw [List.getElem?_set_self (by omega)]⟩
      rw [show bindP (.nm 10) (nI a) ρ1 = some (ρ1.set 10 (vN a)) from rfl, Option.bind_some, hτ, xs_nx hτ2]
      rw [xs_nx (ρ1 := τ2.set 9 (some (true, .lst (((pre.map (get F)) ++ [get F a]).map oN)))) (D1 := D) (by
        rw [ex_app, vv, Option.bind_some, chgO_of d9, app_ok (by simp; omega)]
        simp)]
      rfl)
  refine ⟨ρ2, e2, k2, ?_⟩
  rw [fold_snoc, List.nil_append, map_get VF] at g2
  exact g2
theorem shp_EM {M : List (Option Nat)} : shp 19 (EM M) = true := by
  show (M.map oN).all (shp 18) = true
  rw [List.all_map, List.all_eq_true]; intro x _; cases x <;> rfl
theorem nin_rows {L : List (List (Option Nat))} (h : F ∈ L) : pCmp .nin (EM F) (.lst (L.map EM)) = some false := by
  have h1 : shp DEP (EM F) = true := by
    show (F.map oN).all (shp 19) = true
    rw [List.all_map, List.all_eq_true]; intro x _; cases x <;> rfl
  have h2 : (L.map EM).all (shp DEP) = true := by
    rw [List.all_map, List.all_eq_true]; intro M _
    show (M.map oN).all (shp 19) = true
    rw [List.all_map, List.all_eq_true]; intro x _; cases x <;> rfl
  show ((if (shp DEP (EM F) && (L.map EM).all (shp DEP)) = true then some ((L.map EM).any fun y => peq y (EM F)) else none)).map (!·) = _
  rw [h1, h2, if_pos (show (true && true) = true from rfl), show ((L.map EM).any fun y => peq y (EM F)) = true from List.any_eq_true.mpr ⟨EM F, List.mem_map.mpr ⟨F, h, rfl⟩, peq_rfl _ _ h1⟩]; rfl
theorem ag_EM (h : F.length ≤ 1000) {j : Nat} : ag (j + 1) (EM F) = true := by
  show (decide ((F.map oN).length ≤ 100000) && (F.map oN).all (ag j)) = true
  rw [decide_eq_true (by rw [List.length_map]; omega)]
  rw [Bool.true_and, List.all_map, List.all_eq_true]; intro x _; cases x <;> cases j <;> rfl
theorem x10 (h8 : getS ρ 8 = some (.lst ((calm A W R n).map EM))) (h9 : ρ[9]? = some (some (true, .lst (F.map oN)))) (h11 : getS ρ 11 = some (EM F)) (hF : F ∈ calm A W R n) (hl : F.length ≤ 1000) : ex P40 b10 ρ D = some (.nx, ρ, D) := by
  have tb : ev P40 (.bi .tuple (.cons (.bor 9) .nil)) ρ D = some (EM F, D) := ev_b1 (ev_br (bor_own h9)) rfl rfl
  refine ex_no (ev_o2 (ev_cm tb (ev_vr h8) rfl (nin_rows hF)) (chkE (alike_k (j := 1) (ag_EM hl) (by decide)) (ev_vr h11) tb))
theorem ag_bl (h4 : ∀ a, (wi W a).length ≤ 4) (hn : n ≤ 4) : ag 2 (.tup ((srtP (cI (bl n W R M))).map pv2)) = true := by
  have p := (srtP_perm (cI (bl n W R M))).length_eq
  have f := flat_len (blA W R M) 4 (List.range n) fun a _ => blA_len h4 a
  rw [List.length_range] at f
  have c : (cI (bl n W R M)).length = (bl n W R M).length := by unfold cI; rw [List.length_map]
  have e : (bl n W R M).length = ((List.range n).flatMap (blA W R M)).length := rfl
  show (decide (((srtP (cI (bl n W R M))).map pv2).length ≤ 100000) && ((srtP (cI (bl n W R M))).map pv2).all (ag 1)) = true
  rw [decide_eq_true (by rw [List.length_map]; omega)]
  rw [Bool.true_and, List.all_map, List.all_eq_true]; intro x _; rfl
theorem x11 (hl : ρ.length = 19) (h1 : getS ρ 1 = some (.shr 0)) (h4' : getS ρ 4 = some (EW W)) (h5 : getS ρ 5 = some (EW R)) (h6 : getS ρ 6 = some (.lst ((rowsL A).map EM))) (h9 : ρ[9]? = some (some (true, .lst (F.map oN)))) (S : Su W R n m) (hn : n ≤ 4) (h4 : ∀ a, (wi W a).length ≤ 4) (hV : ∀ M ∈ rowsL A, Valid W n M) (VF : Valid W n F) (hF : F ∈ rowsL A) (hw : Wst D) :
    ∃ ρ' D', ex P40 b11 ρ D = some (.nx, ρ', D') ∧ Kp [12] ρ ρ' ∧ Wst D' := by
  have ne : (rowsL A).map EM ≠ [] := fun z => by rw [List.map_eq_nil_iff] at z; rw [z] at hF; cases hF
  obtain ⟨y1, D1, e1, hy1, w1⟩ := pick_k (k := 38) hw ne
  obtain ⟨y2, D2, e2, hy2, w2⟩ := pick_k (k := 38) w1 ne
  obtain ⟨M1, hM1, rfl⟩ := List.mem_map.mp hy1
  obtain ⟨M2, hM2, rfl⟩ := List.mem_map.mp hy2
  have hi : evi P40 (.over (.tup (.cons (.call 4 (.cons (.var 1) (.cons (.var 6) .nil))) (.cons (.call 4 (.cons (.var 1) (.cons (.var 6) .nil))) (.cons (.bi .tuple (.cons (.bor 9) .nil)) .nil))))) ρ D = some ([M1, M2, F].map EM, D2) := by
    have tb : ev P40 (.bi .tuple (.cons (.bor 9) .nil)) ρ D2 = some (EM F, D2) := ev_b1 (ev_br (bor_own h9)) rfl rfl
    rw [evi_over, ev_tup, evs_cons, ev_c2 (ev_vr h1) (ev_vr h6) e1, Option.bind_some, evs_cons, ev_c2 (ev_vr h1) (ev_vr h6) e2, Option.bind_some, evs_cons, tb]
    rfl
  have hall : ∀ M ∈ [M1, M2, F], Valid W n M := fun M hM => by
    simp only [List.mem_cons, List.not_mem_nil, or_false] at hM
    rcases hM with rfl | rfl | rfl
    · exact hV _ hM1
    · exact hV _ hM2
    · exact VF
  obtain ⟨ρ2, e3, k3⟩ := forP (D := D2) (f := fun x ρ D => (bindP (.nm 12) x ρ).bind fun ρ1 => exs P40 (.cons (.ife (.not_ (.call 5 (.cons (.call 1 (.cons (.var 4) (.cons (.var 5) (.cons (.var 12) .nil)))) (.cons (.bi .tuple (.cons (.call 7 (.cons (.var 4) (.cons (.var 5) (.cons (.var 12) .nil)))) .nil)) .nil)))) (.cons (.ret (.bl false)) .nil) .nil) .nil) ρ1 D) EM (fun (_ : Unit) ρ' => Kp [12] ρ ρ') (fun s _ => s) () [M1, M2, F] [M1, M2, F] [] ρ rfl (Kp.refl _ _) (fun pre M post ρ1 hx kp => by
    have VM := hall M (by rw [hx]; simp)
    have k1 : Kp [12] ρ (ρ1.set 12 (some (false, EM M))) := kp.set
    have l1 := k1.1.trans hl
    have c12 : getS (ρ1.set 12 (some (false, EM M))) 12 = some (EM M) := by rw [getS_set, if_pos rfl, if_pos (by rw [List.length_set] at l1; omega)]
    refine ⟨.nx, ρ1.set 12 (some (false, EM M)), ?_, .inl rfl, k1⟩
    show (bindP (.nm 12) (EM M) ρ1).bind _ = _
    rw [show bindP (.nm 12) (EM M) ρ1 = some (ρ1.set 12 (some (false, EM M))) from rfl, Option.bind_some]
    rw [xs_nx (chkS (alike_k (j := 2) (ag_bl (R := R) (M := M) h4 hn) (by decide)) (ev_c3 (ev_vr (k1.get h4')) (ev_vr (k1.get h5)) (ev_vr c12) (blocking_ok (k := 39) S VM hn h4)) (ev_b1 (f := .tuple) (ev_c3 (ev_vr (k1.get h4')) (ev_vr (k1.get h5)) (ev_vr c12) (law_blocks_ok (k := 39) S VM hn h4)) rfl rfl))]
    rfl)
  exact ⟨ρ2, D2, by
    unfold b11
    rw [ex_for, hi, Option.bind_some]; exact e3, k3, w2⟩
/-! ### the turn -/
theorem turn_ok (hl : ρ.length = 19) (hw : Wst D) (h1 : getS ρ 1 = some (.shr 0)) : ∃ ρ' D', exs P40 bod ρ D = some (.nx, ρ', D') ∧ (ρ'.length = 19 ∧ getS ρ' 1 = some (.shr 0) ∧ Wst D') := by
  unfold bod
  have K0 : Kn [(1, .shr 0)] ρ := ⟨hl, fun a u e => by
    rw [lookup_cons] at e
    by_cases c : a = 1
    · subst c
      rw [if_pos rfl] at e
      rw [← e]; exact h1
    · rw [if_neg c] at e; cases e⟩
  obtain ⟨n, m, D1, e0, w1, hn, m1, hm⟩ := x0 hl h1 hw
  refine goK2 K0 e0 fun τ1 K1 => ?_
  obtain ⟨A, D2, e1, w2, oA⟩ := x1 (n := n) (m := m) K1.1 K1.get K1.get K1.get hn hm w1
  refine goK K1 e1 fun τ2 K2 => ?_
  obtain ⟨W, D3, e2, w3, oW⟩ := x2 (A := A) K2.1 K2.get K2.get oA hm w2
  refine goK K2 e2 fun τ3 K3 => ?_
  obtain ⟨R, D4, e3, w4, oR⟩ := x3 (n := n) (m := m) K3.1 K3.get K3.get K3.get hn hm w3
  refine goK K3 e3 fun τ4 K4 => ?_
  have S := su_of oA oW oR
  have h4 := wi_len oA oW hm
  have hV : ∀ M ∈ rowsL A, Valid W n M := fun M hM => (row_valid oA oW).mp hM
  refine goK (v := .lst ([[]].map EM)) (i := 6) K4 rfl fun τ5 K5 => ?_
  obtain ⟨τ6, e5, k5, g6⟩ := x5 (A := A) (D := D4) K5.1 K5.get K5.get oA hn hm
  refine go e5 ?_
  have K6 := (K5.kp k5).add g6
  refine goK K6 (x6 K6.1 K6.get K6.get K6.get S hn h4 hV) fun τ7 K7 => ?_
  obtain ⟨F, es, VF, SF, bF⟩ := stable_ok (k := 39) (D := D4) S hn hm h4 (A := A) oA.len
  have hFr : F ∈ rowsL A := (row_valid oA oW).mpr VF
  have hFc : F ∈ calm A W R n := List.mem_filter.mpr ⟨hFr, decide_eq_true ((bl_nil VF).mpr SF)⟩
  have hb : ∀ M ∈ calm A W R n, ∀ a, a < n → pos W F a ≤ pos W M a := fun M hM => by
    obtain ⟨h1, h2⟩ := List.mem_filter.mp hM
    have VM := hV M h1
    exact bF M VM ((bl_nil VM).mp (of_decide_eq_true h2))
  -- best
  have e7 : ex P40 b7 τ7 D4 = some (.nx, τ7.set 9 (some (true, .lst [])), D4) := rfl
  refine go e7 ?_
  have k7 : Kp [9] τ7 (τ7.set 9 (some (true, .lst []))) := (Kp.refl _ τ7).setO
  have K8 := K7.kp k7
  have a9 : (τ7.set 9 (some (true, .lst [])))[9]? = some (some (true, .lst [])) := by rw [List.getElem?_set_self (by rw [K7.1]; decide)]
  generalize τ7.set 9 (some (true, PV.lst [])) = τ8 at *
  obtain ⟨τ9, e8, k8, b9'⟩ := x8 (A := A) (R := R) (D := D4) K8.1 K8.get K8.get a9 K8.get S hn h4 hV VF hFc hb
  refine go e8 ?_
  have K9 := K8.kp k8
  refine go (ex_as (o := false) (i := 11) (ev_c3 (x := EA A) (y := EW W) (z := EW R) (ev_vr K9.get) (ev_vr K9.get) (ev_vr K9.get) es)) ?_
  have K10 := K9.set (i := 11) (v := EM F) (by decide)
  have c9 : (τ9.set 11 (some (false, EM F)))[9]? = some (some (true, .lst (F.map oN))) := by rw [List.getElem?_set_ne (by decide)]; exact b9'
  generalize τ9.set 11 (some (false, EM F)) = τ10 at *
  refine go (x10 K10.get c9 K10.get hFc (by rw [VF.len]; omega)) ?_
  obtain ⟨τ11, D5, e11, k11, w5⟩ := x11 (A := A) (W := W) (R := R) (D := D4) K10.1 K10.get K10.get K10.get K10.get c9 S hn h4 hV VF hFr w4
  refine go e11 ?_
  have K11 := K10.kp k11
  exact ⟨τ11, D5, rfl, K11.1, K11.get, w5⟩
end
end MP.K04

namespace MP.K04
open PySem MP
theorem law_true : ∀ ns : List Int, ns.length ≤ 63 → ∃ D, sem DD 41 8 [.scr ns] [] = some (.bl true, D) := by
  intro ns hn
  obtain ⟨ds, e1, hd⟩ := draws_ok (q0 := 500) (Φ := sem DD 39) (D0 := []) hn
  have e1 : sem DD 40 2 [.scr ns, .int 500] [] = some (.lst (ds.map .int), []) := by
    rw [r_f__law_draws]
    exact e1
  have w0 : Wst [wD ds 0] := ⟨ds, 0, rfl, by decide, hd⟩
  have s1 : ex P40 (.asgS 1 (.dsp 0 (.cons (.str "draws") (.call 2 (.cons (.var 0) (.cons (.int 500) .nil))) (.cons (.str "at") (.int 0) .nil)))) (some (false, .scr ns) :: List.replicate 18 none) [] = some (.nx, (some (false, .scr ns) :: List.replicate 18 none).set 1 (some (false, .shr 0)), [wD ds 0]) := by
    have v0 : ev P40 (.var 0) (some (false, .scr ns) :: List.replicate 18 none) [] = some (.scr ns, []) := rfl
    have dm : dMerge [] [(PV.str "draws", PV.lst (ds.map .int)), (PV.str "at", PV.int 0)] = [(PV.str "draws", PV.lst (ds.map .int)), (PV.str "at", PV.int 0)] := by
      rw [dMerge, dMerge, dMerge]
      simp [dPut, k1]
    rw [ex_asgS, ev_dsp, evd_cons, ev_str, Option.bind_some, ev_call, evs_cons, v0, Option.bind_some, evs_cons, ev_int, Option.bind_some, evs_nil, Option.map_some, Option.map_some, Option.bind_some]
    show ((((sem DD 40 2 [.scr ns, .int 500] []).bind _).bind _).map _) = _
    rw [e1, Option.bind_some, evd_cons, ev_str, Option.bind_some, ev_int, Option.bind_some, evd_nil, Option.map_some, Option.map_some, Option.bind_some]
    rw [if_pos (by rfl), dm]
    rfl
  obtain ⟨ρ', D', e2, hl, h1, hw⟩ := for_inv (f := fun x ρ D => (bindP (.nm 2) x ρ).bind fun ρ1 => exs P40 bod ρ1 D) (xs := rngL 0 8) (ρ := (some (false, .scr ns) :: List.replicate 18 none).set 1 (some (false, .shr 0))) (D := [wD ds 0])
    (I := fun i ρ' D' => ρ'.length = 19 ∧ getS ρ' 1 = some (.shr 0) ∧ Wst D') (h0 := ⟨rfl, rfl, w0⟩)
    (fun i x ρ D hx ⟨hl, h1, hw⟩ => by
      obtain ⟨ρ', D', e, h⟩ := turn_ok (ρ := ρ.set 2 (some (false, x))) (D := D) (by rw [List.length_set, hl]) hw (by rw [getS_set, if_neg (by decide)]; exact h1)
      refine ⟨.nx, ρ', D', ?_, .inl rfl, h⟩
      show (bindP (.nm 2) x ρ).bind (fun ρ1 => exs P40 bod ρ1 D) = _
      rw [show bindP (.nm 2) x ρ = some (ρ.set 2 (some (false, x))) from rfl, Option.bind_some]
      exact e)
  have s2 : ex P40 (.for_ (.nm 2) (.rng1 (.int 8)) bod) ((some (false, .scr ns) :: List.replicate 18 none).set 1 (some (false, .shr 0))) [wD ds 0] = some (.nx, ρ', D') := by
    rw [ex_for, show evi P40 (.rng1 (.int 8)) ((some (false, .scr ns) :: List.replicate 18 none).set 1 (some (false, .shr 0))) [wD ds 0] = some (rngL 0 8, [wD ds 0]) from rfl, Option.bind_some]
    exact e2
  obtain ⟨ds', at', rfl, _⟩ := hw
  refine ⟨[], ?_⟩
  rw [r_f_law]
  unfold Def.run
  rw [if_pos (show [PV.scr ns].length = 1 from rfl)]
  have ee : exs (sem DD 40) c_f_law (some (false, .scr ns) :: List.replicate 18 none) [] = some (.rt (.bl true), ρ', [wD ds' at']) := by
    rw [law_eq, xs_nx s1, xs_nx s2]
    rfl
  show ((exs (sem DD 40) c_f_law (some (false, .scr ns) :: List.replicate 18 none) []).bind _) = _
  rw [ee]
  rfl
end MP.K04

open PySem PySem.W PySem.Calls PyProof.Rows
theorem PySem.Challenge.cw_toolslent_k04_dealings_that_none_blocks_holds : PySem.Challenge.rw_toolslent_k04_dealings_that_none_blocks.Holds := by
  w_on; o_law
  refine HandSHeadRun.head_any (r := OpenLaw.row PySem.Challenge.rw_toolslent_k04_dealings_that_none_blocks) (q := view (OpenLaw.row PySem.Challenge.rw_toolslent_k04_dealings_that_none_blocks).prog [10]) (H := MP.K04.hk) (ob := MP.K04.ob) (M := 4000) (loose := MP.K04.loose) (d := HandSHeadRun.topDef (OpenLaw.row PySem.Challenge.rw_toolslent_k04_dealings_that_none_blocks).prog 10) (kwd := []) MP.K04.ob_eq
    (by kernel_rfl) (fun s => by kernel_rfl) MP.K04.run (by kernel_rfl) (by kernel_rfl) (by kernel_rfl) (by rfl) (by first | assumption | decide +kernel) (by decide +kernel) ⟨rfl, rfl, rfl, rfl, rfl, by decide +kernel⟩ ?hw ?hc
  case hw => w_witness2
  case hc =>
    refine L2.walk_ofE (l := PySem.Challenge.rw_toolslent_k04_dealings_that_none_blocks) (n := 63) (k := 41) (x := "script") (CX := L2.CX0) rfl (by decide) (by kernel_rfl) ⟨rfl, by decide, by decide⟩ ?F (fun _ _ _ _ z => z)
    intro w mg fa h Y G hmg0
    obtain ⟨K, KX, c⟩ := Y
    have hmg : mg ("law" : PySem.Str) = some (.ref fa) := by
      have e : (HandSHeadRun.topDef (OpenLaw.row PySem.Challenge.rw_toolslent_k04_dealings_that_none_blocks).prog 10).name = ("law" : PySem.Str) := by kernel_rfl
      rw [← e]
      exact hmg0
    obtain ⟨fd, hb, hF⟩ := MP.K04.facts (P := (PySem.Challenge.rw_toolslent_k04_dealings_that_none_blocks).prog) (w := w) KX G hmg c
    exact ⟨K, fd, _, KX, hb, MP.law_sp MP.K04.law_true, hF⟩

