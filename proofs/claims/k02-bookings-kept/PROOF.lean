import PyProof.Rows.All
import HandS.ForMost
import HandS.TupMul
import HandS.Style
import HandS.TupAny
import HandS.IsInst
import KE.DataMinMax
import KE.SortData
import KE.DatumOrd
import HandS.Deep
import HandS.SortInts
import HandS.More
import HandS.Conv
import HandS.TupLen
import KE.KTupSum
import HandS.Words
import HandS.Defaults
import HandS.Comp
import HandS.Text
import HandS.Iter
import HandS.Zip
import HandS.SetFor
import HandS.Small
import HandS.Set
import HandS.TupSets
import HandS.Base
import KE.GoesEnum
import HandS.Sort
import KE.KIndexOf
import HandS.Head0
import HandS.Head1
import HandS.Head2
import HandS.HeadEnd
import HandS.HeadHook1
import HandS.HeadHook2
import KE.KStateDown
import PySem.Challenge.RW_toolslent_k02_bookings_kept
set_option Elab.async false
set_option linter.all false
set_option maxRecDepth 100000
set_option maxHeartbeats 4000000
/-! MP core: a small pure language (values as trees, mutable locals by ownership, shared dicts by a store) and its evaluator. -/
namespace MP
open PySem

inductive PV where
  | non | bl (b : Bool) | int (i : Int) | str (s : Str)
  | tup (xs : List PV) | lst (xs : List PV) | dct (t : Nat) (kvs : List (PV × PV)) | shr (i : Nat)
  | scr (ns : List Int)   -- the law's script
  | lck (x : PV)          -- a shared dict while it is walked
  deriving Inhabited

abbrev LIM : Nat := 1000000

/-! ### equality, order -/
mutual
def peq : PV → PV → Bool
  | .non, .non => true
  | .bl a, .bl b => a == b
  | .bl a, .int j => (if a then 1 else 0) == j
  | .int i, .bl b => i == (if b then 1 else 0)
  | .int i, .int j => i == j
  | .str x, .str y => x == y
  | .lst xs, .lst ys => peqs xs ys
  | .tup xs, .tup ys => peqs xs ys
  | _, _ => false
def peqs : List PV → List PV → Bool
  | [], [] => true
  | x :: xs, y :: ys => peq x y && peqs xs ys
  | _, _ => false
end
/-- data of depth at most n, no dicts -/
def shp : Nat → PV → Bool
  | _, .non | _, .bl _ | _, .int _ => true
  | _, .str s => PySem.PyData.strOk s
  | n + 1, .tup xs => xs.all (shp n)
  | n + 1, .lst xs => xs.all (shp n)
  | _, _ => false
abbrev DEP : Nat := 20
def pEq (x y : PV) : Option Bool := if shp DEP x && shp DEP y then some (peq x y) else none

mutual
def plt : PV → PV → Bool
  | .int a, .int b => decide (a < b)
  | .str a, .str b => decide (a.cps.toList < b.cps.toList)
  | .tup xs, .tup ys => pltL xs ys
  | .lst xs, .lst ys => pltL xs ys
  | _, _ => false
def pltL : List PV → List PV → Bool
  | [], [] => false
  | [], _ :: _ => true
  | _ :: _, [] => false
  | x :: xs, y :: ys => if peq x y then pltL xs ys else plt x y
end
mutual
/-- the order between them is served -/
def cmpOk : PV → PV → Bool
  | .int _, .int _ => true
  | .str _, .str _ => true
  | .tup xs, .tup ys => cmpOkL xs ys
  | .lst xs, .lst ys => cmpOkL xs ys
  | _, _ => false
def cmpOkL : List PV → List PV → Bool
  | x :: xs, y :: ys => cmpOk x y && cmpOkL xs ys
  | _, _ => true
end
def pLt (x y : PV) : Option Bool := if shp DEP x && shp DEP y && cmpOk x y then some (plt x y) else none

def ordOk (xs : List PV) : Bool := xs.all fun x => shp DEP x && xs.all fun y => cmpOk x y
def minL (x : PV) (xs : List PV) : PV := xs.foldl (fun a y => if plt y a then y else a) x
def maxL (x : PV) (xs : List PV) : PV := xs.foldl (fun a y => if plt a y then y else a) x
def pMin : List PV → Option PV
  | [] => none
  | x :: xs => if ordOk (x :: xs) then some (minL x xs) else none
def pMax : List PV → Option PV
  | [] => none
  | x :: xs => if ordOk (x :: xs) then some (maxL x xs) else none
def neTup : PV → Bool
  | .tup (_ :: _) => true
  | _ => false
def isTup : PV → Bool
  | .tup _ => true
  | _ => false
def srtOk (xs : List PV) : Bool := xs.all neTup || xs.all fun x => !isTup x
def pSort (xs : List PV) : Option (List PV) := if ordOk xs && srtOk xs then some (xs.mergeSort fun a b => !plt b a) else none

/-! ### dicts -/
def dGet (k : PV) : List (PV × PV) → Option PV
  | [] => none
  | p :: r => if peq p.1 k then some p.2 else dGet k r
def dPut (k v : PV) (kvs : List (PV × PV)) : List (PV × PV) :=
  if (kvs.any fun p => peq p.1 k) = true then kvs.map (fun p => if peq p.1 k = true then (p.1, v) else p) else kvs ++ [(k, v)]
def dMerge : List (PV × PV) → List (PV × PV) → List (PV × PV)
  | acc, [] => acc
  | acc, p :: r => dMerge (dPut p.1 p.2 acc) r
def isKey1 : PV → Bool
  | .int _ => true
  | .str _ => true
  | _ => false
/-- keys of a dict of kind 0: ints, texts; of kind 1: tuples of these -/
def isKey (t : Nat) : PV → Bool
  | .int _ => t == 0
  | .str _ => t == 0
  | .tup xs => t == 1 && xs.all isKey1
  | _ => false
def pairOf : PV → Option (PV × PV)
  | .tup [k, v] => some (k, v)
  | _ => none

/-! ### operations -/
inductive Bo where
  | add | sub | mul | div | mod | pow | shr | shl | band
  | cat | rep   -- of lists alone: a new list
inductive Co where
  | eq | ne | lt | le | gt | ge | is_ | isn | in_ | nin
inductive Bi where
  | len | abs | min | max | sum | sorted | tuple | list | dict | dictT | int | all | any | setLen | sortedSet | tupRange | listRange
inductive Ty where
  | tint | tbool | ttup | tstr | tlst | tdct

def two64 : Int := 18446744073709551616
def pBin : Bo → PV → PV → Option PV
  | .add, .int a, .int b => some (.int (a + b))
  | .add, .str a, .str b => if a.length + b.length ≤ LIM then some (.str (a ++ b)) else none
  | .add, .lst a, .lst b => if a.length + b.length ≤ LIM then some (.lst (a ++ b)) else none
  | .add, .tup a, .tup b => if a.length + b.length ≤ LIM then some (.tup (a ++ b)) else none
  | .sub, .int a, .int b => some (.int (a - b))
  | .mul, .int a, .int b => if (-two64 < a ∧ a < two64) ∨ (-two64 < b ∧ b < two64) then some (.int (a * b)) else none
  | .mul, .lst a, .int k => if a.length * k.toNat ≤ LIM ∧ k ≤ LIM ∧ -LIM ≤ k then some (.lst (List.replicate k.toNat a).flatten) else none
  | .mul, .tup a, .int k => if a.length ≠ 0 ∧ 1 ≤ k ∧ k ≤ 1000 ∧ a.length ≤ 1000 then some (.tup (List.replicate k.toNat a).flatten) else none
  | .div, .int a, .int b => if b ≠ 0 ∧ b.natAbs < 1073741824 then some (.int (a.fdiv b)) else none
  | .mod, .int a, .int b => if b ≠ 0 then some (.int (a.fmod b)) else none
  | .pow, .int a, .int b => if 0 ≤ b ∧ b ≤ 1000 ∧ a.natAbs < 1000000 then some (.int (a ^ b.toNat)) else none
  | .shl, .int a, .int b => if 0 ≤ b ∧ b ≤ 1000 ∧ a.natAbs < 1000000 then some (.int (a * 2 ^ b.toNat)) else none
  | .shr, .int a, .int b => if 0 ≤ b then some (.int (a / 2 ^ b.toNat)) else none
  | .band, .int a, .int b => some (.int (Builtin.bitAnd a b))
  | .cat, .lst a, .lst b => if a.length + b.length ≤ LIM then some (.lst (a ++ b)) else none
  | .rep, .lst a, .int k => if a.length * k.toNat ≤ LIM ∧ k ≤ LIM ∧ -LIM ≤ k then some (.lst (List.replicate k.toNat a).flatten) else none
  | _, _, _ => none
/-- x op= y -/
def pIp : Bo → PV → PV → Option PV
  | .add, .int a, .int b => some (.int (a + b))
  | .sub, .int a, .int b => some (.int (a - b))
  | _, _, _ => none
/-- in a list, a tuple, a dict, a text -/
def pIn : PV → PV → Option Bool
  | x, .lst ys => if shp DEP x && ys.all (shp DEP) then some (ys.any fun y => peq y x) else none
  | x, .tup ys => if shp DEP x && ys.all (shp DEP) then some (ys.any fun y => peq y x) else none
  | x, .dct t kvs => if isKey t x then some (dGet x kvs).isSome else none
  | .str a, .str b => if a.length = 1 then some (decide (a.cps.toList.headD 0 ∈ b.cps.toList)) else none
  | _, _ => none
def isNon : PV → Bool
  | .non => true
  | _ => false
def pCmp : Co → PV → PV → Option Bool
  | .eq, x, y => pEq x y
  | .ne, x, y => (pEq x y).map (!·)
  | .lt, x, y => pLt x y
  | .gt, x, y => pLt y x
  | .le, .int a, .int b => some (decide (a ≤ b))
  | .ge, .int a, .int b => some (decide (b ≤ a))
  | .le, .str a, .str b => some (!decide (b.cps.toList < a.cps.toList))
  | .ge, .str a, .str b => some (!decide (a.cps.toList < b.cps.toList))
  | .is_, x, .non => some (isNon x)
  | .isn, x, .non => some (!isNon x)
  | .in_, x, y => pIn x y
  | .nin, x, y => (pIn x y).map (!·)
  | _, _, _ => none
def pNeg : PV → Option PV
  | .int a => some (.int (-a))
  | _ => none
def ixN (n : Nat) (i : Int) : Option Nat := if 0 ≤ i then (if i < n then some i.toNat else none) else if -(n : Int) ≤ i then some (i + n).toNat else none
def pIdx : PV → PV → Option PV
  | .lst xs, .int i => (ixN xs.length i).bind fun j => xs[j]?
  | .scr ns, .int i => (ixN ns.length i).bind fun j => (ns[j]?).map .int
  | .tup xs, .int i => (ixN xs.length i).bind fun j => xs[j]?
  | .str s, .int i => if s.length ≤ LIM then (ixN s.length i).bind fun j => (s.cps.toList[j]?).map fun c => .str ⟨#[c]⟩ else none
  | .dct t kvs, k => if isKey t k then dGet k kvs else none
  | _, _ => none
/-- slice bounds -/
def cutN (n d : Nat) : Option Int → Nat
  | none => d
  | some i => if i < 0 then (i + n).toNat else min i.toNat n
def cutL {α : Type} (xs : List α) (lo hi : Option Int) : List α := (xs.drop (cutN xs.length 0 lo)).take (cutN xs.length xs.length hi - cutN xs.length 0 lo)
def pCut : PV → Option Int → Option Int → Option PV
  | .lst xs, lo, hi => some (.lst (cutL xs lo hi))
  | .tup xs, lo, hi => some (.tup (cutL xs lo hi))
  | .str s, lo, hi => if s.length ≤ LIM then some (.str ⟨(cutL s.cps.toList lo hi).toArray⟩) else none
  | _, _, _ => none
def pRev : PV → Option PV
  | .lst xs => some (.lst xs.reverse)
  | .tup xs => some (.tup xs.reverse)
  | _ => none
def seqOf : PV → Option (List PV)
  | .lst xs => some xs
  | .tup xs => some xs
  | _ => none
def intOf : PV → Option Int
  | .int i => some i
  | _ => none
def blOf : PV → Option Bool
  | .bl b => some b
  | _ => none
def mapO {α β : Type} (f : α → Option β) : List α → Option (List β)
  | [] => some []
  | x :: xs => (f x).bind fun y => (mapO f xs).bind fun ys => some (y :: ys)
/-- the ints without doubles, in order -/
def insU (x : Int) : List Int → List Int
  | [] => [x]
  | y :: r => if x < y then x :: y :: r else if x = y then y :: r else y :: insU x r
def sset (ns : List Int) : List Int := ns.foldr insU []
/-- without doubles, the first of each -/
def dedup : List PV → List PV → List PV
  | acc, [] => acc
  | acc, x :: xs => if acc.any (fun y => peq y x) then dedup acc xs else dedup (acc ++ [x]) xs
def pBi : Bi → List PV → Option PV
  | .len, [.lst xs] => some (.int xs.length)
  | .len, [.tup xs] => some (.int xs.length)
  | .len, [.scr ns] => some (.int ns.length)
  | .len, [.str s] => if s.length ≤ LIM then some (.int s.length) else none
  | .len, [.dct _ kvs] => some (.int kvs.length)
  | .abs, [.int i] => some (.int (if i < 0 then -i else i))
  | .min, [.lst xs] => pMin xs
  | .min, [.tup xs] => pMin xs
  | .min, [.int i, .int j] => some (.int (if j < i then j else i))
  | .max, [.lst xs] => pMax xs
  | .max, [.tup xs] => pMax xs
  | .max, [.int i, .int j] => some (.int (if j > i then j else i))
  | .sum, [x] => (seqOf x).bind fun xs => (mapO intOf xs).map fun ns => .int ns.sum
  | .sorted, [.lst xs] => (pSort xs).map .lst
  | .sorted, [.tup xs] => (pSort xs).map .lst
  | .sorted, [.dct 0 kvs] => (pSort (kvs.map (·.1))).map .lst
  | .sortedSet, [x] => (seqOf x).bind fun xs => (mapO intOf xs).bind fun ns => if ns.length ≤ 4000 ∧ (sset ns).length < 64 then some (.lst ((sset ns).map .int)) else none
  | .setLen, [x] => (seqOf x).bind fun xs => (mapO intOf xs).bind fun ns => if ns.length ≤ 4000 ∧ (sset ns).length < 64 then some (.int (sset ns).length) else none
  | .tuple, [x] => (seqOf x).map .tup
  | .list, [.dct 0 kvs] => some (.lst (kvs.map (·.1)))
  | .list, [.lst xs] => some (.lst xs)
  | .list, [.tup xs] => some (.lst xs)
  | .dict, [.dct 0 kvs] => some (.dct 0 kvs)
  | .dict, [.lst xs] => (mapO pairOf xs).bind fun ps => if ps.all fun p => isKey 0 p.1 then some (.dct 0 (dMerge [] ps)) else none
  | .dictT, [.lst xs] => (mapO pairOf xs).bind fun ps => if ps.all fun p => isKey 1 p.1 then some (.dct 1 (dMerge [] ps)) else none
  | .int, [.int i] => some (.int i)
  | .int, [.bl b] => some (.int (if b then 1 else 0))
  | .all, [.lst xs] => (mapO blOf xs).map fun bs => .bl (bs.all id)
  | .any, [.lst xs] => (mapO blOf xs).map fun bs => .bl (bs.any id)
  | .tupRange, [.int n] => if n ≤ LIM ∧ -LIM ≤ n then some (.tup ((List.range n.toNat).map fun (k : Nat) => .int k)) else none
  | .listRange, [.int n] => if n ≤ LIM ∧ -LIM ≤ n then some (.lst ((List.range n.toNat).map fun (k : Nat) => .int k)) else none
  | _, _ => none
def pIs : Ty → PV → Option Bool
  | _, .shr _ => none
  | _, .scr _ => none
  | _, .lck _ => none
  | .tint, .int _ => some true
  | .tint, .bl _ => some true
  | .tbool, .bl _ => some true
  | .ttup, .tup _ => some true
  | .tstr, .str _ => some true
  | .tlst, .lst _ => some true
  | .tdct, .dct _ _ => some true
  | _, _ => some false
inductive Me where
  | get1 | get2 | count | index | items | join | split | replace
def pMe : Me → PV → List PV → Option PV
  | .get1, .dct t kvs, [k] => if isKey t k then some ((dGet k kvs).getD .non) else none
  | .get2, .dct t kvs, [k, d] => if isKey t k then some ((dGet k kvs).getD d) else none
  | .count, .lst xs, [y] => if shp DEP y && xs.all (shp DEP) then some (.int (xs.filter fun x => peq x y).length) else none
  | .index, .lst xs, [.int y] => (mapO intOf xs).bind fun ns => if y ∈ ns then some (.int (ns.idxOf y)) else none
  | .index, .tup xs, [.int y] => (mapO intOf xs).bind fun ns => if y ∈ ns then some (.int (ns.idxOf y)) else none
  | .items, .dct _ kvs, [] => some (.lst (kvs.map fun p => .tup [p.1, p.2]))
  | _, _, _ => none

/-! ### the language -/
inductive Pat where
  | nm (i : Nat) | tp (ps : List Pat)
mutual
inductive CE where
  | var (i : Nat) | bor (i : Nat) | int (n : Int) | bl (b : Bool) | non | str (s : Str) | cst (x : Str) (s : Str)
  | tup (es : CEs) | lst (es : CEs) | dsp (t : Nat) (ps : CPs)
  | bin (op : Bo) (a b : CE) | neg (a : CE)
  | cmp (op : Co) (a b : CE) | chn (op op2 : Co) (a b c : CE)
  | and_ (es : CEs) | or_ (es : CEs) | not_ (a : CE) | ite (c a b : CE)
  | idx (a i : CE) | cut (a : CE) (lo hi : CEs) | rev (a : CE)
  | call (g : Nat) (es : CEs) | bi (b : Bi) (es : CEs) | isi (t : Ty) (a : CE) | met (m : Me) (a : CE) (es : CEs) | inr (x a b : CE)
  | lc1 (own : List Nat) (elt : CE) (t : Pat) (it : CI) (cs : CEs)
  | lc2 (own : List Nat) (elt : CE) (t1 : Pat) (it1 : CI) (cs1 : CEs) (own2 : List Nat) (t2 : Pat) (it2 : CI) (cs2 : CEs)
inductive CEs where
  | nil | cons (e : CE) (es : CEs)
inductive CPs where
  | nil | cons (k v : CE) (r : CPs)
inductive CI where
  | over (e : CE) | rng1 (a : CE) | rng2 (a b : CE) | rng3 (a b c : CE) | enum (e : CE) | zip (a b : CE) | keys (i : Nat)
end

abbrev Envi := List (Option (Bool × PV))
abbrev DS := List PV
abbrev Fns := Nat → List PV → DS → Option (PV × DS)

def isLD : PV → Bool
  | .lst _ => true
  | .dct _ _ => true
  | _ => false
/-- an operand: a shared object is read -/
def opd (D : DS) : PV → Option PV
  | .shr j => (D[j]?).map fun x => match x with
    | .lck y => y
    | y => y
  | x => some x
def getS (ρ : Envi) (i : Nat) : Option PV := match ρ[i]? with
  | some (some (false, x)) => some x
  | _ => none
def borS (ρ : Envi) (i : Nat) : Option PV := match ρ[i]? with
  | some (some (_, x)) => some x
  | _ => none
def wipE (ρ : Envi) : List Nat → Envi
  | [] => ρ
  | v :: vs => (wipE ρ vs).set v none
mutual
def bindP : Pat → PV → Envi → Option Envi
  | .nm i, x, ρ => some (ρ.set i (some (false, x)))
  | .tp ps, .tup xs, ρ => bindPs ps xs ρ
  | .tp _, _, _ => none
def bindPs : List Pat → List PV → Envi → Option Envi
  | [], [], ρ => some ρ
  | p :: ps, x :: xs, ρ => (bindP p x ρ).bind fun ρ1 => bindPs ps xs ρ1
  | _, _, _ => none
end
/-- a comprehension's loop: each item gives a list -/
def lcF (f : PV → DS → Option (List PV × DS)) : List PV → DS → Option (List PV × DS)
  | [], D => some ([], D)
  | x :: xs, D => (f x D).bind fun r => (lcF f xs r.2).bind fun q => some (r.1 ++ q.1, q.2)
def chars (s : Str) : List PV := s.cps.toList.map fun c => .str ⟨#[c]⟩
def itOf : PV → Option (List PV)
  | .lst xs => some xs
  | .tup xs => some xs
  | .str s => if s.length ≤ LIM then some (chars s) else none
  | _ => none
/-- a dict's keys -/
def keysOf : PV → Option (List PV)
  | .dct 0 kvs => if kvs.length ≤ LIM then some (kvs.map (·.1)) else none
  | _ => none
def rngL (a b : Int) : List PV := (List.range (b - a).toNat).map fun (k : Nat) => .int (a + k)
def rngOk (a b : Int) : Bool := decide (-LIM ≤ a ∧ a ≤ LIM ∧ -LIM ≤ b ∧ b ≤ LIM)
/-- range(a, b, c), c not 0 -/
def rngN (a b c : Int) : Nat := if 0 < c then ((b - a + c - 1) / c).toNat else if c < 0 then ((a - b + (-c) - 1) / (-c)).toNat else 0
def rngC (a b c : Int) : List PV := (List.range (rngN a b c)).map fun (k : Nat) => .int (a + k * c)
def enumL (xs : List PV) : List PV := (List.range xs.length).zipWith (fun (k : Nat) x => .tup [.int k, x]) xs
def zipL (xs ys : List PV) : List PV := xs.zipWith (fun x y => .tup [x, y]) ys
def zipOf : PV → PV → Option (List PV)
  | .lst xs, .lst ys => some (zipL xs ys)
  | .tup xs, .tup ys => some (zipL xs ys)
  | _, _ => none
mutual
def ev (Φ : Fns) : CE → Envi → DS → Option (PV × DS)
  | .var i, ρ, D => (getS ρ i).map fun x => (x, D)
  | .bor i, ρ, D => (borS ρ i).map fun x => (x, D)
  | .int n, _, D => some (.int n, D)
  | .bl b, _, D => some (.bl b, D)
  | .non, _, D => some (.non, D)
  | .str s, _, D => some (.str s, D)
  | .cst _ s, _, D => some (.str s, D)
  | .tup es, ρ, D => (evs Φ es ρ D).map fun r => (.tup r.1, r.2)
  | .lst es, ρ, D => (evs Φ es ρ D).map fun r => (.lst r.1, r.2)
  | .dsp t ps, ρ, D => (evd Φ ps ρ D).bind fun r => if (r.1.all fun p => isKey t p.1) then some (.dct t (dMerge [] r.1), r.2) else none
  | .bin op a b, ρ, D => (ev Φ a ρ D).bind fun r => (ev Φ b ρ r.2).bind fun q => (pBin op r.1 q.1).map fun z => (z, q.2)
  | .neg a, ρ, D => (ev Φ a ρ D).bind fun r => (pNeg r.1).map fun z => (z, r.2)
  | .cmp op a b, ρ, D => (ev Φ a ρ D).bind fun r => (ev Φ b ρ r.2).bind fun q => (opd q.2 q.1).bind fun o => (pCmp op r.1 o).map fun z => (.bl z, q.2)
  | .chn op op2 a b c, ρ, D => (ev Φ a ρ D).bind fun r => (ev Φ b ρ r.2).bind fun q => (pCmp op r.1 q.1).bind fun z => if z then (ev Φ c ρ q.2).bind fun t => (pCmp op2 q.1 t.1).map fun y => (.bl y, t.2) else some (.bl false, q.2)
  | .and_ es, ρ, D => evand Φ es ρ D
  | .or_ es, ρ, D => evor Φ es ρ D
  | .not_ a, ρ, D => (ev Φ a ρ D).bind fun r => (blOf r.1).map fun z => (.bl (!z), r.2)
  | .ite c a b, ρ, D => (ev Φ c ρ D).bind fun r => (blOf r.1).bind fun z => if z then ev Φ a ρ r.2 else ev Φ b ρ r.2
  | .idx a i, ρ, D => (ev Φ a ρ D).bind fun r => (ev Φ i ρ r.2).bind fun q => (opd q.2 r.1).bind fun o => (pIdx o q.1).map fun z => (z, q.2)
  | .cut a lo hi, ρ, D => (ev Φ a ρ D).bind fun r => (evo Φ lo ρ r.2).bind fun l => (evo Φ hi ρ l.2).bind fun h => (pCut r.1 l.1 h.1).map fun z => (z, h.2)
  | .rev a, ρ, D => (ev Φ a ρ D).bind fun r => (pRev r.1).map fun z => (z, r.2)
  | .call g es, ρ, D => (evs Φ es ρ D).bind fun r => Φ g r.1 r.2
  | .bi b es, ρ, D => (evs Φ es ρ D).bind fun r => (mapO (opd r.2) r.1).bind fun xs => (pBi b xs).map fun z => (z, r.2)
  | .isi t a, ρ, D => (ev Φ a ρ D).bind fun r => (pIs t r.1).map fun z => (.bl z, r.2)
  | .met m a es, ρ, D => (ev Φ a ρ D).bind fun r => (evs Φ es ρ r.2).bind fun q => (pMe m r.1 q.1).map fun z => (z, q.2)
  | .inr x a b, ρ, D => (ev Φ x ρ D).bind fun r => (ev Φ a ρ r.2).bind fun q => (ev Φ b ρ q.2).bind fun t => (intOf r.1).bind fun i => (intOf q.1).bind fun m => (intOf t.1).map fun n => (.bl (decide (m ≤ i ∧ i < n)), t.2)
  | .lc1 own elt t it cs, ρ, D => (evi Φ it ρ D).bind fun r =>
      (lcF (fun x D1 => (bindP t x (wipE ρ own)).bind fun ρ1 => (evt Φ cs ρ1 D1).bind fun c => if c.1 then (ev Φ elt ρ1 c.2).map fun y => ([y.1], y.2) else some ([], c.2)) r.1 r.2).map fun q => (.lst q.1, q.2)
  | .lc2 own elt t1 it1 cs1 own2 t2 it2 cs2, ρ, D => (evi Φ it1 ρ D).bind fun r =>
      (lcF (fun x D1 => (bindP t1 x (wipE ρ own)).bind fun ρ1 => (evt Φ cs1 ρ1 D1).bind fun c => if c.1 then (evi Φ it2 ρ1 c.2).bind fun r2 =>
        lcF (fun y D2 => (bindP t2 y (wipE ρ1 own2)).bind fun ρ2 => (evt Φ cs2 ρ2 D2).bind fun c2 => if c2.1 then (ev Φ elt ρ2 c2.2).map fun y => ([y.1], y.2) else some ([], c2.2)) r2.1 r2.2
        else some ([], c.2)) r.1 r.2).bind fun q => if q.1.length ≤ LIM then some (.lst q.1, q.2) else none
def evs (Φ : Fns) : CEs → Envi → DS → Option (List PV × DS)
  | .nil, _, D => some ([], D)
  | .cons e es, ρ, D => (ev Φ e ρ D).bind fun r => (evs Φ es ρ r.2).map fun q => (r.1 :: q.1, q.2)
def evd (Φ : Fns) : CPs → Envi → DS → Option (List (PV × PV) × DS)
  | .nil, _, D => some ([], D)
  | .cons k v r, ρ, D => (ev Φ k ρ D).bind fun x => (ev Φ v ρ x.2).bind fun q => (evd Φ r ρ q.2).map fun z => ((x.1, q.1) :: z.1, z.2)
def evand (Φ : Fns) : CEs → Envi → DS → Option (PV × DS)
  | .nil, _, _ => none
  | .cons e .nil, ρ, D => ev Φ e ρ D
  | .cons e es, ρ, D => (ev Φ e ρ D).bind fun r => (blOf r.1).bind fun z => if z then evand Φ es ρ r.2 else some (.bl false, r.2)
def evor (Φ : Fns) : CEs → Envi → DS → Option (PV × DS)
  | .nil, _, _ => none
  | .cons e .nil, ρ, D => ev Φ e ρ D
  | .cons e es, ρ, D => (ev Φ e ρ D).bind fun r => (blOf r.1).bind fun z => if z then some (.bl true, r.2) else evor Φ es ρ r.2
/-- a slice's part -/
def evo (Φ : Fns) : CEs → Envi → DS → Option (Option Int × DS)
  | .nil, _, D => some (none, D)
  | .cons e .nil, ρ, D => (ev Φ e ρ D).bind fun r => (intOf r.1).map fun i => (some i, r.2)
  | _, _, _ => none
/-- a clause's tests: none or one -/
def evt (Φ : Fns) : CEs → Envi → DS → Option (Bool × DS)
  | .nil, _, D => some (true, D)
  | .cons e .nil, ρ, D => (ev Φ e ρ D).bind fun r => (blOf r.1).map fun z => (z, r.2)
  | _, _, _ => none
def evi (Φ : Fns) : CI → Envi → DS → Option (List PV × DS)
  | .over e, ρ, D => (ev Φ e ρ D).bind fun r => (itOf r.1).map fun xs => (xs, r.2)
  | .rng1 a, ρ, D => (ev Φ a ρ D).bind fun r => (intOf r.1).bind fun n => if rngOk 0 n then some (rngL 0 n, r.2) else none
  | .rng2 a b, ρ, D => (ev Φ a ρ D).bind fun r => (ev Φ b ρ r.2).bind fun q => (intOf r.1).bind fun m => (intOf q.1).bind fun n => if rngOk m n then some (rngL m n, q.2) else none
  | .rng3 a b c, ρ, D => (ev Φ a ρ D).bind fun r => (ev Φ b ρ r.2).bind fun q => (ev Φ c ρ q.2).bind fun t => (intOf r.1).bind fun m => (intOf q.1).bind fun n => (intOf t.1).bind fun k =>
      if rngOk m n && decide (k ≠ 0 ∧ k.natAbs ≤ LIM) then some (rngC m n k, t.2) else none
  | .enum e, ρ, D => (ev Φ e ρ D).bind fun r => (seqOf r.1).map fun xs => (enumL xs, r.2)
  | .zip a b, ρ, D => (ev Φ a ρ D).bind fun r => (ev Φ b ρ r.2).bind fun q => (zipOf r.1 q.1).map fun xs => (xs, q.2)
  | .keys i, ρ, D => ((borS ρ i).bind keysOf).map fun xs => (xs, D)
end

/-! ### statements -/
inductive Tg where
  | nm (i : Nat) | sub (i : Nat) (k : CE)
mutual
inductive CS where
  | asg (o : Bool) (i : Nat) (e : CE) | asgP (p : Pat) (e : CE) | asgS (i : Nat) (e : CE) | asg2 (i j : Nat) (e : CE)
  | par (ts : List Tg) (os : List Bool) (es : CEs)
  | aug (i : Nat) (op : Bo) (e : CE) | setI (i : Nat) (k e : CE) | augI (i : Nat) (k : CE) (op : Bo) (e : CE)
  | app (i : Nat) (e : CE) | ext (i : Nat) (e : CE) | ins (i : Nat) (k e : CE) | rem (i : Nat) (e : CE) | upd (i : Nat) (e : CE)
  | pop (p : Pat) (i : Nat) | pop0 (p : Pat) (i : Nat)
  | expr (e : CE) | ret (e : CE) | retN | ife (c : CE) (a b : CSs) | whl (c : CE) (b : CSs) | for_ (t : Pat) (it : CI) (b : CSs)
  | brk | cnt | pass
inductive CSs where
  | nil | cons (s : CS) (r : CSs) | frz (is : List Nat) (r : CSs)
end
inductive Out where
  | nx | rt (x : PV) | bk | ct
abbrev XR := Option (Out × Envi × DS)
def frz1 (ρ : Envi) (i : Nat) : Envi := match ρ[i]? with
  | some (some (true, x)) => ρ.set i (some (false, x))
  | _ => ρ
def frzL (ρ : Envi) : List Nat → Envi
  | [] => ρ
  | i :: r => frzL (frz1 ρ i) r
/-- an item stored, in a list or a dict -/
def pSet : PV → PV → PV → Option PV
  | .lst xs, .int i, v => (ixN xs.length i).map fun j => .lst (xs.set j v)
  | .dct t kvs, k, v => if isKey t k && decide (kvs.length < LIM) then some (.dct t (dPut k v kvs)) else none
  | _, _, _ => none
/-- the object at slot i changed by f -/
def chg (f : PV → Option PV) (i : Nat) (ρ : Envi) (D : DS) : Option (Envi × DS) := match ρ[i]? with
  | some (some (true, x)) => (f x).map fun y => (ρ.set i (some (true, y)), D)
  | some (some (false, .shr j)) => (D[j]?).bind fun x => (f x).map fun y => (ρ, D.set j y)
  | _ => none
/-- .. only what the slot holds by itself -/
def chgO (f : PV → Option PV) (i : Nat) (ρ : Envi) (D : DS) : Option (Envi × DS) := match ρ[i]? with
  | some (some (true, x)) => (f x).map fun y => (ρ.set i (some (true, y)), D)
  | _ => none
def pApp (v : PV) : PV → Option PV
  | .lst xs => if xs.length < LIM then some (.lst (xs ++ [v])) else none
  | _ => none
def pExt (v : PV) : PV → Option PV
  | .lst xs => match v with
    | .lst ys => if xs.length + ys.length ≤ LIM then some (.lst (xs ++ ys)) else none
    | _ => none
  | _ => none
def pInsAt (k v : PV) : PV → Option PV
  | .lst xs => match k with
    | .int i => if 0 ≤ i ∧ i ≤ xs.length ∧ xs.length < LIM then some (.lst (xs.take i.toNat ++ v :: xs.drop i.toNat)) else none
    | _ => none
  | _ => none
def pRem (v : PV) : PV → Option PV
  | .lst xs => match v with
    | .int n => (mapO intOf xs).bind fun ns => if n ∈ ns then some (.lst ((ns.erase n).map .int)) else none
    | _ => none
  | _ => none
def pUpd (v : PV) : PV → Option PV
  | .dct t kvs => match v with
    | .dct u more => if t == u && decide (kvs.length + more.length ≤ LIM) then some (.dct t (dMerge kvs more)) else none
    | _ => none
  | _ => none
def forL (f : PV → Envi → DS → XR) : List PV → Envi → DS → XR
  | [], ρ, D => some (.nx, ρ, D)
  | x :: xs, ρ, D => (f x ρ D).bind fun r => match r.1 with
    | .nx => forL f xs r.2.1 r.2.2
    | .ct => forL f xs r.2.1 r.2.2
    | .bk => some (.nx, r.2)
    | .rt v => some (.rt v, r.2)
def whlL (c : Envi → DS → Option (Bool × DS)) (f : Envi → DS → XR) : Nat → Envi → DS → XR
  | 0, _, _ => none
  | n + 1, ρ, D => (c ρ D).bind fun b => if b.1 then (f ρ b.2).bind fun r => match r.1 with
    | .nx => whlL c f n r.2.1 r.2.2
    | .ct => whlL c f n r.2.1 r.2.2
    | .bk => some (.nx, r.2)
    | .rt v => some (.rt v, r.2)
    else some (.nx, ρ, b.2)
abbrev WH : Nat := 100000
/-- targets of a parallel assignment, from the left -/
def storeT (Φ : Fns) : List Tg → List Bool → List PV → Envi → DS → Option (Envi × DS)
  | [], [], [], ρ, D => some (ρ, D)
  | .nm i :: ts, o :: os, x :: xs, ρ, D => storeT Φ ts os xs (ρ.set i (some (o, x))) D
  | .sub i k :: ts, false :: os, x :: xs, ρ, D => (ev Φ k ρ D).bind fun q => (chg (fun y => pSet y q.1 x) i ρ q.2).bind fun r => storeT Φ ts os xs r.1 r.2
  | _, _, _, _, _ => none
mutual
def ex (Φ : Fns) : CS → Envi → DS → XR
  | .asg o i e, ρ, D => (ev Φ e ρ D).map fun r => (.nx, ρ.set i (some (o, r.1)), r.2)
  | .asgP p e, ρ, D => (ev Φ e ρ D).bind fun r => (bindP p r.1 ρ).map fun ρ1 => (.nx, ρ1, r.2)
  | .asgS i e, ρ, D => (ev Φ e ρ D).map fun r => (.nx, ρ.set i (some (false, .shr r.2.length)), r.2 ++ [r.1])
  | .asg2 i j e, ρ, D => (ev Φ e ρ D).map fun r => (.nx, (ρ.set i (some (false, r.1))).set j (some (false, r.1)), r.2)
  | .par ts os es, ρ, D => (evs Φ es ρ D).bind fun r => (storeT Φ ts os r.1 ρ r.2).map fun q => (.nx, q.1, q.2)
  | .aug i op e, ρ, D => (getS ρ i).bind fun x => (ev Φ e ρ D).bind fun r => (pIp op x r.1).map fun z => (.nx, ρ.set i (some (false, z)), r.2)
  | .setI i k e, ρ, D => (ev Φ e ρ D).bind fun r => (ev Φ k ρ r.2).bind fun q => (chg (fun y => pSet y q.1 r.1) i ρ q.2).map fun z => (.nx, z.1, z.2)
  | .augI i k op e, ρ, D => (ev Φ k ρ D).bind fun q => (borS ρ i).bind fun c => (opd q.2 c).bind fun o => (if isLD o then pIdx o q.1 else none).bind fun old => (ev Φ e ρ q.2).bind fun r => (pIp op old r.1).bind fun z =>
      (chg (fun y => pSet y q.1 z) i ρ r.2).map fun t => (.nx, t.1, t.2)
  | .app i e, ρ, D => (ev Φ e ρ D).bind fun r => (chgO (pApp r.1) i ρ r.2).map fun z => (.nx, z.1, z.2)
  | .ext i e, ρ, D => (ev Φ e ρ D).bind fun r => (chgO (pExt r.1) i ρ r.2).map fun z => (.nx, z.1, z.2)
  | .ins i k e, ρ, D => (ev Φ k ρ D).bind fun q => (ev Φ e ρ q.2).bind fun r => (chgO (pInsAt q.1 r.1) i ρ r.2).map fun z => (.nx, z.1, z.2)
  | .rem i e, ρ, D => (ev Φ e ρ D).bind fun r => (chgO (pRem r.1) i ρ r.2).map fun z => (.nx, z.1, z.2)
  | .upd i e, ρ, D => (ev Φ e ρ D).bind fun r => (chg (pUpd r.1) i ρ r.2).map fun z => (.nx, z.1, z.2)
  | .pop p i, ρ, D => match ρ[i]? with
    | some (some (true, .lst xs)) => (xs.getLast?).bind fun y => (bindP p y (ρ.set i (some (true, .lst xs.dropLast)))).map fun ρ1 => (.nx, ρ1, D)
    | _ => none
  | .pop0 p i, ρ, D => match ρ[i]? with
    | some (some (true, .lst (y :: xs))) => (bindP p y (ρ.set i (some (true, .lst xs)))).map fun ρ1 => (.nx, ρ1, D)
    | _ => none
  | .expr e, ρ, D => (ev Φ e ρ D).map fun r => (.nx, ρ, r.2)
  | .ret e, ρ, D => (ev Φ e ρ D).map fun r => (.rt r.1, ρ, r.2)
  | .retN, ρ, D => some (.rt .non, ρ, D)
  | .ife c a b, ρ, D => (ev Φ c ρ D).bind fun r => (blOf r.1).bind fun z => if z then exs Φ a ρ r.2 else exs Φ b ρ r.2
  | .whl c b, ρ, D => whlL (fun ρ D => (ev Φ c ρ D).bind fun r => (blOf r.1).map fun z => (z, r.2)) (fun ρ D => exs Φ b ρ D) WH ρ D
  | .for_ t it b, ρ, D => (evi Φ it ρ D).bind fun r => forL (fun x ρ D => (bindP t x ρ).bind fun ρ1 => exs Φ b ρ1 D) r.1 ρ r.2
  | .brk, ρ, D => some (.bk, ρ, D)
  | .cnt, ρ, D => some (.ct, ρ, D)
  | .pass, ρ, D => some (.nx, ρ, D)
def exs (Φ : Fns) : CSs → Envi → DS → XR
  | .nil, ρ, D => some (.nx, ρ, D)
  | .frz is r, ρ, D => exs Φ r (frzL ρ is) D
  | .cons s r, ρ, D => (ex Φ s ρ D).bind fun q => match q.1 with
    | .nx => exs Φ r q.2.1 q.2.2
    | _ => some q
end
/-- no shared object in it -/
def noShr : Nat → PV → Bool
  | _, .shr _ => false
  | _, .lck _ => false
  | n + 1, .tup xs => xs.all (noShr n)
  | n + 1, .lst xs => xs.all (noShr n)
  | n + 1, .dct _ kvs => kvs.all fun p => noShr n p.1 && noShr n p.2
  | 0, .tup _ => false
  | 0, .lst _ => false
  | 0, .dct _ _ => false
  | _, _ => true
/-- a def: n names in all, the first are the parameters -/
structure Def where
  nn : Nat
  np : Nat
  body : CSs
def Def.run (Φ : Fns) (d : Def) (args : List PV) (D : DS) : Option (PV × DS) :=
  if args.length = d.np then
    (exs Φ d.body (args.map (fun x => some (false, x)) ++ List.replicate (d.nn - d.np) none) D).bind fun q =>
      (match q.1 with
        | .rt x => some x
        | .nx => some .non
        | _ => none).bind fun x => if q.2.2.length = D.length then some (x, q.2.2) else if noShr DEP x && (q.2.2.take D.length).all (noShr DEP) then some (x, q.2.2.take D.length) else none
  else none
/-- all defs of a program, by the depth of their calls -/
def sem (defs : List Def) : Nat → Fns
  | 0, _, _, _ => none
  | n + 1, g, args, D => (defs[g]?).bind fun d => d.run (sem defs n) args D
end MP

/-! MP rv: t[::-1] of a tuple, t * n. -/
namespace PySem
open PySem.Spec PyProof.Rows L2
section
variable {prog : Program} {w : World} {A : Around} {E : Value → Shared → Prop} {s : Shared}
theorem mp_applied_rev {sl : Addr} {n : Nat} {u : Tok} {Q : Int × Int × Nat → Shared → Prop} (hs : s.heap.IsSliceOf sl .none .none (.int (-1) u)) (h : Q ((n : Int) - 1, -1, n) s) :
    wpAny (model prog w) A (Builtin.Slice.sliceApplied (.ref sl) (pure (n : Int))) Q E s := by
  obtain ⟨os, hos, hcs, hds⟩ := id hs
  unfold Builtin.Slice.sliceApplied Builtin.Slice.sliceFields
  refine wpAny_bind (wpAny_bind (wpAny_field hos hds (x := .none) rfl (wpAny_bind (wpAny_field hos hds (x := .none) rfl (wpAny_bind (wpAny_field hos hds (x := .int (-1) u) rfl (wpAny_pure ?_)))))))
  refine wpAny_bind (slicePart_int ?_)
  show wpAny _ _ (if ((-1 : Int) == 0) = true then _ else _) _ _ s
  rw [if_neg (by decide)]
  refine wpAny_bind (slicePart_none (wpAny_bind (slicePart_none (wpAny_bind (wpAny_pure ?_)))))
  show wpAny _ _ (match Builtin.Slice.sliceAdjust none none (-1) (n : Int) with | (lo, hi) => pure (lo, (-1 : Int), Builtin.Slice.slicePlaces lo hi (-1))) _ _ s
  have e : Builtin.Slice.sliceAdjust none none (-1) (n : Int) = ((n : Int) - 1, -1) := by
    unfold Builtin.Slice.sliceAdjust; rfl
  rw [e]
  show wpAny _ _ (pure ((n : Int) - 1, (-1 : Int), Builtin.Slice.slicePlaces ((n : Int) - 1) (-1) (-1))) _ _ s
  have e2 : Builtin.Slice.slicePlaces ((n : Int) - 1) (-1) (-1) = n := by
    unfold Builtin.Slice.slicePlaces
    rw [if_neg (by decide)]
    split
    · simp
    · simp; omega
  rw [e2]
  exact wpAny_pure h
theorem mp_fm_some {f : Nat → Option Value} {g : Nat → Value} : ∀ l : List Nat, (∀ k ∈ l, f k = some (g k)) → l.filterMap f = l.map g
  | [], _ => rfl
  | x :: l, h => by
    rw [List.filterMap_cons, h x List.mem_cons_self, mp_fm_some l fun k hk => h k (List.mem_cons_of_mem _ hk)]; rfl
theorem mp_pick_rev (xs : Array Value) : ((List.range xs.size).filterMap fun (k : Nat) => xs[(((xs.size : Int) - 1) + (k : Int) * (-1)).toNat]?).toArray = xs.toList.reverse.toArray := by
  congr 1
  apply List.ext_getElem?
  intro i
  have key : (List.range xs.size).filterMap (fun (k : Nat) => xs[(((xs.size : Int) - 1) + (k : Int) * (-1)).toNat]?) = (List.range xs.size).map fun k => xs[xs.size - 1 - k]! := by
    refine mp_fm_some _ fun k hk => ?_
    have hk := List.mem_range.mp hk
    have e : (((xs.size : Int) - 1) + (k : Int) * (-1)).toNat = xs.size - 1 - k := by omega
    have : xs.size - 1 - k < xs.size := by omega
    rw [e]
    simp [this]
  rw [key]
  by_cases hi : i < xs.size
  · have : xs.size - 1 - i < xs.size := by omega
    rw [List.getElem?_reverse (by simpa using hi)]
    simp [hi, this]
  · rw [List.getElem?_eq_none (by simpa using hi), List.getElem?_eq_none (by simpa using hi)]
theorem mp_getItem_rev {t sl : Addr} {items : Array Value} {u : Tok} {Q : Value → Shared → Prop} (ht : IsTup s.heap t items) (hs : s.heap.IsSliceOf sl .none .none (.int (-1) u))
    (h : Q (.ref s.heap.objs.size) { s with heap := s.heap.push { cls := .type "tuple", data := .seq items.toList.reverse.toArray } })
    (hsz : items.size ≤ sizeLine) : wpAny (model prog w) A (getItem (.ref t) (.ref sl)) Q E s := by
  have hdrop : sizeOk (.seq items.toList.reverse.toArray) := by
    show items.toList.reverse.toArray.size ≤ sizeLine
    rw [List.size_toArray, List.length_reverse, Array.length_toList]
    exact hsz
  obtain ⟨os, hos, hcs, hds⟩ := id hs
  have hTs : s.TypeIs (.ref sl) "slice" := ⟨os, hos, hcs⟩
  unfold getItem
  try with_reducible refine wpAny_holding ?_
  first | refine wpAny_bind (wpAny_pure ?_) | skip
  refine wpAny_bind (wpAny_sequenceKey ht.typeIs (by decide) ?_)
  refine wpAny_bind (wpAny_callSpecial?_slot (name := Str.ofString "__getitem__") ht.typeIs PyProof.Rows.slot_tuple_getitem
    (wpAny_call_entry PyProof.Rows.slot_tuple_getitem ht.typeIs entry_tuple_getitem ?_ (args_tuple_getitem _ _)))
  show wpAny _ _ (Builtin.Tuple.tupleItemsOf (.ref t) >>= _) _ _ s
  refine wpAny_bind (tupleItemsOf_ ht ?_)
  refine wpAny_bind (wpAny_typeOf hTs ?_)
  rw [if_pos (by decide)]
  refine wpAny_bind (mp_applied_rev (n := items.size) hs ?_)
  have hno : ¬ ((((items.size : Int) - 1) == 0 && (-1 : Int) == 1 && items.size == items.size) = true) := by
    have : ((-1 : Int) == 1) = false := by decide
    rw [this]; simp
  show wpAny _ _ (if (((items.size : Int) - 1) == 0 && (-1 : Int) == 1 && items.size == items.size) = true then _ else _) _ _ s
  rw [if_neg hno, mp_pick_rev items]
  first
    | exact wpAny_bind (m := Builtin.Tuple.tupleExact _) (wpAny_newObj_type (wpAny_pure ⟨_, rfl, wpAny_pure h⟩) hdrop)
    | exact wpAny_bind (m := Builtin.Tuple.tupleExact _) (wpAny_newObj_type (wpAny_bind (wpAny_pure (wpAny_pure ⟨_, rfl, wpAny_pure h⟩))) hdrop)
    | exact wpAny_bind (wpAny_bind (m := Builtin.Tuple.tupleExact _) (wpAny_newObj_type (wpAny_pure (wpAny_pure ⟨_, rfl, wpAny_pure h⟩)) hdrop))
    | exact wpAny_bind (wpAny_bind (m := Builtin.Tuple.tupleExact _) (wpAny_newObj_type (wpAny_pure ⟨_, rfl, wpAny_pure h⟩) hdrop))
theorem mp_tuple_mul1 (l : Addr) (items : Array Value) (n : Nat) (dd : Option Addr) (sl : Array (Option Value)) (u : Tok) :
    Meets (Builtin.«tuple.__mul__» ⟨[.ref l, .int 1 u], []⟩) (fun _ R s => s.heap.get? l = some { cls := .type "tuple", dict := dd, data := .seq items n, slots := sl } ∧ R (.ok (.ret (Value.ref l))) s) :=
  .of_wp fun prog w A R s h => by
    obtain ⟨hp, g, d, tk, os⟩ := s
    obtain ⟨hl, h⟩ := h
    have f1 := AutoSeq1.idx_int
    have c1 : (items.isEmpty || ((1 : Int) == 1)) = true := by simp
    wp_walk using wpAny_loadPart' hl
    repeat (first
      | (refine wpAny_ite_false (decide_eq_false (by decide)) ?_; wp_walk using wpAny_loadPart' hl)
      | (refine wpAny_ite_true (decide_eq_true (by rw [c1])) ?_; wp_walk using wpAny_loadPart' hl))
    exact ⟨_, rfl, h⟩
end
end PySem
namespace L2
open PySem PySem.Spec PyProof.Rows
/-- xs[::-1] of a list or a tuple -/
def tRevT (K : PySem.W.Frag) (te : TE) : TE := fun σ H Q => te σ H fun x H1 => ∃ a xs, x = .ref a ∧ SqT K H1 a xs ∧ ∀ p, H1 p = none → Q (.ref p) (upd H1 p (.tup xs.reverse))
theorem pe_revT {X : Cx} {e : Expr} {te : TE} {k : Nat} {p1 p2 p3 pos : Pos} (he : PE X e te) : PE X (.Subscript e (.Slice none none (some (.UnaryOp .USub (.Constant (.int 1) k p1) p2)) p3) pos) (tRevT X.K te) := by
  refine ⟨fun pins s σ H Q I h => ?_⟩
  refine Subscript_ (thn (he.run pins s σ H _ I h) fun v s1 ⟨x, H1, I1, r1, q1⟩ => ?_)
  obtain ⟨a, xs, ex, hx, q⟩ := q1
  subst ex
  cases r1
  have hst : PO X (some (.UnaryOp .USub (.Constant (.int 1) k p1) p2)) (tPart (tUn (rU fun i => .int (-i)) (tC (.int 1)))) := po_some (pe_un un_neg pe_int)
  refine wpAny_Slice (thn (po_none.run pins s1 σ H1 (fun o H2 => o = none ∧ H2 = H1) I1 ⟨rfl, rfl⟩) fun vl s2 ⟨l, H2, I2, pl, el, e2⟩ => ?_)
  subst el e2
  refine thn (po_none.run pins s2 σ H2 (fun o H3 => o = none ∧ H3 = H2) I2 ⟨rfl, rfl⟩) fun vu s3 ⟨u, H3, I3, pu, eu, e3⟩ => ?_
  subst eu e3
  refine thn (hst.run pins s3 σ H3 (fun o H4 => o = some (-1) ∧ H4 = H3) I3 ⟨1, rfl, -1, rfl, rfl, rfl⟩) fun vs s4 ⟨o, H4, I4, ps, eo, e4⟩ => ?_
  subst eo e4
  have I5 : Inv X pins σ H4 { s4 with heap := s4.heap.push { cls := .type "slice", data := .fields #[vl, vu, vs] } } := I4.kept (t' := s4.toks) fun b ob q => Heap.get?_push_of_some _ q
  obtain ⟨its, r, ht, hz⟩ := I5.tuple hx
  have hlen := r.length
  show wpAny (model X.prog X.w) X.A (subscriptTail e (.Slice none none (some (.UnaryOp .USub (.Constant (.int 1) k p1) p2)) p3) (.ref a) (.ref s4.heap.objs.size)) (EP X pins σ Q) X.xe { s4 with heap := s4.heap.push { cls := .type "slice", data := .fields #[vl, vu, vs] } }
  refine tail_any (ops := [.ref a, .ref s4.heap.objs.size]) ht.typeIs (PyProof.Rows.slot_tuple_getitem.lookup) ?_ (by with_unfolding_all rfl)
  cases pl
  cases pu
  cases ps
  refine mp_getItem_rev ht (Heap.IsSliceOf.new _ _ _ _) ?_ (by rw [List.size_toArray]; omega)
  refine ⟨.ref _, _, I5.laid (t' := s4.toks) (o := .tup xs.reverse) (fun b ob q => Heap.get?_push_of_some _ q) (Nat.le_refl _) ?_, rfl, q _ (I5.hok.fresh (Nat.le_refl _))⟩
  exact ⟨by rw [List.length_reverse]; exact hz, _, r.reverse, ⟨_, Heap.get?_push_size _ rfl, rfl, _, rfl⟩⟩
theorem pe_orT {X : Cx} {e : Expr} {t u : TE} (h : PE X e t) (h2 : PE X e u) : PE X e (fun σ H Q => t σ H Q ∨ u σ H Q) := ⟨fun pins s σ H Q I q => by
  rcases q with q | q
  · exact h.run pins s σ H Q I q
  · exact h2.run pins s σ H Q I q⟩
def rRep1 (K : PySem.W.Frag) : R2 := fun x y H Q => ∃ l xs, x = .ref l ∧ y = .int 1 ∧ SqT K H l xs ∧ Q (.ref l) H
theorem op_rep1 {X : Cx} : OpR X (binaryOp .Mult) (rRep1 X.K) := by
  intro pins s σ H x y v u Q I rx ry h
  obtain ⟨l, xs, rfl, rfl, hT, q⟩ := h
  cases rx
  obtain ⟨t, rfl⟩ := ry
  obtain ⟨its, r, ⟨⟨cls, dd, data, sl⟩, ho, hc, n, hd⟩, hs⟩ := I.tuple hT
  simp only at hc hd
  subst hc hd
  refine wpAny_binaryOp_repeat_ref (T := "tuple") (U := "int") (by decide) ⟨_, ho, rfl⟩ (fun s' => typeIs_int s' 1 t) noFill_tuple_mul F.fills_int_mul F.slot_int_rmul repeat_tuple F.slot_int_index.lookup
    (call_meets F.slot_int_rmul (typeIs_int s 1 t) F.entry_int_rmul (F.args_int_rmul_2 _ _) (int_rmul_tuple 1 t l its.toArray n dd sl)
      ⟨ho, rfl, ⟨_, ho, rfl⟩, call_meets F.slot_tuple_mul ⟨_, ho, rfl⟩ F.entry_tuple_mul (F.args_tuple_mul_2 _ _) (mp_tuple_mul1 l its.toArray n dd sl t) ⟨ho, ⟨.ref l, H, I, rfl, q⟩⟩⟩)
end L2

/-! MP rep: how values, slots and shared objects lie in the layer's abstract heap. -/
namespace MP
open PySem PySem.Spec PyProof.Rows L2

def kPV : Key → PV
  | .inl i => .int i
  | .inr s => .str s
mutual
/-- v is the tree x, its objects in G; the shared objects stand at as -/
inductive Tr (as : List Addr) (K : PySem.W.Frag) (G : Hp) : V → PV → Prop
  | non : Tr as K G .non .non
  | bl (b : Bool) : Tr as K G (.bl b) (.bl b)
  | int (i : Int) : Tr as K G (.int i) (.int i)
  | str (s : Str) : Tr as K G (.str s) (.str s)
  | tup {a : Addr} {vs : List V} {xs : List PV} : G a = some (.tup vs) → TrS as K G vs xs → Tr as K G (.ref a) (.tup xs)
  | lst {a : Addr} {vs : List V} {xs : List PV} : G a = some (.lst vs) → TrS as K G vs xs → Tr as K G (.ref a) (.lst xs)
  | dK {a : Addr} {ks : List (Key × V)} {kvs : List (PV × PV)} : Rd G a (.dK ks) → TrK as K G ks kvs → Tr as K G (.ref a) (.dct 0 kvs)
  | dT {a : Addr} {ks : List (List Key × V)} {kvs : List (PV × PV)} : Rd G a (.dT ks) → TrT as K G ks kvs → Tr as K G (.ref a) (.dct 1 kvs)
  | shr {j : Nat} {a : Addr} : as[j]? = some a → Tr as K G (.ref a) (.shr j)
  | scr {a : Addr} {ns : List Int} : SqL K G a (ns.map V.int) → Tr as K G (.ref a) (.scr ns)
inductive TrS (as : List Addr) (K : PySem.W.Frag) (G : Hp) : List V → List PV → Prop
  | nil : TrS as K G [] []
  | cons {v : V} {x : PV} {vs : List V} {xs : List PV} : Tr as K G v x → TrS as K G vs xs → TrS as K G (v :: vs) (x :: xs)
inductive TrK (as : List Addr) (K : PySem.W.Frag) (G : Hp) : List (Key × V) → List (PV × PV) → Prop
  | nil : TrK as K G [] []
  | cons {k : Key} {v : V} {x : PV} {ks : List (Key × V)} {kvs : List (PV × PV)} : Tr as K G v x → TrK as K G ks kvs → TrK as K G ((k, v) :: ks) ((kPV k, x) :: kvs)
inductive TrT (as : List Addr) (K : PySem.W.Frag) (G : Hp) : List (List Key × V) → List (PV × PV) → Prop
  | nil : TrT as K G [] []
  | cons {k : List Key} {v : V} {x : PV} {ks : List (List Key × V)} {kvs : List (PV × PV)} : Tr as K G v x → TrT as K G ks kvs → TrT as K G ((k, v) :: ks) ((.tup (k.map kPV), x) :: kvs)
end

/-- what G tells, G' tells -/
structure Le (G G' : Hp) : Prop where
  pl : ∀ b o, (∀ c u, o ≠ .frz c u) → (∀ u, o ≠ .dK u) → (∀ u, o ≠ .dT u) → G b = some o → G' b = some o
  rd' : ∀ b u, (∀ c v, u ≠ HO.frz c v) → Rd G b u → Rd G' b u
theorem Le.rd {G G' : Hp} (l : Le G G') (b : Addr) (u : HO) (h : Rd G b u) (hn : ∀ c v, u ≠ HO.frz c v := by intro _ _ z; cases z) : Rd G' b u := l.rd' b u hn h
theorem Le.refl (G : Hp) : Le G G := ⟨fun _ _ _ _ _ h => h, fun _ _ _ h => h⟩
theorem Le.trans {G G1 G2 : Hp} (a : Le G G1) (b : Le G1 G2) : Le G G2 := ⟨fun c o h1 h2 h3 h => b.pl c o h1 h2 h3 (a.pl c o h1 h2 h3 h), fun c u hn h => b.rd' c u hn (a.rd' c u hn h)⟩
theorem Le.of {G G' : Hp} (h : ∀ b o, G b = some o → G' b = some o) : Le G G' := ⟨fun b o _ _ _ => h b o, fun b u _ r => by
  rcases r with r | ⟨o, r⟩
  · exact .inl (h _ _ r)
  · exact .inr ⟨o, h _ _ r⟩⟩
theorem Le.lst {G G' : Hp} (l : Le G G') {a : Addr} {vs : List V} (h : G a = some (.lst vs)) : G' a = some (.lst vs) := l.pl a _ (fun _ _ z => nomatch z) (fun _ z => nomatch z) (fun _ z => nomatch z) h
theorem Le.tup {G G' : Hp} (l : Le G G') {a : Addr} {vs : List V} (h : G a = some (.tup vs)) : G' a = some (.tup vs) := l.pl a _ (fun _ _ z => nomatch z) (fun _ z => nomatch z) (fun _ z => nomatch z) h
theorem Le.sq {G G' : Hp} (l : Le G G') {K : PySem.W.Frag} {a : Addr} {vs : List V} (h : SqL K G a vs) : SqL K G' a vs := by
  rcases h with h | h
  · exact .inl (l.rd _ _ h)
  · exact .inr h
theorem pre_get {as : List Addr} (more : List Addr) {j : Nat} {a : Addr} (h : as[j]? = some a) : (as ++ more)[j]? = some a := by
  rw [List.getElem?_append_left (List.getElem?_eq_some_iff.mp h).1]; exact h
section
variable {as : List Addr} {K : PySem.W.Frag} {G G' : Hp}
mutual
theorem Tr.mono (l : Le G G') (more : List Addr) : ∀ {v : V} {x : PV}, Tr as K G v x → Tr (as ++ more) K G' v x
  | _, _, .non => .non
  | _, _, .bl b => .bl b
  | _, _, .int i => .int i
  | _, _, .str s => .str s
  | _, _, .tup h t => .tup (l.tup h) (TrS.mono l more t)
  | _, _, .lst h t => .lst (l.lst h) (TrS.mono l more t)
  | _, _, .dK h t => .dK (l.rd _ _ h) (TrK.mono l more t)
  | _, _, .dT h t => .dT (l.rd _ _ h) (TrT.mono l more t)
  | _, _, .shr h => .shr (pre_get more h)
  | _, _, .scr h => .scr (l.sq h)
theorem TrS.mono (l : Le G G') (more : List Addr) : ∀ {vs : List V} {xs : List PV}, TrS as K G vs xs → TrS (as ++ more) K G' vs xs
  | _, _, .nil => .nil
  | _, _, .cons h t => .cons (Tr.mono l more h) (TrS.mono l more t)
theorem TrK.mono (l : Le G G') (more : List Addr) : ∀ {vs : List (Key × V)} {xs : List (PV × PV)}, TrK as K G vs xs → TrK (as ++ more) K G' vs xs
  | _, _, .nil => .nil
  | _, _, .cons h t => .cons (Tr.mono l more h) (TrK.mono l more t)
theorem TrT.mono (l : Le G G') (more : List Addr) : ∀ {vs : List (List Key × V)} {xs : List (PV × PV)}, TrT as K G vs xs → TrT (as ++ more) K G' vs xs
  | _, _, .nil => .nil
  | _, _, .cons h t => .cons (Tr.mono l more h) (TrT.mono l more t)
end
theorem Tr.up (l : Le G G') {v : V} {x : PV} (h : Tr as K G v x) : Tr as K G' v x := by simpa using h.mono l []
theorem TrS.up (l : Le G G') {v : List V} {x : List PV} (h : TrS as K G v x) : TrS as K G' v x := by simpa using h.mono l []
theorem TrK.up (l : Le G G') {v : List (Key × V)} {x : List (PV × PV)} (h : TrK as K G v x) : TrK as K G' v x := by simpa using h.mono l []
theorem TrT.up (l : Le G G') {v : List (List Key × V)} {x : List (PV × PV)} (h : TrT as K G v x) : TrT as K G' v x := by simpa using h.mono l []
theorem TrS.len : ∀ {vs : List V} {xs : List PV}, TrS as K G vs xs → vs.length = xs.length
  | _, _, .nil => rfl
  | _, _, .cons _ t => congrArg Nat.succ (TrS.len t)
theorem TrK.len : ∀ {vs : List (Key × V)} {xs : List (PV × PV)}, TrK as K G vs xs → vs.length = xs.length
  | _, _, .nil => rfl
  | _, _, .cons _ t => congrArg Nat.succ (TrK.len t)
theorem TrT.len : ∀ {vs : List (List Key × V)} {xs : List (PV × PV)}, TrT as K G vs xs → vs.length = xs.length
  | _, _, .nil => rfl
  | _, _, .cons _ t => congrArg Nat.succ (TrT.len t)
theorem TrS.get : ∀ {vs : List V} {xs : List PV} {j : Nat} {x : PV}, TrS as K G vs xs → xs[j]? = some x → ∃ v, vs[j]? = some v ∧ Tr as K G v x
  | _, _, _, _, .nil, h => by simp at h
  | _, _, 0, x, .cons h t, e => by
    simp at e; subst e; exact ⟨_, rfl, h⟩
  | _, _, j + 1, x, .cons h t, e => by
    obtain ⟨v, e1, e2⟩ := TrS.get t (j := j) (by simpa using e)
    exact ⟨v, by simpa using e1, e2⟩
theorem TrS.getV : ∀ {vs : List V} {xs : List PV} {j : Nat} {v : V}, TrS as K G vs xs → vs[j]? = some v → ∃ x, xs[j]? = some x ∧ Tr as K G v x
  | _, _, _, _, .nil, h => by simp at h
  | _, _, 0, v, .cons h t, e => by
    simp at e; subst e; exact ⟨_, rfl, h⟩
  | _, _, j + 1, v, .cons h t, e => by
    obtain ⟨x, e1, e2⟩ := TrS.getV t (j := j) (by simpa using e)
    exact ⟨x, by simpa using e1, e2⟩
theorem TrS.app : ∀ {vs ws : List V} {xs ys : List PV}, TrS as K G vs xs → TrS as K G ws ys → TrS as K G (vs ++ ws) (xs ++ ys)
  | _, _, _, _, .nil, t => t
  | _, _, _, _, .cons h r, t => .cons h (TrS.app r t)
theorem TrS.take (n : Nat) : ∀ {vs : List V} {xs : List PV}, TrS as K G vs xs → TrS as K G (vs.take n) (xs.take n) := by
  induction n with
  | zero => intro vs xs _; simp; exact .nil
  | succ n ih =>
    intro vs xs h
    cases h with
    | nil => exact .nil
    | cons h t => exact .cons h (ih t)
theorem TrS.drop (n : Nat) : ∀ {vs : List V} {xs : List PV}, TrS as K G vs xs → TrS as K G (vs.drop n) (xs.drop n) := by
  induction n with
  | zero => intro vs xs h; exact h
  | succ n ih =>
    intro vs xs h
    cases h with
    | nil => exact .nil
    | cons h t => exact ih t
theorem TrS.rev : ∀ {vs : List V} {xs : List PV}, TrS as K G vs xs → TrS as K G vs.reverse xs.reverse
  | _, _, .nil => .nil
  | _, _, .cons h t => by
    rw [List.reverse_cons, List.reverse_cons]
    exact (TrS.rev t).app (.cons h .nil)
theorem TrS.set (n : Nat) {v : V} {x : PV} (hv : Tr as K G v x) : ∀ {vs : List V} {xs : List PV}, TrS as K G vs xs → TrS as K G (vs.set n v) (xs.set n x) := by
  induction n with
  | zero =>
    intro vs xs h
    cases h with
    | nil => exact .nil
    | cons h t => exact .cons hv t
  | succ n ih =>
    intro vs xs h
    cases h with
    | nil => exact .nil
    | cons h t => exact .cons h (ih t)
theorem TrS.rep {vs : List V} {xs : List PV} (h : TrS as K G vs xs) : ∀ k : Nat, TrS as K G (List.replicate k vs).flatten (List.replicate k xs).flatten
  | 0 => by simp; exact .nil
  | k + 1 => by
    rw [List.replicate_succ, List.replicate_succ, List.flatten_cons, List.flatten_cons]
    exact h.app (TrS.rep h k)
theorem TrS.cut {vs : List V} {xs : List PV} (h : TrS as K G vs xs) (lo hi : Option Int) : TrS as K G (cutL vs lo hi) (cutL xs lo hi) := by
  unfold cutL
  rw [h.len]
  exact (h.drop _).take _
theorem TrS.ints {as : List Addr} : ∀ (ns : List Int), TrS as K G (ns.map V.int) (ns.map PV.int)
  | [] => .nil
  | _ :: r => .cons (.int _) (TrS.ints r)
end

/-! ### the world: what is shared -/
/-- the object at a holds x by itself -/
def OwnO (as : List Addr) (K : PySem.W.Frag) (G H : Hp) (a : Addr) : PV → Prop
  | .lst xs => ∃ vs, H a = some (.lst vs) ∧ TrS as K G vs xs
  | .dct t kvs => (t = 0 ∧ ∃ ks, H a = some (.dK ks) ∧ TrK as K G ks kvs) ∨ (t = 1 ∧ ∃ ks, H a = some (.dT ks) ∧ TrT as K G ks kvs)
  | _ => False
/-- .. or is locked meanwhile -/
def OwnR (as : List Addr) (K : PySem.W.Frag) (G H : Hp) (a : Addr) : PV → Prop
  | .lst xs => ∃ vs, H a = some (.lst vs) ∧ TrS as K G vs xs
  | .dct t kvs => (t = 0 ∧ ∃ ks, Rd H a (.dK ks) ∧ TrK as K G ks kvs) ∨ (t = 1 ∧ ∃ ks, Rd H a (.dT ks) ∧ TrT as K G ks kvs)
  | _ => False
def OwnS (as : List Addr) (K : PySem.W.Frag) (G H : Hp) (a : Addr) : PV → Prop
  | .lck x => OwnR as K G H a x
  | x => OwnO as K G H a x
theorem OwnO.r {as : List Addr} {K : PySem.W.Frag} {G H : Hp} {a : Addr} {x : PV} (h : OwnO as K G H a x) : OwnR as K G H a x := by
  cases x with
  | lst xs => exact h
  | dct t kvs =>
    rcases h with ⟨e, ks, h1, h2⟩ | ⟨e, ks, h1, h2⟩
    · exact .inl ⟨e, ks, .inl h1, h2⟩
    · exact .inr ⟨e, ks, .inl h1, h2⟩
  | _ => exact h
theorem OwnO.up {as : List Addr} {K : PySem.W.Frag} {G H G' H' : Hp} {a : Addr} {x : PV} (l : Le G G') (e : H' a = H a) (more : List Addr) (h : OwnO as K G H a x) : OwnO (as ++ more) K G' H' a x := by
  cases x with
  | lst xs =>
    obtain ⟨vs, h1, h2⟩ := h
    exact ⟨vs, e.trans h1, h2.mono l more⟩
  | dct t kvs =>
    rcases h with ⟨et, ks, h1, h2⟩ | ⟨et, ks, h1, h2⟩
    · exact .inl ⟨et, ks, e.trans h1, h2.mono l more⟩
    · exact .inr ⟨et, ks, e.trans h1, h2.mono l more⟩
  | _ => exact h
theorem rd_at {H H' : Hp} {a : Addr} {u : HO} (e : H' a = H a) (h : Rd H a u) : Rd H' a u := by
  rcases h with h | ⟨o, h⟩
  · exact .inl (e.trans h)
  · exact .inr ⟨o, e.trans h⟩
theorem OwnR.up {as : List Addr} {K : PySem.W.Frag} {G H G' H' : Hp} {a : Addr} {x : PV} (l : Le G G') (e : H' a = H a) (more : List Addr) (h : OwnR as K G H a x) : OwnR (as ++ more) K G' H' a x := by
  cases x with
  | lst xs =>
    obtain ⟨vs, h1, h2⟩ := h
    exact ⟨vs, e.trans h1, h2.mono l more⟩
  | dct t kvs =>
    rcases h with ⟨et, ks, h1, h2⟩ | ⟨et, ks, h1, h2⟩
    · exact .inl ⟨et, ks, rd_at e h1, h2.mono l more⟩
    · exact .inr ⟨et, ks, rd_at e h1, h2.mono l more⟩
  | _ => exact h
theorem OwnS.up {as : List Addr} {K : PySem.W.Frag} {G H G' H' : Hp} {a : Addr} {x : PV} (l : Le G G') (e : H' a = H a) (more : List Addr) (h : OwnS as K G H a x) : OwnS (as ++ more) K G' H' a x := by
  cases x with
  | lck y => exact OwnR.up (x := y) l e more h
  | lst xs => exact OwnO.up (x := .lst xs) l e more h
  | dct t kvs => exact OwnO.up (x := .dct t kvs) l e more h
  | _ => exact h
theorem OwnO.some {as : List Addr} {K : PySem.W.Frag} {G H : Hp} {a : Addr} {x : PV} (h : OwnO as K G H a x) : H a ≠ none := by
  cases x with
  | lst xs => obtain ⟨vs, h1, _⟩ := h; rw [h1]; exact fun z => nomatch z
  | dct t kvs =>
    rcases h with ⟨_, ks, h1, _⟩ | ⟨_, ks, h1, _⟩
    · rw [h1]; exact fun z => nomatch z
    · rw [h1]; exact fun z => nomatch z
  | _ => exact absurd h id
theorem rd_some {H : Hp} {a : Addr} {u : HO} (h : Rd H a u) : H a ≠ none := by
  rcases h with h | ⟨o, h⟩ <;> rw [h] <;> exact fun z => nomatch z
theorem OwnR.some {as : List Addr} {K : PySem.W.Frag} {G H : Hp} {a : Addr} {x : PV} (h : OwnR as K G H a x) : H a ≠ none := by
  cases x with
  | lst xs => obtain ⟨vs, h1, _⟩ := h; rw [h1]; exact fun z => nomatch z
  | dct t kvs =>
    rcases h with ⟨_, ks, h1, _⟩ | ⟨_, ks, h1, _⟩
    · exact rd_some h1
    · exact rd_some h1
  | _ => exact absurd h id
theorem OwnS.some {as : List Addr} {K : PySem.W.Frag} {G H : Hp} {a : Addr} {x : PV} (h : OwnS as K G H a x) : H a ≠ none := by
  cases x with
  | lck y => exact OwnR.some (x := y) h
  | lst xs => exact OwnO.some (x := .lst xs) h
  | dct t kvs => exact OwnO.some (x := .dct t kvs) h
  | _ => exact absurd h id

structure Wd (as : List Addr) (K : PySem.W.Frag) (G H : Hp) (D : DS) : Prop where
  sub : ∀ b o, G b = some o → H b = some o
  nd : as.Nodup
  len : as.length = D.length
  off : ∀ a ∈ as, G a = none
  sh : ∀ (j : Nat) (a : Addr) (x : PV), as[j]? = some a → D[j]? = some x → OwnS as K G H a x
/-- a step: nothing but the shared objects has changed; what is new of G is new -/
structure Stp (as : List Addr) (G H G' H' : Hp) : Prop where
  le : Le G G'
  nw : ∀ b, G' b ≠ none → G b ≠ none ∨ H b = none
  kp : ∀ b o, b ∉ as → H b = some o → H' b = some o
  sm : ∀ b, H b ≠ none → H' b ≠ none
theorem Stp.refl (as : List Addr) (G H : Hp) : Stp as G H G H := ⟨Le.refl G, fun _ h => .inl h, fun _ _ _ h => h, fun _ h => h⟩
theorem Stp.trans {as : List Addr} {G H G1 H1 G2 H2 : Hp} (a : Stp as G H G1 H1) (b : Stp as G1 H1 G2 H2) : Stp as G H G2 H2 :=
  ⟨a.le.trans b.le, fun c h => by
    rcases b.nw c h with h | h
    · exact a.nw c h
    · right
      cases e : H c with
      | none => rfl
      | some o => exact absurd h (a.sm c (by rw [e]; exact fun z => nomatch z)),
   fun c o hc h => b.kp c o hc (a.kp c o hc h), fun c h => b.sm c (a.sm c h)⟩
/-- a new object, told by G too -/
theorem Stp.new {as : List Addr} {G H : Hp} {p : Addr} {o : HO} (hp : H p = none) (hG : G p = none) : Stp as G H (upd G p o) (upd H p o) :=
  ⟨Le.of fun b u h => by rw [upd_ne (ne_of_none h hG)]; exact h, fun b h => by
    by_cases e : b = p
    · right; rw [e]; exact hp
    · left; rwa [upd_ne e] at h, fun b u _ h => by rw [upd_ne (ne_of_none h hp)]; exact h, fun b h => by
    by_cases e : b = p
    · rw [e, upd_same]; exact fun z => nomatch z
    · rw [upd_ne e]; exact h⟩
/-- a new object that G does not tell -/
theorem Stp.own {as : List Addr} {G H : Hp} {p : Addr} {o : HO} (hp : H p = none) : Stp as G H G (upd H p o) :=
  ⟨Le.refl G, fun _ h => .inl h, fun b u _ h => by rw [upd_ne (ne_of_none h hp)]; exact h, fun b h => by
    by_cases e : b = p
    · rw [e, upd_same]; exact fun z => nomatch z
    · rw [upd_ne e]; exact h⟩
section
variable {as : List Addr} {K : PySem.W.Frag} {G H : Hp} {D : DS} {p : Addr} {o : HO}
theorem Wd.free (w : Wd as K G H D) (hp : H p = none) : G p = none := by
  cases e : G p with
  | none => rfl
  | some u => rw [w.sub p u e] at hp; cases hp
theorem Wd.offp (w : Wd as K G H D) (hp : H p = none) : p ∉ as := fun hm => by
  obtain ⟨j, hj⟩ := List.getElem?_of_mem hm
  have hl := (List.getElem?_eq_some_iff.mp hj).1
  have hl2 : j < D.length := by rw [← w.len]; exact hl
  exact (w.sh j p D[j] hj (List.getElem?_eq_getElem hl2)).some hp
theorem Wd.new (w : Wd as K G H D) (hp : H p = none) : Wd as K (upd G p o) (upd H p o) D where
  sub := fun b u h => by
    by_cases e : b = p
    · rw [e, upd_same] at h ⊢; exact h
    · rw [upd_ne e] at h ⊢; exact w.sub b u h
  nd := w.nd
  len := w.len
  off := fun a ha => by rw [upd_ne fun e => w.offp hp (by rw [← e]; exact ha)]; exact w.off a ha
  sh := fun j a x h1 h2 => by
    have ha : a ≠ p := fun e => w.offp hp (by rw [← e]; exact List.mem_of_getElem? h1)
    have := (w.sh j a x h1 h2).up (G' := upd G p o) (H' := upd H p o) (Le.of fun b u h => by rw [upd_ne (ne_of_none h (w.free hp))]; exact h) (upd_ne ha) []
    simpa using this
theorem Wd.ownp (w : Wd as K G H D) (hp : H p = none) : Wd as K G (upd H p o) D where
  sub := fun b u h => by rw [upd_ne (ne_of_none h (w.free hp))]; exact w.sub b u h
  nd := w.nd
  len := w.len
  off := w.off
  sh := fun j a x h1 h2 => by
    have ha : a ≠ p := fun e => w.offp hp (by rw [← e]; exact List.mem_of_getElem? h1)
    have := (w.sh j a x h1 h2).up (G' := G) (H' := upd H p o) (Le.refl G) (upd_ne ha) []
    simpa using this
end

/-! ### the slots -/
structure Rp (as : List Addr) (K : PySem.W.Frag) (G H : Hp) (σ : L2.St) (ρ : Envi) : Prop where
  len : σ.length = ρ.length
  frz : ∀ (i : Nat) (x : PV), ρ[i]? = some (some (false, x)) → ∃ v, σ[i]? = some (some v) ∧ Tr as K G v x
  own : ∀ (i : Nat) (x : PV), ρ[i]? = some (some (true, x)) → ∃ a, σ[i]? = some (some (.ref a)) ∧ G a = none ∧ a ∉ as ∧ OwnR as K G H a x
  dis : ∀ (i j : Nat) (x y : PV) (a : Addr), ρ[i]? = some (some (true, x)) → ρ[j]? = some (some (true, y)) → σ[i]? = some (some (.ref a)) → σ[j]? = some (some (.ref a)) → i = j
/-- none of the slots' own objects is locked -/
def Pln (as : List Addr) (K : PySem.W.Frag) (G H : Hp) (σ : L2.St) (ρ : Envi) : Prop :=
  ∀ (i : Nat) (x : PV) (a : Addr), ρ[i]? = some (some (true, x)) → σ[i]? = some (some (.ref a)) → OwnO as K G H a x
theorem Rp.up {as : List Addr} {K : PySem.W.Frag} {G H G' H' : Hp} {σ : L2.St} {ρ : Envi} (r : Rp as K G H σ ρ) (st : Stp as G H G' H') : Rp as K G' H' σ ρ where
  len := r.len
  frz := fun i x h => by
    obtain ⟨v, e, t⟩ := r.frz i x h
    exact ⟨v, e, t.up st.le⟩
  own := fun i x h => by
    obtain ⟨a, e, g, n, o⟩ := r.own i x h
    have hs := o.some
    refine ⟨a, e, ?_, n, ?_⟩
    · cases q : G' a with
      | none => rfl
      | some u =>
        rcases st.nw a (by rw [q]; exact fun z => nomatch z) with z | z
        · exact absurd g z
        · exact absurd z hs
    · cases q : H a with
      | none => exact absurd q hs
      | some u =>
        have := o.up (G' := G') (H' := H') st.le ((st.kp a u n q).trans q.symm) []
        simpa using this
  dis := r.dis
theorem Pln.up {as : List Addr} {K : PySem.W.Frag} {G H G' H' : Hp} {σ : L2.St} {ρ : Envi} (r : Rp as K G H σ ρ) (p : Pln as K G H σ ρ) (st : Stp as G H G' H') : Pln as K G' H' σ ρ := fun i x a h1 h2 => by
  obtain ⟨b, e, g, n, o⟩ := r.own i x h1
  have e2 : a = b := by
    rw [e] at h2
    cases h2; rfl
  subst e2
  have o2 := p i x a h1 h2
  cases q : H a with
  | none => exact absurd q o2.some
  | some u =>
    have := o2.up (G' := G') (H' := H') st.le ((st.kp a u n q).trans q.symm) []
    simpa using this

/-- an operand: a tree, or what a slot holds by itself -/
def TrO (as : List Addr) (K : PySem.W.Frag) (G H : Hp) (v : V) (x : PV) : Prop :=
  Tr as K G v x ∨ ∃ a, v = .ref a ∧ G a = none ∧ a ∉ as ∧ OwnR as K G H a x
theorem TrO.up {as : List Addr} {K : PySem.W.Frag} {G H G' H' : Hp} {v : V} {x : PV} (r : TrO as K G H v x) (st : Stp as G H G' H') : TrO as K G' H' v x := by
  rcases r with t | ⟨a, e, g, n, o⟩
  · exact .inl (t.up st.le)
  · have hs := o.some
    refine .inr ⟨a, e, ?_, n, ?_⟩
    · cases q : G' a with
      | none => rfl
      | some u =>
        rcases st.nw a (by rw [q]; exact fun z => nomatch z) with z | z
        · exact absurd g z
        · exact absurd z hs
    · cases q : H a with
      | none => exact absurd q hs
      | some u =>
        have := o.up (G' := G') (H' := H') st.le ((st.kp a u n q).trans q.symm) []
        simpa using this
/-- how an operand is read: shared objects by what they hold -/
def TrR (as : List Addr) (K : PySem.W.Frag) (G H : Hp) (v : V) (x : PV) : Prop :=
  Tr as K G v x ∨ ∃ a, v = .ref a ∧ OwnR as K G H a x
theorem TrO.r {as : List Addr} {K : PySem.W.Frag} {G H : Hp} {v : V} {x : PV} (r : TrO as K G H v x) : TrR as K G H v x := by
  rcases r with t | ⟨a, e, _, _, o⟩
  · exact .inl t
  · exact .inr ⟨a, e, o⟩
theorem TrO.opd {as : List Addr} {K : PySem.W.Frag} {G H : Hp} {D : DS} {v : V} {x y : PV} (w : Wd as K G H D) (r : TrO as K G H v x) (h : opd D x = some y) : TrR as K G H v y := by
  have other : ∀ z, MP.opd D x = some z → (∀ j, x ≠ .shr j) → z = x := fun z hz hn => by
    cases x <;> first | (exact absurd rfl (hn _)) | (unfold MP.opd at hz; cases hz; rfl)
  by_cases hx : ∃ j, x = .shr j
  · obtain ⟨j, rfl⟩ := hx
    have hD : ∃ z, D[j]? = some z ∧ y = (match z with | .lck t => t | t => t) := by
      have h' : (D[j]?).map (fun x => match x with | PV.lck y => y | y => y) = some y := h
      cases q : D[j]? with
      | none => rw [q] at h'; cases h'
      | some z => rw [q] at h'; cases h'; exact ⟨z, rfl, rfl⟩
    obtain ⟨z, hz, rfl⟩ := hD
    rcases r with t | ⟨a, e, _, _, o⟩
    · cases t with
      | shr ha =>
        have s := w.sh j _ z ha hz
        refine .inr ⟨_, rfl, ?_⟩
        cases z with
        | lck t => exact s
        | lst xs => exact OwnO.r (x := .lst xs) s
        | dct t kvs => exact OwnO.r (x := .dct t kvs) s
        | _ => exact absurd s id
    · exact absurd o id
  · have := other y h fun j e => hx ⟨j, e⟩
    subst this
    exact r.r
end MP

/-! MP ops: the operators by values. -/
namespace MP
open PySem PySem.Spec PyProof.Rows L2

theorem line_lim {n : Nat} (h : n ≤ LIM) : n ≤ sizeLine := by rw [sizeLine_eq]; have : LIM = 1000000 := rfl; omega
/-- what is wanted of a value that is z -/
def Fin_ (as : List Addr) (K : PySem.W.Frag) (G H : Hp) (D : DS) (z : PV) (Q : VK) : Prop := ∀ v G' H', Stp as G H G' H' → Wd as K G' H' D → Tr as K G' v z → Q v H'
section
variable {as : List Addr} {K : PySem.W.Frag} {G H : Hp} {D : DS} {x y : V} {z : PV} {Q : VK}
theorem Fin_.same (f : Fin_ as K G H D z Q) (w : Wd as K G H D) {v : V} (t : Tr as K G v z) : Q v H := f v G H (Stp.refl as G H) w t
theorem Fin_.new (f : Fin_ as K G H D z Q) (w : Wd as K G H D) {p : Addr} {o : HO} (hp : H p = none) (t : Tr as K (upd G p o) (.ref p) z) : Q (.ref p) (upd H p o) :=
  f _ _ _ (Stp.new hp (w.free hp)) (w.new hp) t
theorem le_new {p : Addr} {o : HO} (hG : G p = none) : Le G (upd G p o) := Le.of fun b u h => by rw [upd_ne (ne_of_none h hG)]; exact h
/-- what is wanted of a new object that is z: G does not tell it -/
def FinF (as : List Addr) (K : PySem.W.Frag) (G H : Hp) (D : DS) (z : PV) (Q : VK) : Prop := ∀ p o, H p = none → OwnO as K G (upd H p o) p z → Q (.ref p) (upd H p o)
theorem OwnO.tell {p : Addr} {o : HO} (hp : H p = none) (w : Wd as K G H D) (h : OwnO as K G (upd H p o) p z) : Tr as K (upd G p o) (.ref p) z := by
  have l : Le G (upd G p o) := le_new (w.free hp)
  cases z with
  | lst xs =>
    obtain ⟨vs, h1, h2⟩ := h
    rw [upd_same] at h1
    cases h1
    exact .lst upd_same (h2.up l)
  | dct t kvs =>
    rcases h with ⟨rfl, ks, h1, h2⟩ | ⟨rfl, ks, h1, h2⟩
    · rw [upd_same] at h1
      cases h1
      exact .dK (.of upd_same) (h2.up l)
    · rw [upd_same] at h1
      cases h1
      exact .dT (.of upd_same) (h2.up l)
  | _ => exact absurd h id
theorem Fin_.toF (w : Wd as K G H D) (f : Fin_ as K G H D z Q) : FinF as K G H D z Q := fun p o hp h => f _ _ _ (Stp.new hp (w.free hp)) (w.new hp) (h.tell hp w)
theorem TrR.int {i : Int} (r : TrR as K G H x (.int i)) : x = .int i := by
  rcases r with t | ⟨a, _, o⟩
  · cases t; rfl
  · exact absurd o id
theorem TrR.bl {i : Bool} (r : TrR as K G H x (.bl i)) : x = .bl i := by
  rcases r with t | ⟨a, _, o⟩
  · cases t; rfl
  · exact absurd o id
theorem TrR.non (r : TrR as K G H x .non) : x = .non := by
  rcases r with t | ⟨a, _, o⟩
  · cases t; rfl
  · exact absurd o id
theorem TrR.str {i : Str} (r : TrR as K G H x (.str i)) : x = .str i := by
  rcases r with t | ⟨a, _, o⟩
  · cases t; rfl
  · exact absurd o id
theorem TrR.lst {xs : List PV} (w : Wd as K G H D) (r : TrR as K G H x (.lst xs)) : ∃ a vs, x = .ref a ∧ H a = some (.lst vs) ∧ TrS as K G vs xs := by
  rcases r with t | ⟨a, e, vs, h, t⟩
  · cases t with
    | lst h t => exact ⟨_, _, rfl, w.sub _ _ h, t⟩
  · exact ⟨a, vs, e, h, t⟩
theorem TrR.tup {xs : List PV} (w : Wd as K G H D) (r : TrR as K G H x (.tup xs)) : ∃ a vs, x = .ref a ∧ H a = some (.tup vs) ∧ G a = some (.tup vs) ∧ TrS as K G vs xs := by
  rcases r with t | ⟨a, _, o⟩
  · cases t with
    | tup h t => exact ⟨_, _, rfl, w.sub _ _ h, h, t⟩
  · exact absurd o id
theorem rd_sub (w : Wd as K G H D) {a : Addr} {u : HO} (h : Rd G a u) : Rd H a u := by
  rcases h with h | ⟨o, h⟩
  · exact .inl (w.sub _ _ h)
  · exact .inr ⟨o, w.sub _ _ h⟩
theorem TrR.dct {t : Nat} {xs : List (PV × PV)} (w : Wd as K G H D) (r : TrR as K G H x (.dct t xs)) :
    (t = 0 ∧ ∃ a ks, x = .ref a ∧ Rd H a (.dK ks) ∧ TrK as K G ks xs) ∨ (t = 1 ∧ ∃ a ks, x = .ref a ∧ Rd H a (.dT ks) ∧ TrT as K G ks xs) := by
  rcases r with t | ⟨a, e, o⟩
  · cases t with
    | dK h t => exact .inl ⟨rfl, _, _, rfl, rd_sub w h, t⟩
    | dT h t => exact .inr ⟨rfl, _, _, rfl, rd_sub w h, t⟩
  · rcases o with ⟨e1, ks, h, t⟩ | ⟨e1, ks, h, t⟩
    · exact .inl ⟨e1, a, ks, e, h, t⟩
    · exact .inr ⟨e1, a, ks, e, h, t⟩
theorem TrR.scr {ns : List Int} (w : Wd as K G H D) (r : TrR as K G H x (.scr ns)) : ∃ a, x = .ref a ∧ SqL K H a (ns.map V.int) := by
  rcases r with t | ⟨a, _, o⟩
  · cases t with
    | scr h =>
      refine ⟨_, rfl, ?_⟩
      rcases h with h | h
      · exact .inl (rd_sub w h)
      · exact .inr h
  · exact absurd o id
end

def boT : Bo → Operator
  | .add => .Add | .sub => .Sub | .mul => .Mult | .div => .FloorDiv | .mod => .Mod | .pow => .Pow | .shr => .RShift | .shl => .LShift | .band => .BitAnd | .cat => .Add | .rep => .Mult
def rBinM (K : PySem.W.Frag) (op : Bo) : R2 := fun x y H Q => ∃ as G D px py z, Wd as K G H D ∧ TrR as K G H x px ∧ TrR as K G H y py ∧ pBin op px py = some z ∧ Fin_ as K G H D z Q
section
variable {X : Cx}
/-- t * k of any size: as far as it is served -/
theorem rep_small {α : Type} (xs : List α) (k : Int) (h : k ≤ 1) : (List.replicate k.toNat xs).flatten = if k = 1 then xs else [] := by
  by_cases e : k = 1
  · subst e; simp
  · have : k.toNat = 0 := by omega
    rw [this]; simp [e]
theorem op_binM (op : Bo) : OpR X (binaryOp (boT op)) (rBinM X.K op) := by
  intro pins s σ H x y v u Q I rx ry h
  obtain ⟨as, G, D, px, py, z, w, hx, hy, e, f⟩ := h
  cases op with
  | add =>
    cases px <;> cases py <;> try (cases e; done)
    case int.int a b =>
      cases e
      obtain rfl := hx.int
      obtain rfl := hy.int
      exact op_add pins s σ H _ _ v u Q I rx ry ⟨_, _, rfl, rfl, f.same w (.int _)⟩
    case str.str a b =>
      obtain rfl := hx.str
      obtain rfl := hy.str
      have e' : (if a.length + b.length ≤ LIM then some (PV.str (a ++ b)) else none) = some z := e
      split at e'
      · rename_i hl
        cases e'
        exact op_add_str pins s σ H _ _ v u Q I rx ry ⟨_, _, rfl, rfl, line_lim hl, f.same w (.str _)⟩
      · cases e'
    case lst.lst a b =>
      obtain ⟨p, vs, rfl, h1, t1⟩ := hx.lst w
      obtain ⟨q, ws, rfl, h2, t2⟩ := hy.lst w
      have e' : (if a.length + b.length ≤ LIM then some (PV.lst (a ++ b)) else none) = some z := e
      split at e'
      · rename_i hl
        cases e'
        refine op_cat pins s σ H _ _ v u Q I rx ry ⟨_, _, _, _, rfl, rfl, h1, h2, by rw [t1.len, t2.len]; exact line_lim hl, fun r hr => ?_⟩
        exact f.new w hr (.lst upd_same ((t1.app t2).up (le_new (w.free hr))))
      · cases e'
    case tup.tup a b =>
      obtain ⟨p, vs, rfl, h1, g1, t1⟩ := hx.tup w
      obtain ⟨q, ws, rfl, h2, g2, t2⟩ := hy.tup w
      have e' : (if a.length + b.length ≤ LIM then some (PV.tup (a ++ b)) else none) = some z := e
      split at e'
      · rename_i hl
        cases e'
        refine op_catA pins s σ H _ _ v u Q I rx ry ⟨_, _, _, _, rfl, rfl, .of h1, .of h2, by rw [t1.len, t2.len]; exact line_lim hl, fun n1 => ?_, fun _ n2 => ?_, fun _ _ r hr => ?_⟩
        · subst n1
          cases t1
          exact f.same w (.tup g2 t2)
        · subst n2
          cases t2
          rw [List.append_nil] at f
          exact f.same w (.tup g1 t1)
        · exact f.new w hr (.tup upd_same ((t1.app t2).up (le_new (w.free hr))))
      · cases e'
  | sub =>
    cases px <;> cases py <;> try (cases e; done)
    case int.int a b =>
      cases e
      obtain rfl := hx.int
      obtain rfl := hy.int
      exact op_sub pins s σ H _ _ v u Q I rx ry ⟨_, _, rfl, rfl, f.same w (.int _)⟩
  | mul =>
    cases px <;> cases py <;> try (cases e; done)
    case int.int a b =>
      obtain rfl := hx.int
      obtain rfl := hy.int
      have e' : (if (-two64 < a ∧ a < two64) ∨ (-two64 < b ∧ b < two64) then some (PV.int (a * b)) else none) = some z := e
      split at e'
      · rename_i hl
        cases e'
        exact op_mul pins s σ H _ _ v u Q I rx ry ⟨_, _, rfl, rfl, hl, f.same w (.int _)⟩
      · cases e'
    case lst.int a k =>
      obtain ⟨p, vs, rfl, h1, t1⟩ := hx.lst w
      obtain rfl := hy.int
      have e' : (if a.length * k.toNat ≤ LIM ∧ k ≤ LIM ∧ -LIM ≤ k then some (PV.lst (List.replicate k.toNat a).flatten) else none) = some z := e
      split at e'
      · rename_i hl
        obtain ⟨l1, l2, l3⟩ := hl
        have : ((LIM : Nat) : Int) = 1000000 := rfl
        cases e'
        refine op_rep pins s σ H _ _ v u Q I rx ry ⟨_, _, _, rfl, rfl, h1, by omega, by omega, by rw [t1.len]; exact line_lim l1, fun r hr => ?_⟩
        exact f.new w hr (.lst upd_same ((t1.rep _).up (le_new (w.free hr))))
      · cases e'
    case tup.int a k =>
      obtain ⟨p, vs, rfl, h1, g1, t1⟩ := hx.tup w
      obtain rfl := hy.int
      have e' : (if a.length ≠ 0 ∧ 1 ≤ k ∧ k ≤ 1000 ∧ a.length ≤ 1000 then some (PV.tup (List.replicate k.toNat a).flatten) else none) = some z := e
      split at e'
      · rename_i hl
        obtain ⟨l1, l2, l3, l4⟩ := hl
        cases e'
        have hne : vs ≠ [] := fun z => by
          have := t1.len
          rw [z] at this
          exact l1 this.symm
        by_cases h2 : k = 1
        · subst h2
          refine op_rep1 pins s σ H _ _ v u Q I rx ry ⟨_, _, rfl, rfl, .of h1, ?_⟩
          have e : (List.replicate (1 : Int).toNat a).flatten = a := by simp
          rw [e] at f
          exact f.same w (.tup g1 t1)
        · refine op_repT pins s σ H _ _ v u Q I rx ry ⟨_, _, _, rfl, rfl, .of h1, hne, by omega, l3, by rw [t1.len]; exact l4, fun r hr => ?_⟩
          exact f.new w hr (.tup upd_same ((t1.rep _).up (le_new (w.free hr))))
      · cases e'
  | div =>
    cases px <;> cases py <;> try (cases e; done)
    case int.int a b =>
      obtain rfl := hx.int
      obtain rfl := hy.int
      have e' : (if b ≠ 0 ∧ b.natAbs < 1073741824 then some (PV.int (a.fdiv b)) else none) = some z := e
      split at e'
      · rename_i hl
        cases e'
        exact op_fdivN pins s σ H _ _ v u Q I rx ry ⟨_, _, rfl, rfl, hl, f.same w (.int _)⟩
      · cases e'
  | mod =>
    cases px <;> cases py <;> try (cases e; done)
    case int.int a b =>
      obtain rfl := hx.int
      obtain rfl := hy.int
      have e' : (if b ≠ 0 then some (PV.int (a.fmod b)) else none) = some z := e
      split at e'
      · rename_i hl
        cases e'
        exact op_modN pins s σ H _ _ v u Q I rx ry ⟨_, _, rfl, rfl, hl, f.same w (.int _)⟩
      · cases e'
  | pow =>
    cases px <;> cases py <;> try (cases e; done)
    case int.int a b =>
      obtain rfl := hx.int
      obtain rfl := hy.int
      have e' : (if 0 ≤ b ∧ b ≤ 1000 ∧ a.natAbs < 1000000 then some (PV.int (a ^ b.toNat)) else none) = some z := e
      split at e'
      · rename_i hl
        cases e'
        exact op_pow pins s σ H _ _ v u Q I rx ry ⟨_, _, rfl, rfl, ⟨hl.1, by omega, by omega⟩, f.same w (.int _)⟩
      · cases e'
  | shl =>
    cases px <;> cases py <;> try (cases e; done)
    case int.int a b =>
      obtain rfl := hx.int
      obtain rfl := hy.int
      have e' : (if 0 ≤ b ∧ b ≤ 1000 ∧ a.natAbs < 1000000 then some (PV.int (a * 2 ^ b.toNat)) else none) = some z := e
      split at e'
      · rename_i hl
        cases e'
        exact op_shl pins s σ H _ _ v u Q I rx ry ⟨_, _, rfl, rfl, ⟨hl.1, by omega, by omega⟩, f.same w (.int _)⟩
      · cases e'
  | shr =>
    cases px <;> cases py <;> try (cases e; done)
    case int.int a b =>
      obtain rfl := hx.int
      obtain rfl := hy.int
      have e' : (if 0 ≤ b then some (PV.int (a / 2 ^ b.toNat)) else none) = some z := e
      split at e'
      · rename_i hl
        cases e'
        exact op_shr pins s σ H _ _ v u Q I rx ry ⟨_, _, rfl, rfl, hl, f.same w (.int _)⟩
      · cases e'
  | band =>
    cases px <;> cases py <;> try (cases e; done)
    case int.int a b =>
      cases e
      obtain rfl := hx.int
      obtain rfl := hy.int
      exact op_and pins s σ H _ _ v u Q I rx ry ⟨_, _, rfl, rfl, f.same w (.int _)⟩
  | cat =>
    cases px <;> cases py <;> try (cases e; done)
    case lst.lst a b =>
      obtain ⟨p, vs, rfl, h1, t1⟩ := hx.lst w
      obtain ⟨q, ws, rfl, h2, t2⟩ := hy.lst w
      have e' : (if a.length + b.length ≤ LIM then some (PV.lst (a ++ b)) else none) = some z := e
      split at e'
      · rename_i hl
        cases e'
        refine op_cat pins s σ H _ _ v u Q I rx ry ⟨_, _, _, _, rfl, rfl, h1, h2, by rw [t1.len, t2.len]; exact line_lim hl, fun r hr => ?_⟩
        exact f.new w hr (.lst upd_same ((t1.app t2).up (le_new (w.free hr))))
      · cases e'
  | rep =>
    cases px <;> cases py <;> try (cases e; done)
    case lst.int a k =>
      obtain ⟨p, vs, rfl, h1, t1⟩ := hx.lst w
      obtain rfl := hy.int
      have e' : (if a.length * k.toNat ≤ LIM ∧ k ≤ LIM ∧ -LIM ≤ k then some (PV.lst (List.replicate k.toNat a).flatten) else none) = some z := e
      split at e'
      · rename_i hl
        obtain ⟨l1, l2, l3⟩ := hl
        have : ((LIM : Nat) : Int) = 1000000 := rfl
        cases e'
        refine op_rep pins s σ H _ _ v u Q I rx ry ⟨_, _, _, rfl, rfl, h1, by omega, by omega, by rw [t1.len]; exact line_lim l1, fun r hr => ?_⟩
        exact f.new w hr (.lst upd_same ((t1.rep _).up (le_new (w.free hr))))
      · cases e'
end
end MP

/-! MP order: equality, order and membership of trees, over the library's data. -/
namespace MP
open PySem PySem.Spec PyProof.Rows L2

mutual
def toD : PV → PyData
  | .bl b => .bool b
  | .int i => .int i
  | .str s => .str s
  | .lst xs => .list (toDs xs)
  | .tup xs => .tuple (toDs xs)
  | _ => .none
def toDs : List PV → List PyData
  | [] => []
  | x :: xs => toD x :: toDs xs
end
theorem toDs_map : ∀ xs : List PV, toDs xs = xs.map toD
  | [] => by rw [toDs]; rfl
  | x :: xs => by rw [toDs, toDs_map xs]; rfl
theorem shp_all {n : Nat} {xs : List PV} (h : xs.all (shp n) = true) : ∀ x ∈ xs, shp n x = true := fun x hx => List.all_eq_true.mp h x hx
theorem shp_tup {n : Nat} {xs : List PV} : shp (n + 1) (.tup xs) = xs.all (shp n) := rfl
theorem shp_lst {n : Nat} {xs : List PV} : shp (n + 1) (.lst xs) = xs.all (shp n) := rfl
theorem shp_tup0 {xs : List PV} : shp 0 (.tup xs) = false := rfl
theorem shp_lst0 {xs : List PV} : shp 0 (.lst xs) = false := rfl
theorem shp_dct {n t : Nat} {xs} : shp n (.dct t xs) = false := by cases n <;> rfl
theorem shp_shr {n t : Nat} : shp n (.shr t) = false := by cases n <;> rfl
theorem shp_scr {n : Nat} {t} : shp n (.scr t) = false := by cases n <;> rfl
theorem shp_lck {n : Nat} {t} : shp n (.lck t) = false := by cases n <;> rfl
theorem shp_str {n : Nat} {s : Str} (h : shp n (.str s) = true) : PyData.strOk s = true := by cases n <;> exact h
mutual
theorem lay_shp : ∀ (n : Nat) (x : PV), shp n x = true → (toD x).canLay0 = true ∧ (toD x).depth ≤ n
  | n, .non, _ => by constructor <;> simp [toD, PyData.canLay0, PyData.depth]
  | n, .bl b, _ => by constructor <;> simp [toD, PyData.canLay0, PyData.depth]
  | n, .int i, _ => by constructor <;> simp [toD, PyData.canLay0, PyData.depth]
  | n, .str s, h => by
    constructor
    · simp [toD, PyData.canLay0]; exact shp_str h
    · simp [toD, PyData.depth]
  | 0, .tup xs, h => by rw [shp_tup0] at h; cases h
  | 0, .lst xs, h => by rw [shp_lst0] at h; cases h
  | n + 1, .tup xs, h => by
    rw [shp_tup] at h
    obtain ⟨h1, h2⟩ := lay_shps n xs h
    constructor
    · simp [toD, PyData.canLay0]; exact h1
    · simp [toD, PyData.depth]; exact h2
  | n + 1, .lst xs, h => by
    rw [shp_lst] at h
    obtain ⟨h1, h2⟩ := lay_shps n xs h
    constructor
    · simp [toD, PyData.canLay0]; exact h1
    · simp [toD, PyData.depth]; exact h2
  | n, .dct _ _, h => by rw [shp_dct] at h; cases h
  | n, .shr _, h => by rw [shp_shr] at h; cases h
  | n, .scr _, h => by rw [shp_scr] at h; cases h
  | n, .lck _, h => by rw [shp_lck] at h; cases h
theorem lay_shps : ∀ (n : Nat) (xs : List PV), xs.all (shp n) = true → PyData.canLayAll0 (toDs xs) = true ∧ PyData.depthAll (toDs xs) ≤ n
  | n, [], _ => by constructor <;> simp [toDs, PyData.canLayAll0, PyData.depthAll]
  | n, x :: xs, h => by
    rw [List.all_cons, Bool.and_eq_true] at h
    obtain ⟨h1, h2⟩ := lay_shp n x h.1
    obtain ⟨h3, h4⟩ := lay_shps n xs h.2
    constructor
    · simp only [toDs, PyData.canLayAll0, h1, h3, Bool.and_self]
    · simp only [toDs, PyData.depthAll]; omega
end
mutual
theorem peq_eqv : ∀ (n m : Nat) (x y : PV), shp n x = true → shp m y = true → peq x y = PyData.eqv (toD x) (toD y)
  | n, m, x, .dct _ _, _, h => by rw [shp_dct] at h; cases h
  | n, m, x, .shr _, _, h => by rw [shp_shr] at h; cases h
  | n, m, x, .scr _, _, h => by rw [shp_scr] at h; cases h
  | n, m, x, .lck _, _, h => by rw [shp_lck] at h; cases h
  | n, m, .dct _ _, y, h, _ => by rw [shp_dct] at h; cases h
  | n, m, .shr _, y, h, _ => by rw [shp_shr] at h; cases h
  | n, m, .scr _, y, h, _ => by rw [shp_scr] at h; cases h
  | n, m, .lck _, y, h, _ => by rw [shp_lck] at h; cases h
  | n, m, .tup xs, .tup ys, h1, h2 => by
    cases n with
    | zero => rw [shp_tup0] at h1; cases h1
    | succ n =>
      cases m with
      | zero => rw [shp_tup0] at h2; cases h2
      | succ m =>
        rw [shp_tup] at h1 h2
        simp only [toD, peq, PyData.eqv]
        exact peqs_eqv n m xs ys h1 h2
  | n, m, .lst xs, .lst ys, h1, h2 => by
    cases n with
    | zero => rw [shp_lst0] at h1; cases h1
    | succ n =>
      cases m with
      | zero => rw [shp_lst0] at h2; cases h2
      | succ m =>
        rw [shp_lst] at h1 h2
        simp only [toD, peq, PyData.eqv]
        exact peqs_eqv n m xs ys h1 h2
  | _, _, .non, .non, _, _ => by simp [toD, peq, PyData.eqv]
  | _, _, .non, .bl _, _, _ => by simp [toD, peq, PyData.eqv]
  | _, _, .non, .int _, _, _ => by simp [toD, peq, PyData.eqv]
  | _, _, .non, .str _, _, _ => by simp [toD, peq, PyData.eqv]
  | _, _, .non, .tup _, _, _ => by simp [toD, peq, PyData.eqv]
  | _, _, .non, .lst _, _, _ => by simp [toD, peq, PyData.eqv]
  | _, _, .bl _, .non, _, _ => by simp [toD, peq, PyData.eqv]
  | _, _, .bl _, .bl _, _, _ => by simp [toD, peq, PyData.eqv]
  | _, _, .bl _, .int _, _, _ => by simp [toD, peq, PyData.eqv]
  | _, _, .bl _, .str _, _, _ => by simp [toD, peq, PyData.eqv]
  | _, _, .bl _, .tup _, _, _ => by simp [toD, peq, PyData.eqv]
  | _, _, .bl _, .lst _, _, _ => by simp [toD, peq, PyData.eqv]
  | _, _, .int _, .non, _, _ => by simp [toD, peq, PyData.eqv]
  | _, _, .int _, .bl _, _, _ => by simp [toD, peq, PyData.eqv]
  | _, _, .int _, .int _, _, _ => by simp [toD, peq, PyData.eqv]
  | _, _, .int _, .str _, _, _ => by simp [toD, peq, PyData.eqv]
  | _, _, .int _, .tup _, _, _ => by simp [toD, peq, PyData.eqv]
  | _, _, .int _, .lst _, _, _ => by simp [toD, peq, PyData.eqv]
  | _, _, .str _, .non, _, _ => by simp [toD, peq, PyData.eqv]
  | _, _, .str _, .bl _, _, _ => by simp [toD, peq, PyData.eqv]
  | _, _, .str _, .int _, _, _ => by simp [toD, peq, PyData.eqv]
  | _, _, .str _, .str _, _, _ => by simp [toD, peq, PyData.eqv]
  | _, _, .str _, .tup _, _, _ => by simp [toD, peq, PyData.eqv]
  | _, _, .str _, .lst _, _, _ => by simp [toD, peq, PyData.eqv]
  | _, _, .tup _, .non, _, _ => by simp [toD, peq, PyData.eqv]
  | _, _, .tup _, .bl _, _, _ => by simp [toD, peq, PyData.eqv]
  | _, _, .tup _, .int _, _, _ => by simp [toD, peq, PyData.eqv]
  | _, _, .tup _, .str _, _, _ => by simp [toD, peq, PyData.eqv]
  | _, _, .tup _, .lst _, _, _ => by simp [toD, peq, PyData.eqv]
  | _, _, .lst _, .non, _, _ => by simp [toD, peq, PyData.eqv]
  | _, _, .lst _, .bl _, _, _ => by simp [toD, peq, PyData.eqv]
  | _, _, .lst _, .int _, _, _ => by simp [toD, peq, PyData.eqv]
  | _, _, .lst _, .str _, _, _ => by simp [toD, peq, PyData.eqv]
  | _, _, .lst _, .tup _, _, _ => by simp [toD, peq, PyData.eqv]
theorem peqs_eqv : ∀ (n m : Nat) (xs ys : List PV), xs.all (shp n) = true → ys.all (shp m) = true → peqs xs ys = PyData.eqvAll (toDs xs) (toDs ys)
  | _, _, [], [], _, _ => by simp [toDs, peqs, PyData.eqvAll]
  | _, _, [], _ :: _, _, _ => by simp [toDs, peqs, PyData.eqvAll]
  | _, _, _ :: _, [], _, _ => by simp [toDs, peqs, PyData.eqvAll]
  | n, m, x :: xs, y :: ys, h1, h2 => by
    rw [List.all_cons, Bool.and_eq_true] at h1 h2
    simp only [toDs, peqs, PyData.eqvAll, peq_eqv n m x y h1.1 h2.1, peqs_eqv n m xs ys h1.2 h2.2]
end
mutual
theorem alike_cmp : ∀ (x y : PV), cmpOk x y = true → PySem.W.alike (toD x) (toD y) = true ∧ toD x ≠ .none
  | .int _, .int _, _ => by simp [toD, PySem.W.alike]
  | .str _, .str _, _ => by simp [toD, PySem.W.alike]
  | .tup xs, .tup ys, h => by
    refine ⟨?_, by simp [toD]⟩
    simp only [toD, PySem.W.alike]
    exact alikes_cmp xs ys (by rw [cmpOk] at h; exact h)
  | .lst xs, .lst ys, h => by
    refine ⟨?_, by simp [toD]⟩
    simp only [toD, PySem.W.alike]
    exact alikes_cmp xs ys (by rw [cmpOk] at h; exact h)
  | .non, y, h => by cases y <;> simp [cmpOk] at h
  | .bl _, y, h => by cases y <;> simp [cmpOk] at h
  | .dct _ _, y, h => by cases y <;> simp [cmpOk] at h
  | .shr _, y, h => by cases y <;> simp [cmpOk] at h
  | .scr _, y, h => by cases y <;> simp [cmpOk] at h
  | .lck _, y, h => by cases y <;> simp [cmpOk] at h
  | .int _, .non, h | .int _, .bl _, h | .int _, .str _, h | .int _, .tup _, h | .int _, .lst _, h | .int _, .dct _ _, h | .int _, .shr _, h | .int _, .scr _, h | .int _, .lck _, h => by simp [cmpOk] at h
  | .str _, .non, h | .str _, .bl _, h | .str _, .int _, h | .str _, .tup _, h | .str _, .lst _, h | .str _, .dct _ _, h | .str _, .shr _, h | .str _, .scr _, h | .str _, .lck _, h => by simp [cmpOk] at h
  | .tup _, .non, h | .tup _, .bl _, h | .tup _, .int _, h | .tup _, .str _, h | .tup _, .lst _, h | .tup _, .dct _ _, h | .tup _, .shr _, h | .tup _, .scr _, h | .tup _, .lck _, h => by simp [cmpOk] at h
  | .lst _, .non, h | .lst _, .bl _, h | .lst _, .int _, h | .lst _, .str _, h | .lst _, .tup _, h | .lst _, .dct _ _, h | .lst _, .shr _, h | .lst _, .scr _, h | .lst _, .lck _, h => by simp [cmpOk] at h
theorem alikes_cmp : ∀ (xs ys : List PV), cmpOkL xs ys = true → PySem.W.alikeAll (toDs xs) (toDs ys) = true
  | [], _, _ => by simp [toDs, PySem.W.alikeAll]
  | _ :: _, [], _ => by simp [toDs, PySem.W.alikeAll]
  | x :: xs, y :: ys, h => by
    rw [cmpOkL, Bool.and_eq_true] at h
    simp only [toDs, PySem.W.alikeAll, (alike_cmp x y h.1).1, alikes_cmp xs ys h.2, Bool.and_self]
end
theorem rows_nn : PyProof.Rows.lexLt PyProof.Rows.itemOrd (PySem.W.keyToksAll []) (PySem.W.keyToksAll []) = false := PySem.W.dataLt_self (.list [])
theorem rows_nc (y : PyData) (ys : List PyData) : PyProof.Rows.lexLt PyProof.Rows.itemOrd (PySem.W.keyToksAll []) (PySem.W.keyToksAll (y :: ys)) = true := by
  simp only [PySem.W.keyToksAll]
  rw [PyProof.Rows.lex_cons]
  rfl
theorem rows_cn (y : PyData) (ys : List PyData) : PyProof.Rows.lexLt PyProof.Rows.itemOrd (PySem.W.keyToksAll (y :: ys)) (PySem.W.keyToksAll []) = false := by
  simp only [PySem.W.keyToksAll]
  rw [PyProof.Rows.lex_cons]
  rfl
mutual
theorem plt_data : ∀ (n m : Nat) (x y : PV), shp n x = true → shp m y = true → cmpOk x y = true → plt x y = PySem.W.dataLt (toD x) (toD y)
  | _, _, .int a, .int b, _, _, _ => by simp only [toD, plt, PySem.W.dataLt_int]
  | _, _, .str a, .str b, _, _, _ => by simp only [toD, plt, PySem.W.dataLt_str]
  | n, m, .tup xs, .tup ys, h1, h2, h => by
    cases n with
    | zero => rw [shp_tup0] at h1; cases h1
    | succ n =>
      cases m with
      | zero => rw [shp_tup0] at h2; cases h2
      | succ m =>
        rw [shp_tup] at h1 h2
        rw [cmpOk] at h
        simp only [toD, plt, PySem.W.dataLt_tuple]
        exact pltL_data n m xs ys h1 h2 h
  | n, m, .lst xs, .lst ys, h1, h2, h => by
    cases n with
    | zero => rw [shp_lst0] at h1; cases h1
    | succ n =>
      cases m with
      | zero => rw [shp_lst0] at h2; cases h2
      | succ m =>
        rw [shp_lst] at h1 h2
        rw [cmpOk] at h
        simp only [toD, plt, PySem.W.dataLt_list]
        exact pltL_data n m xs ys h1 h2 h
  | _, _, .non, y, _, _, h => by cases y <;> simp [cmpOk] at h
  | _, _, .bl _, y, _, _, h => by cases y <;> simp [cmpOk] at h
  | _, _, .dct _ _, y, _, _, h => by cases y <;> simp [cmpOk] at h
  | _, _, .shr _, y, _, _, h => by cases y <;> simp [cmpOk] at h
  | _, _, .scr _, y, _, _, h => by cases y <;> simp [cmpOk] at h
  | _, _, .lck _, y, _, _, h => by cases y <;> simp [cmpOk] at h
  | _, _, .int _, .non, _, _, h | _, _, .int _, .bl _, _, _, h | _, _, .int _, .str _, _, _, h | _, _, .int _, .tup _, _, _, h | _, _, .int _, .lst _, _, _, h | _, _, .int _, .dct _ _, _, _, h | _, _, .int _, .shr _, _, _, h | _, _, .int _, .scr _, _, _, h | _, _, .int _, .lck _, _, _, h => by simp [cmpOk] at h
  | _, _, .str _, .non, _, _, h | _, _, .str _, .bl _, _, _, h | _, _, .str _, .int _, _, _, h | _, _, .str _, .tup _, _, _, h | _, _, .str _, .lst _, _, _, h | _, _, .str _, .dct _ _, _, _, h | _, _, .str _, .shr _, _, _, h | _, _, .str _, .scr _, _, _, h | _, _, .str _, .lck _, _, _, h => by simp [cmpOk] at h
  | _, _, .tup _, .non, _, _, h | _, _, .tup _, .bl _, _, _, h | _, _, .tup _, .int _, _, _, h | _, _, .tup _, .str _, _, _, h | _, _, .tup _, .lst _, _, _, h | _, _, .tup _, .dct _ _, _, _, h | _, _, .tup _, .shr _, _, _, h | _, _, .tup _, .scr _, _, _, h | _, _, .tup _, .lck _, _, _, h => by simp [cmpOk] at h
  | _, _, .lst _, .non, _, _, h | _, _, .lst _, .bl _, _, _, h | _, _, .lst _, .int _, _, _, h | _, _, .lst _, .str _, _, _, h | _, _, .lst _, .tup _, _, _, h | _, _, .lst _, .dct _ _, _, _, h | _, _, .lst _, .shr _, _, _, h | _, _, .lst _, .scr _, _, _, h | _, _, .lst _, .lck _, _, _, h => by simp [cmpOk] at h
theorem pltL_data : ∀ (n m : Nat) (xs ys : List PV), xs.all (shp n) = true → ys.all (shp m) = true → cmpOkL xs ys = true → pltL xs ys = PyProof.Rows.lexLt PyProof.Rows.itemOrd (PySem.W.keyToksAll (toDs xs)) (PySem.W.keyToksAll (toDs ys))
  | _, _, [], [], _, _, _ => by simp only [pltL, toDs, rows_nn]
  | _, _, [], y :: ys, _, _, _ => by simp only [pltL, toDs, rows_nc]
  | _, _, x :: xs, [], _, _, _ => by simp only [pltL, toDs, rows_cn]
  | n, m, x :: xs, y :: ys, h1, h2, h => by
    rw [List.all_cons, Bool.and_eq_true] at h1 h2
    rw [cmpOkL, Bool.and_eq_true] at h
    simp only [pltL, toDs]
    rw [PySem.W.dataLt_cons (alike_cmp x y h.1).1, peq_eqv n m x y h1.1 h2.1, pltL_data n m xs ys h1.2 h2.2 h.2, plt_data n m x y h1.1 h2.1 h.1]
end
end MP

/-! MP cmp: comparisons, membership, subscripts by values. -/
namespace MP
open PySem PySem.Spec PyProof.Rows L2

section
variable {as : List Addr} {K : PySem.W.Frag} {G H : Hp} {D : DS}
mutual
theorem Tr.dp (w : Wd as K G H D) : ∀ {n : Nat} {v : V} {x : PV}, Tr as K G v x → shp n x = true → Dp K H v (toD x)
  | _, _, _, .non, _ => .non
  | _, _, _, .bl b, _ => .bl b
  | _, _, _, .int i, _ => .int i
  | _, _, _, .str s, _ => .str s
  | 0, _, _, .tup _ _, h => by rw [shp_tup0] at h; cases h
  | 0, _, _, .lst _ _, h => by rw [shp_lst0] at h; cases h
  | n + 1, _, _, .tup h t, s => .tup (.of (w.sub _ _ h)) (TrS.dp w t (shp_tup ▸ s))
  | n + 1, _, _, .lst h t, s => .lst (.of (w.sub _ _ h)) (TrS.dp w t (shp_lst ▸ s))
  | _, _, _, .dK _ _, s => by rw [shp_dct] at s; cases s
  | _, _, _, .dT _ _, s => by rw [shp_dct] at s; cases s
  | _, _, _, .shr _, s => by rw [shp_shr] at s; cases s
  | _, _, _, .scr _, s => by rw [shp_scr] at s; cases s
theorem TrS.dp (w : Wd as K G H D) : ∀ {n : Nat} {vs : List V} {xs : List PV}, TrS as K G vs xs → xs.all (shp n) = true → DpAll K H vs (toDs xs)
  | _, _, _, .nil, _ => .nil
  | n, _, _, .cons h t, s => by
    rw [List.all_cons, Bool.and_eq_true] at s
    exact .cons (Tr.dp w h s.1) (TrS.dp w t s.2)
end
theorem TrR.dp (w : Wd as K G H D) {n : Nat} {v : V} {x : PV} (r : TrR as K G H v x) (s : shp n x = true) : Dp K H v (toD x) := by
  rcases r with t | ⟨a, rfl, o⟩
  · exact t.dp w s
  · cases x with
    | lst xs =>
      obtain ⟨vs, h, t⟩ := o
      cases n with
      | zero => rw [shp_lst0] at s; cases s
      | succ n => exact .lst (.of h) (t.dp w (shp_lst ▸ s))
    | dct t kvs => rw [shp_dct] at s; cases s
    | _ => exact absurd o id
theorem shaped_of {x : PV} (s : shp DEP x = true) : SeqAt.shaped (toD x) = true := by
  obtain ⟨h1, h2⟩ := lay_shp DEP x s
  have : DEP = 20 := rfl
  unfold SeqAt.shaped
  rw [h1, Bool.true_and]
  exact decide_eq_true (by omega)

/-! ### keys -/
theorem kPV_peq (a b : Key) : peq (kPV a) (kPV b) = decide (a = b) := by
  cases a with
  | inl i =>
    cases b with
    | inl j =>
      rw [key_ll]
      simp only [kPV, peq]
    | inr y =>
      rw [key_lr]
      simp only [kPV, peq]
  | inr x =>
    cases b with
    | inl j =>
      rw [key_rl]
      simp only [kPV, peq]
    | inr y =>
      rw [key_rr]
      simp only [kPV, peq]
      by_cases e : x = y
      · subst e; simp
      · rw [decide_eq_false e]; exact beq_eq_false_iff_ne.mpr e
theorem kPVs_peq : ∀ a b : List Key, peqs (a.map kPV) (b.map kPV) = decide (a = b)
  | [], [] => by simp [peqs]
  | [], _ :: _ => by simp [peqs]
  | _ :: _, [] => by simp [peqs]
  | a :: as, b :: bs => by
    simp only [List.map_cons, peqs, kPV_peq, kPVs_peq as bs]
    by_cases e : a = b
    · subst e
      by_cases e2 : as = bs
      · subst e2; simp
      · simp [e2]
    · simp [e]
theorem key_of_isKey1 {x : PV} (h : isKey1 x = true) : ∃ k : Key, x = kPV k := by
  cases x with
  | int i => exact ⟨.inl i, rfl⟩
  | str s => exact ⟨.inr s, rfl⟩
  | _ => cases h
theorem keys_of_isKey : ∀ {xs : List PV}, xs.all isKey1 = true → ∃ ks : List Key, xs = ks.map kPV
  | [], _ => ⟨[], rfl⟩
  | x :: xs, h => by
    rw [List.all_cons, Bool.and_eq_true] at h
    obtain ⟨k, rfl⟩ := key_of_isKey1 h.1
    obtain ⟨ks, rfl⟩ := keys_of_isKey h.2
    exact ⟨k :: ks, rfl⟩
theorem isKey0 {x : PV} (h : isKey 0 x = true) : ∃ k : Key, x = kPV k := by
  cases x with
  | int i => exact ⟨.inl i, rfl⟩
  | str s => exact ⟨.inr s, rfl⟩
  | tup xs => simp [isKey] at h
  | _ => simp [isKey] at h
theorem isKeyT {x : PV} (h : isKey 1 x = true) : ∃ ks : List Key, x = .tup (ks.map kPV) := by
  cases x with
  | tup xs =>
    have h' : ((1 == 1) && xs.all isKey1) = true := h
    obtain ⟨ks, rfl⟩ := keys_of_isKey (by simpa using h')
    exact ⟨ks, rfl⟩
  | _ => simp [isKey] at h
theorem Tr.key {v : V} {k : Key} (t : Tr as K G v (kPV k)) : v = kV k := by
  cases k with
  | inl i => cases t; rfl
  | inr s => cases t; rfl
theorem TrS.keys : ∀ {vs : List V} {ks : List Key}, TrS as K G vs (ks.map kPV) → vs = ks.map kV
  | _, [], t => by cases t; rfl
  | _, k :: ks, t => by
    cases t with
    | cons h t => rw [h.key, TrS.keys t]; rfl
theorem TrR.key {v : V} {k : Key} (t : TrR as K G H v (kPV k)) : v = kV k := by
  rcases t with t | ⟨a, _, o⟩
  · exact t.key
  · cases k <;> exact absurd o id
/-- a look-up in the dict and in its tree -/
theorem TrK.get (k : Key) : ∀ {ks : List (Key × V)} {kvs : List (PV × PV)}, TrK as K G ks kvs → (valV ks k = none ∧ dGet (kPV k) kvs = none) ∨ ∃ v x, valV ks k = some v ∧ dGet (kPV k) kvs = some x ∧ Tr as K G v x
  | _, _, .nil => .inl ⟨rfl, rfl⟩
  | _, _, .cons (k := k') (x := x') (kvs := kvs') h t => by
    by_cases e : k' = k
    · subst e
      refine .inr ⟨_, _, valV_pos rfl, ?_, h⟩
      simp [dGet, kPV_peq]
    · rw [valV_neg (by exact e)]
      have e2 : dGet (kPV k) ((kPV k', x') :: kvs') = dGet (kPV k) kvs' := by
        rw [dGet, kPV_peq, if_neg (by simpa using e)]
      rw [e2]
      exact TrK.get k t
theorem TrT.get (k : List Key) : ∀ {ks : List (List Key × V)} {kvs : List (PV × PV)}, TrT as K G ks kvs → (valV ks k = none ∧ dGet (.tup (k.map kPV)) kvs = none) ∨ ∃ v x, valV ks k = some v ∧ dGet (.tup (k.map kPV)) kvs = some x ∧ Tr as K G v x
  | _, _, .nil => .inl ⟨rfl, rfl⟩
  | _, _, .cons (k := k') (x := x') (kvs := kvs') h t => by
    have ep : peq (.tup (k'.map kPV)) (.tup (k.map kPV)) = decide (k' = k) := by rw [peq, kPVs_peq]
    by_cases e : k' = k
    · subst e
      refine .inr ⟨_, _, valV_pos rfl, ?_, h⟩
      rw [dGet, ep, if_pos (by simp)]
    · rw [valV_neg (by exact e)]
      have e2 : dGet (.tup (k.map kPV)) ((.tup (k'.map kPV), x') :: kvs') = dGet (.tup (k.map kPV)) kvs' := by
        rw [dGet, ep, if_neg (by simpa using e)]
      rw [e2]
      exact TrT.get k t
/-- what d[k] asks of the layer -/
theorem dget_of (w : Wd as K G H D) {x y : V} {t : Nat} {kvs : List (PV × PV)} {k : PV} (hx : TrR as K G H x (.dct t kvs)) (hy : TrR as K G H y k) (hk : isKey t k = true) :
    ∃ a o, x = .ref a ∧ DGet H a y o ∧ ((o = none ∧ dGet k kvs = none) ∨ ∃ v z, o = some v ∧ dGet k kvs = some z ∧ Tr as K G v z) := by
  rcases hx.dct w with ⟨rfl, a, ks, rfl, h, tr⟩ | ⟨rfl, a, ks, rfl, h, tr⟩
  · obtain ⟨kk, rfl⟩ := isKey0 hk
    have e := hy.key
    subst e
    exact ⟨a, valV ks kk, rfl, .inl ⟨ks, kk, h, rfl, rfl⟩, tr.get kk⟩
  · obtain ⟨kk, rfl⟩ := isKeyT hk
    obtain ⟨b, vs, rfl, h1, g1, t1⟩ := hy.tup w
    have e := t1.keys
    subst e
    exact ⟨a, valV ks kk, rfl, .inr ⟨ks, kk, b, h, rfl, h1, rfl⟩, tr.get kk⟩
end

def coT : Co → CmpOp
  | .eq => .Eq | .ne => .NotEq | .lt => .Lt | .le => .LtE | .gt => .Gt | .ge => .GtE | .is_ => .Is | .isn => .IsNot | .in_ => .In | .nin => .NotIn
def rCmpM (K : PySem.W.Frag) (op : Co) : R2 := fun x y H Q => ∃ as G D px py z, Wd as K G H D ∧ TrR as K G H x px ∧ TrR as K G H y py ∧ pCmp op px py = some z ∧ Q (.bl z) H
section
variable {X : Cx}
theorem eq_both {as : List Addr} {K : PySem.W.Frag} {G H : Hp} {D : DS} {x y : V} {px py : PV} {z : Bool} (w : Wd as K G H D) (hx : TrR as K G H x px) (hy : TrR as K G H y py) (e : pEq px py = some z) :
    ∃ d1 d2, Dp K H x d1 ∧ Dp K H y d2 ∧ SeqAt.shaped d1 = true ∧ SeqAt.shaped d2 = true ∧ PyData.eqv d1 d2 = z := by
  have e' : (if (shp DEP px && shp DEP py) = true then some (peq px py) else none) = some z := e
  split at e'
  · rename_i h
    rw [Bool.and_eq_true] at h
    cases e'
    exact ⟨_, _, hx.dp w h.1, hy.dp w h.2, shaped_of h.1, shaped_of h.2, (peq_eqv _ _ _ _ h.1 h.2).symm⟩
  · cases e'
theorem in_seq (hu : X.A.units + 65 < cLine) {neg : Bool} {as : List Addr} {G : Hp} {D : DS} {px : PV} {ys : List PV} {z : Bool} {a : Addr} {vs : List V} {pins : List (Addr × Obj)} {s : Shared} {σ : L2.St} {H : Hp} {x : V} {v : Value} {Q : VK}
    (I : Inv X pins σ H s) (w : Wd as X.K G H D) (rx : RelV x v) (hx : TrR as X.K G H x px) (t : TrS as X.K G vs ys) (hs : shp DEP px = true) (hys : ys.all (shp DEP) = true)
    (h : H a = some (.lst vs) ∨ H a = some (.tup vs)) (q : Q (.bl (if neg then !(ys.any fun y => peq y px) else ys.any fun y => peq y px)) H) :
    wpAny (model X.prog X.w) X.A (compareOp (if neg then .NotIn else .In) v (.ref a)) (EP X pins σ Q) X.xe s := by
  obtain ⟨bs, r1⟩ := Dp.reads I _ x v (hx.dp w hs) rx
  obtain ⟨l1, l2⟩ := lay_shp DEP px hs
  obtain ⟨l3, l4⟩ := lay_shps DEP ys hys
  have hd : DEP = 20 := rfl
  have hroom : X.A.units + 1 + min (PyData.depthAll (toDs ys)) (toD px).depth < cLine := by
    have := Nat.min_le_right (PyData.depthAll (toDs ys)) (toD px).depth
    omega
  have eany : ((toDs ys).any fun y => PyData.eqv y (toD px)) = ys.any fun y => peq y px := by
    rw [toDs_map, List.any_map]
    have : ∀ l : List PV, l.all (shp DEP) = true → l.any ((fun y => PyData.eqv y (toD px)) ∘ toD) = l.any fun y => peq y px := by
      intro l
      induction l with
      | nil => intro _; rfl
      | cons y l ih =>
        intro hl
        rw [List.all_cons, Bool.and_eq_true] at hl
        rw [List.any_cons, List.any_cons, ih hl.2, Function.comp, peq_eqv _ _ _ _ hl.1 hs]
    exact this ys hys
  rcases h with h | h
  · have hd : Dp X.K H (.ref a) (.list (toDs ys)) := .lst (.of h) (t.dp w hys)
    obtain ⟨cs, r2⟩ := Dp.reads I _ (.ref a) (.ref a) hd rfl
    cases neg with
    | false => exact SeqAt.in_list_reads r2 r1 l3 l1 hroom (by rw [eany]; exact ⟨.bl _, H, I, rfl, q⟩)
    | true => exact SeqAt.notIn_list_reads r2 r1 l3 l1 hroom (by rw [eany]; exact ⟨.bl _, H, I, rfl, q⟩)
  · have hd : Dp X.K H (.ref a) (.tuple (toDs ys)) := .tup (.of h) (t.dp w hys)
    obtain ⟨cs, r2⟩ := Dp.reads I _ (.ref a) (.ref a) hd rfl
    cases neg with
    | false => exact SeqAt.in_tuple_reads r2 r1 l3 l1 hroom (by rw [eany]; exact ⟨.bl _, H, I, rfl, q⟩)
    | true => exact SeqAt.notIn_tuple_reads r2 r1 l3 l1 hroom (by rw [eany]; exact ⟨.bl _, H, I, rfl, q⟩)
theorem lt_both {as : List Addr} {K : PySem.W.Frag} {G H : Hp} {D : DS} {x y : V} {px py : PV} {z : Bool} (w : Wd as K G H D) (hx : TrR as K G H x px) (hy : TrR as K G H y py) (e : pLt px py = some z) :
    Dp K H x (toD px) ∧ Dp K H y (toD py) ∧ PySem.W.alike (toD px) (toD py) = true ∧ toD px ≠ .none ∧ (toD px).depth ≤ 20 ∧ PySem.W.dataLt (toD px) (toD py) = z := by
  have e' : (if (shp DEP px && shp DEP py && cmpOk px py) = true then some (plt px py) else none) = some z := e
  split at e'
  · rename_i h
    rw [Bool.and_eq_true, Bool.and_eq_true] at h
    obtain ⟨⟨h1, h2⟩, h3⟩ := h
    cases e'
    obtain ⟨a1, a2⟩ := alike_cmp _ _ h3
    exact ⟨hx.dp w h1, hy.dp w h2, a1, a2, (lay_shp DEP _ h1).2, (plt_data _ _ _ _ h1 h2 h3).symm⟩
  · cases e'
theorem in_dct (hu : X.A.units + 65 < cLine) {neg : Bool} {as : List Addr} {G : Hp} {D : DS} {px : PV} {t : Nat} {kvs : List (PV × PV)} {z : Bool} {pins : List (Addr × Obj)} {s : Shared} {σ : L2.St} {H : Hp} {x y : V} {v u : Value} {Q : VK}
    (I : Inv X pins σ H s) (w : Wd as X.K G H D) (rx : RelV x v) (ry : RelV y u) (hx : TrR as X.K G H x px) (hy : TrR as X.K G H y (.dct t kvs)) (hk : isKey t px = true)
    (q : Q (.bl (if neg then !(dGet px kvs).isSome else (dGet px kvs).isSome)) H) :
    wpAny (model X.prog X.w) X.A (compareOp (if neg then .NotIn else .In) v u) (EP X pins σ Q) X.xe s := by
  obtain ⟨a, o, rfl, g, ho⟩ := dget_of w hy hx hk
  have eo : o.isSome = (dGet px kvs).isSome := by
    rcases ho with ⟨h1, h2⟩ | ⟨v, z, h1, h2, _⟩
    · rw [h1, h2]; rfl
    · rw [h1, h2]; rfl
  cases (show u = Value.ref a from ry)
  cases neg with
  | false => exact d_in (by omega) I g rx fun s' I' => ⟨.bl _, H, I', rfl, by rw [eo]; exact q⟩
  | true => exact d_notIn (by omega) I g rx fun s' I' => ⟨.bl _, H, I', rfl, by rw [eo]; exact q⟩
theorem op_cmpM (hu : X.A.units + 65 < cLine) (op : Co) : OpR X (compareOp (coT op)) (rCmpM X.K op) := by
  intro pins s σ H x y v u Q I rx ry h
  obtain ⟨as, G, D, px, py, z, w, hx, hy, e, q⟩ := h
  have hin : ∀ neg : Bool, ∀ z', pIn px py = some z' → Q (.bl (if neg then !z' else z')) H → wpAny (model X.prog X.w) X.A (compareOp (if neg then .NotIn else .In) v u) (EP X pins σ Q) X.xe s := by
    intro neg z' e9 q9
    unfold pIn at e9
    split at e9
    · rename_i ys
      split at e9
      · rename_i hs
        rw [Bool.and_eq_true] at hs
        cases e9
        obtain ⟨a, vs, rfl, h1, t1⟩ := hy.lst w
        cases (show u = Value.ref a from ry)
        exact in_seq (z := true) hu I w rx hx t1 hs.1 hs.2 (.inl h1) q9
      · cases e9
    · rename_i ys
      split at e9
      · rename_i hs
        rw [Bool.and_eq_true] at hs
        cases e9
        obtain ⟨a, vs, rfl, h1, _, t1⟩ := hy.tup w
        cases (show u = Value.ref a from ry)
        exact in_seq (z := true) hu I w rx hx t1 hs.1 hs.2 (.inr h1) q9
      · cases e9
    · split at e9
      · rename_i hk
        cases e9
        exact in_dct (z := true) hu I w rx ry hx hy hk q9
      · cases e9
    · rename_i a b
      split at e9
      · rename_i hl
        cases e9
        obtain rfl := hx.str
        obtain rfl := hy.str
        obtain ⟨c, rfl⟩ : ∃ c, a = ⟨#[c]⟩ := by
          obtain ⟨cs⟩ := a
          have hl' : cs.size = 1 := hl
          obtain ⟨l⟩ := cs
          match l, hl' with
          | [c], _ => exact ⟨c, rfl⟩
        have ec : decide (([c] : List Nat).headD 0 ∈ b.cps.toList) = decide (c ∈ b.cps.toList) := rfl
        cases neg with
        | false => exact op_in_sign pins s σ H _ _ v u Q I rx ry ⟨c, b, rfl, rfl, q9⟩
        | true => exact op_notIn_sign pins s σ H _ _ v u Q I rx ry ⟨c, b, rfl, rfl, q9⟩
      · cases e9
    · cases e9
  cases op with
  | eq =>
    obtain ⟨d1, d2, h1, h2, h3, h4, h5⟩ := eq_both w hx hy e
    exact op_eqD (by omega) pins s σ H x y v u Q I rx ry ⟨d1, d2, h1, h2, h3, h4, by rw [h5]; exact q⟩
  | ne =>
    obtain ⟨z', e1, e2⟩ := Option.map_eq_some_iff.mp (show (pEq px py).map (!·) = some z from e)
    obtain ⟨d1, d2, h1, h2, h3, h4, h5⟩ := eq_both w hx hy e1
    exact op_neD (by omega) pins s σ H x y v u Q I rx ry ⟨d1, d2, h1, h2, h3, h4, by rw [h5]; rw [← e2] at q; exact q⟩
  | lt =>
    obtain ⟨h1, h2, h3, h4, h5, h6⟩ := lt_both w hx hy e
    obtain ⟨as1, r1⟩ := Dp.reads I _ x v h1 rx
    obtain ⟨as2, r2⟩ := Dp.reads I _ y u h2 ry
    exact PySem.W.lt_data r1 r2 h3 h4 (by have := Nat.min_le_left (toD px).depth (toD py).depth; omega) ⟨.bl z, H, I, by rw [h6]; rfl, q⟩
  | gt =>
    obtain ⟨h1, h2, h3, h4, h5, h6⟩ := lt_both w hy hx e
    obtain ⟨as1, r1⟩ := Dp.reads I _ y u h1 ry
    obtain ⟨as2, r2⟩ := Dp.reads I _ x v h2 rx
    have h3' : PySem.W.alike (toD px) (toD py) = true := by rw [PySem.W.alike_comm]; exact h3
    exact PySem.W.gt_data r2 r1 h3' (PySem.W.ne_none_both h3 h4) (by have := Nat.min_le_right (toD px).depth (toD py).depth; omega) ⟨.bl z, H, I, by rw [h6]; rfl, q⟩
  | le =>
    cases px <;> cases py <;> try (cases e; done)
    case int.int a b =>
      cases e
      obtain rfl := hx.int
      obtain rfl := hy.int
      exact op_le pins s σ H _ _ v u Q I rx ry ⟨_, _, rfl, rfl, q⟩
    case str.str a b =>
      cases e
      obtain rfl := hx.str
      obtain rfl := hy.str
      obtain ⟨as1, r1⟩ := Dp.reads I _ (.str a) v (.str a) rx
      obtain ⟨as2, r2⟩ := Dp.reads I _ (.str b) u (.str b) ry
      refine PySem.W.le_data r1 r2 (by simp [PySem.W.alike]) (by simp) (by simp [PyData.depth]; omega) ?_
      rw [PySem.W.dataLt_str]
      exact ⟨.bl _, H, I, rfl, q⟩
  | ge =>
    cases px <;> cases py <;> try (cases e; done)
    case int.int a b =>
      cases e
      obtain rfl := hx.int
      obtain rfl := hy.int
      exact op_ge pins s σ H _ _ v u Q I rx ry ⟨_, _, rfl, rfl, q⟩
    case str.str a b =>
      cases e
      obtain rfl := hx.str
      obtain rfl := hy.str
      obtain ⟨as1, r1⟩ := Dp.reads I _ (.str a) v (.str a) rx
      obtain ⟨as2, r2⟩ := Dp.reads I _ (.str b) u (.str b) ry
      refine PySem.W.ge_data r1 r2 (by simp [PySem.W.alike]) (by simp) (by simp [PyData.depth]; omega) ?_
      rw [PySem.W.dataLt_str]
      exact ⟨.bl _, H, I, rfl, q⟩
  | is_ =>
    cases py <;> try (cases e; done)
    have ey := hy.non
    subst ey
    have ex : decide (x = V.non) = z := by
      have e' : isNon px = z := Option.some.inj e
      rcases hx with t | ⟨a, rfl, o⟩
      · cases t <;> first | (rw [← e']; rfl) | (rw [← e']; simp)
      · rw [← e']
        cases px <;> first | rfl | (simp; done) | exact absurd o id
    exact op_isN pins s σ H x _ v u Q I rx ry ⟨rfl, by rw [ex]; exact q⟩
  | isn =>
    cases py <;> try (cases e; done)
    have ey := hy.non
    subst ey
    have ex : (!decide (x = V.non)) = z := by
      have e' : (!isNon px) = z := Option.some.inj e
      rcases hx with t | ⟨a, rfl, o⟩
      · cases t <;> first | (rw [← e']; rfl) | (rw [← e']; simp)
      · rw [← e']
        cases px <;> first | rfl | (simp; done) | exact absurd o id
    exact op_notN pins s σ H x _ v u Q I rx ry ⟨rfl, by rw [ex]; exact q⟩
  | in_ => exact hin false z e q
  | nin =>
    obtain ⟨z', e1, e2⟩ := Option.map_eq_some_iff.mp (show (pIn px py).map (!·) = some z from e)
    exact hin true z' e1 (by rw [← e2] at q; exact q)
end

/-! ### subscripts -/
def rIxM (K : PySem.W.Frag) : R2 := fun x y H Q => ∃ as G D px py z, Wd as K G H D ∧ TrR as K G H x px ∧ TrR as K G H y py ∧ pIdx px py = some z ∧ ∀ v, Tr as K G v z → Q v H
theorem ixN_eq (n : Nat) (i : Int) : MP.ixN n i = L2.ixN n i := rfl
section
variable {X : Cx}
theorem ix_dct (hu : X.A.units + 65 < cLine) {value slice : Expr} {pins : List (Addr × Obj)} {s : Shared} {σ : L2.St} {H : Hp} {a : Addr} {y v : V} {u : Value} {Q : VK} (I : Inv X pins σ H s) (g : DGet H a y (some v)) (ry : RelV y u)
    (hs : subscripted slice false (.ref a) u = operate [.ref a, u] (getItem (.ref a) u)) (q : Q v H) : wpAny (model X.prog X.w) X.A (subscriptTail value slice (.ref a) u) (EP X pins σ Q) X.xe s := by
  have hT := dict_typeIs I g
  exact tail_any hT PySem.F.slot_dict_getitem.lookup (d_getItem (by omega) I g ry fun w' s' I' rw' => ⟨v, H, I', rw', q⟩) hs
theorem ix_M (hu : X.A.units + 65 < cLine) : IxR X (rIxM X.K) := by
  intro value slice pins s σ H x y v u Q I rx ry h hs
  obtain ⟨as, G, D, px, py, z, w, hx, hy, e, q⟩ := h
  unfold pIdx at e
  split at e
  · rename_i xs i
    obtain ⟨j, e1, e2⟩ := Option.bind_eq_some_iff.mp e
    obtain ⟨a, vs, rfl, h1, t1⟩ := hx.lst w
    obtain rfl := hy.int
    obtain ⟨vj, g1, g2⟩ := t1.get e2
    refine ix_list value slice pins s σ H _ _ v u Q I rx ry ⟨a, vs, i, vj, rfl, rfl, .of h1, ?_, q vj g2⟩ hs
    unfold atI
    rw [t1.len, ← ixN_eq, e1]
    exact g1
  · rename_i ns i
    obtain ⟨j, e1, e2⟩ := Option.bind_eq_some_iff.mp e
    obtain ⟨n, e3, e4⟩ := Option.map_eq_some_iff.mp e2
    obtain ⟨a, rfl, h1⟩ := hx.scr w
    obtain rfl := hy.int
    subst e4
    refine ix_list value slice pins s σ H _ _ v u Q I rx ry ⟨a, _, i, .int n, rfl, rfl, h1, ?_, q _ (.int n)⟩ hs
    unfold atI
    rw [List.length_map, ← ixN_eq, e1]
    show (ns.map V.int)[j]? = _
    rw [List.getElem?_map, e3]; rfl
  · rename_i xs i
    obtain ⟨j, e1, e2⟩ := Option.bind_eq_some_iff.mp e
    obtain ⟨a, vs, rfl, h1, _, t1⟩ := hx.tup w
    obtain rfl := hy.int
    obtain ⟨vj, g1, g2⟩ := t1.get e2
    refine ix_tup value slice pins s σ H _ _ v u Q I rx ry ⟨a, vs, i, vj, rfl, rfl, .of h1, ?_, q vj g2⟩ hs
    unfold atI
    rw [t1.len, ← ixN_eq, e1]
    exact g1
  · rename_i z' i
    split at e
    · rename_i hl
      obtain ⟨j, e1, e2⟩ := Option.bind_eq_some_iff.mp e
      obtain ⟨c, e3, e4⟩ := Option.map_eq_some_iff.mp e2
      obtain rfl := hx.str
      obtain rfl := hy.int
      subst e4
      refine ix_str value slice pins s σ H _ _ v u Q I rx ry ⟨z', i, c, rfl, rfl, line_lim hl, ?_, q _ (.str _)⟩ hs
      unfold atI
      have hlen : z'.cps.toList.length = z'.length := by simp [Str.length]
      rw [hlen, ← ixN_eq, e1]
      exact e3
    · cases e
  · rename_i t kvs k
    split at e
    · rename_i hk
      obtain ⟨a, o, rfl, g, ho⟩ := dget_of w hx hy hk
      rcases ho with ⟨h1, h2⟩ | ⟨vv, zz, h1, h2, h3⟩
      · rw [h2] at e; cases e
      · rw [h2] at e
        cases e
        subst h1
        cases (show v = Value.ref a from rx)
        exact ix_dct hu I g ry hs (q _ h3)
    · cases e
  · cases e
end
end MP

/-! MP builtins: len, min, max, sorted, .. by values. -/
namespace MP
open PySem PySem.Spec PyProof.Rows L2

def biV : Bi → Value
  | .len => .builtin "len" | .abs => .builtin "abs" | .min => .builtin "min" | .max => .builtin "max" | .sum => .builtin "sum" | .sorted => .builtin "sorted"
  | .tuple => .type "tuple" | .list => .type "list" | .dict => .type "dict" | .dictT => .type "dict" | .int => .type "int" | .all => .builtin "all" | .any => .builtin "any"
  | .setLen => .none | .sortedSet => .none | .tupRange => .none | .listRange => .none
inductive TrRs (as : List Addr) (K : PySem.W.Frag) (G H : Hp) : List V → List PV → Prop
  | nil : TrRs as K G H [] []
  | cons {v : V} {x : PV} {vs : List V} {xs : List PV} : TrR as K G H v x → TrRs as K G H vs xs → TrRs as K G H (v :: vs) (x :: xs)
def rBiF (K : PySem.W.Frag) (b : Bi) : List V → Hp → VK → Prop := fun vs H Q => ∃ as G D xs z, Wd as K G H D ∧ TrRs as K G H vs xs ∧ pBi b xs = some z ∧ FinF as K G H D z Q
def rBiM (K : PySem.W.Frag) (b : Bi) : List V → Hp → VK → Prop := fun vs H Q => ∃ as G D xs z, Wd as K G H D ∧ TrRs as K G H vs xs ∧ pBi b xs = some z ∧ Fin_ as K G H D z Q
section
variable {as : List Addr} {K : PySem.W.Frag} {G H : Hp} {D : DS}
theorem mapO_ints : ∀ {xs : List PV} {ns : List Int}, mapO intOf xs = some ns → xs = ns.map .int
  | [], _, h => by cases h; rfl
  | x :: xs, ns, h => by
    obtain ⟨y, h1, h2⟩ := Option.bind_eq_some_iff.mp (show (intOf x).bind (fun y => (mapO intOf xs).bind fun ys => some (y :: ys)) = some ns from h)
    obtain ⟨ys, h3, h4⟩ := Option.bind_eq_some_iff.mp h2
    cases h4
    rw [mapO_ints h3]
    cases x with
    | int i => cases h1; rfl
    | _ => cases h1
theorem mapO_bls : ∀ {xs : List PV} {ns : List Bool}, mapO blOf xs = some ns → xs = ns.map .bl
  | [], _, h => by cases h; rfl
  | x :: xs, ns, h => by
    obtain ⟨y, h1, h2⟩ := Option.bind_eq_some_iff.mp (show (blOf x).bind (fun y => (mapO blOf xs).bind fun ys => some (y :: ys)) = some ns from h)
    obtain ⟨ys, h3, h4⟩ := Option.bind_eq_some_iff.mp h2
    cases h4
    rw [mapO_bls h3]
    cases x with
    | bl i => cases h1; rfl
    | _ => cases h1
theorem TrS.toInts : ∀ {vs : List V} {ns : List Int}, TrS as K G vs (ns.map PV.int) → vs = ns.map V.int
  | _, [], h => by cases h; rfl
  | _, n :: ns, h => by
    cases h with
    | cons a t => cases a; rw [TrS.toInts t]; rfl
theorem TrS.toBls : ∀ {vs : List V} {ns : List Bool}, TrS as K G vs (ns.map PV.bl) → vs = ns.map V.bl
  | _, [], h => by cases h; rfl
  | _, n :: ns, h => by
    cases h with
    | cons a t => cases a; rw [TrS.toBls t]; rfl
theorem TrR.seq (w : Wd as K G H D) {x : V} {p : PV} {xs : List PV} (h : TrR as K G H x p) (e : seqOf p = some xs) : ∃ a vs, x = .ref a ∧ (H a = some (.lst vs) ∨ (H a = some (.tup vs) ∧ G a = some (.tup vs) ∧ p = .tup xs)) ∧ TrS as K G vs xs := by
  cases p with
  | lst ys =>
    cases e
    obtain ⟨a, vs, r, h1, t⟩ := h.lst w
    exact ⟨a, vs, r, .inl h1, t⟩
  | tup ys =>
    cases e
    obtain ⟨a, vs, r, h1, h2, t⟩ := h.tup w
    exact ⟨a, vs, r, .inr ⟨h1, h2, rfl⟩, t⟩
  | _ => cases e
/-- what an item of a list stands for -/
def Itm (as : List Addr) (K : PySem.W.Frag) (G : Hp) (u : Value) (x : PV) : Prop := ∃ v, RelV v u ∧ Tr as K G v x
theorem each_of : ∀ {vs : List V} {us : List Value} {xs : List PV}, Vals vs us → TrS as K G vs xs → PySem.W.EachIs (Itm as K G) us xs
  | _, _, _, .nil, .nil => .nil
  | _, _, _, .cons r t, .cons h k => .cons ⟨_, r, h⟩ (each_of t k)
theorem of_each : ∀ {us : List Value} {xs : List PV}, PySem.W.EachIs (Itm as K G) us xs → ∃ vs, Vals vs us ∧ TrS as K G vs xs
  | _, _, .nil => ⟨[], .nil, .nil⟩
  | _, _, .cons ⟨v, r, h⟩ t => by
    obtain ⟨vs, r2, h2⟩ := of_each t
    exact ⟨v :: vs, .cons r r2, .cons h h2⟩
theorem each_reads {X : Cx} {pins : List (Addr × Obj)} {σ : L2.St} {s : Shared} (I : Inv X pins σ H s) (w : Wd as X.K G H D) {us : List Value} {xs : List PV} (h : PySem.W.EachIs (Itm as X.K G) us xs) (hs : xs.all (shp DEP) = true) :
    PySem.W.EachIs (fun u x => ∃ bs, Reads s.heap u (toD x) bs) us xs := by
  induction h with
  | nil => exact .nil
  | cons h t ih =>
    rw [List.all_cons, Bool.and_eq_true] at hs
    obtain ⟨v, r, tr⟩ := h
    exact .cons (Dp.reads I _ v _ (tr.dp w hs.1) r) (ih hs.2)
theorem ord_all {xs : List PV} (h : ordOk xs = true) : xs.all (shp DEP) = true ∧ ∀ x ∈ xs, ∀ y ∈ xs, cmpOk x y = true := by
  unfold ordOk at h
  refine ⟨List.all_eq_true.mpr fun x hx => ?_, fun x hx y hy => ?_⟩
  · have := List.all_eq_true.mp h x hx
    rw [Bool.and_eq_true] at this
    exact this.1
  · have := List.all_eq_true.mp h x hx
    rw [Bool.and_eq_true] at this
    exact List.all_eq_true.mp this.2 y hy
theorem ord_alike {xs : List PV} (h : ordOk xs = true) : PySem.W.AllAlike (xs.map toD) := by
  obtain ⟨h1, h2⟩ := ord_all h
  intro d hd d' hd'
  obtain ⟨x, hx, rfl⟩ := List.mem_map.mp hd
  obtain ⟨y, hy, rfl⟩ := List.mem_map.mp hd'
  exact (alike_cmp x y (h2 x hx y hy)).1
theorem ord_AlikeAll {xs : List PV} (h : ordOk xs = true) : PySem.W.AlikeAll (toDs xs) := by
  obtain ⟨h1, h2⟩ := ord_all h
  rw [toDs_map]
  refine ⟨ord_alike h, fun d hd => ?_⟩
  obtain ⟨x, hx, rfl⟩ := List.mem_map.mp hd
  exact (alike_cmp x x (h2 x hx x hx)).2
theorem srt_sortable {xs : List PV} (h : ordOk xs = true) (h2 : srtOk xs = true) : PySem.W.Sortable (xs.map toD) := by
  obtain ⟨h3, h4⟩ := ord_all h
  unfold srtOk at h2
  rw [Bool.or_eq_true] at h2
  rcases h2 with h2 | h2
  · left
    intro d hd
    obtain ⟨x, hx, rfl⟩ := List.mem_map.mp hd
    have := List.all_eq_true.mp h2 x hx
    cases x with
    | tup l =>
      cases l with
      | nil => cases this
      | cons a l => exact ⟨toD a, toDs l, by simp [toD, toDs]⟩
    | _ => cases this
  · right
    intro d hd
    obtain ⟨x, hx, rfl⟩ := List.mem_map.mp hd
    have := List.all_eq_true.mp h2 x hx
    refine ⟨(alike_cmp x x (h4 x hx x hx)).2, fun l e => ?_⟩
    cases x with
    | tup l => cases this
    | _ => simp [toD] at e
theorem merge_eq {xs : List PV} (h : ordOk xs = true) : xs.mergeSort (fun a b => !plt b a) = xs.mergeSort (PySem.W.dataLe false toD) := by
  obtain ⟨h3, h4⟩ := ord_all h
  have e : ∀ a ∈ xs, ∀ b ∈ xs, (!plt b a) = PySem.W.dataLe false toD a b := fun a ha b hb => by
    rw [PySem.W.dataLe_eq]
    show (!plt b a) = !PySem.W.dataLt (toD b) (toD a)
    rw [plt_data DEP DEP b a (List.all_eq_true.mp h3 b hb) (List.all_eq_true.mp h3 a ha) (h4 b hb a ha)]
  exact PySem.W.sort_congr e
end

/-! ### toD tells trees apart -/
mutual
theorem toD_inj : ∀ (n m : Nat) (x y : PV), shp n x = true → shp m y = true → toD x = toD y → x = y
  | n, m, x, .dct _ _, _, h, _ => by rw [shp_dct] at h; cases h
  | n, m, x, .shr _, _, h, _ => by rw [shp_shr] at h; cases h
  | n, m, x, .scr _, _, h, _ => by rw [shp_scr] at h; cases h
  | n, m, x, .lck _, _, h, _ => by rw [shp_lck] at h; cases h
  | n, m, .dct _ _, y, h, _, _ => by rw [shp_dct] at h; cases h
  | n, m, .shr _, y, h, _, _ => by rw [shp_shr] at h; cases h
  | n, m, .scr _, y, h, _, _ => by rw [shp_scr] at h; cases h
  | n, m, .lck _, y, h, _, _ => by rw [shp_lck] at h; cases h
  | n, m, .tup xs, .tup ys, h1, h2, e => by
    cases n with
    | zero => rw [shp_tup0] at h1; cases h1
    | succ n =>
      cases m with
      | zero => rw [shp_tup0] at h2; cases h2
      | succ m =>
        rw [shp_tup] at h1 h2
        simp only [toD, PyData.tuple.injEq] at e
        rw [toDs_inj n m xs ys h1 h2 e]
  | n, m, .lst xs, .lst ys, h1, h2, e => by
    cases n with
    | zero => rw [shp_lst0] at h1; cases h1
    | succ n =>
      cases m with
      | zero => rw [shp_lst0] at h2; cases h2
      | succ m =>
        rw [shp_lst] at h1 h2
        simp only [toD, PyData.list.injEq] at e
        rw [toDs_inj n m xs ys h1 h2 e]
  | _, _, .non, .non, _, _, _ => rfl
  | _, _, .bl _, .bl _, _, _, e => by simp only [toD, PyData.bool.injEq] at e; rw [e]
  | _, _, .int _, .int _, _, _, e => by simp only [toD, PyData.int.injEq] at e; rw [e]
  | _, _, .str _, .str _, _, _, e => by simp only [toD, PyData.str.injEq] at e; rw [e]
  | _, _, .non, .bl _, _, _, e => by simp [toD] at e
  | _, _, .non, .int _, _, _, e => by simp [toD] at e
  | _, _, .non, .str _, _, _, e => by simp [toD] at e
  | _, _, .non, .tup _, _, _, e => by simp [toD] at e
  | _, _, .non, .lst _, _, _, e => by simp [toD] at e
  | _, _, .bl _, .non, _, _, e => by simp [toD] at e
  | _, _, .bl _, .int _, _, _, e => by simp [toD] at e
  | _, _, .bl _, .str _, _, _, e => by simp [toD] at e
  | _, _, .bl _, .tup _, _, _, e => by simp [toD] at e
  | _, _, .bl _, .lst _, _, _, e => by simp [toD] at e
  | _, _, .int _, .non, _, _, e => by simp [toD] at e
  | _, _, .int _, .bl _, _, _, e => by simp [toD] at e
  | _, _, .int _, .str _, _, _, e => by simp [toD] at e
  | _, _, .int _, .tup _, _, _, e => by simp [toD] at e
  | _, _, .int _, .lst _, _, _, e => by simp [toD] at e
  | _, _, .str _, .non, _, _, e => by simp [toD] at e
  | _, _, .str _, .bl _, _, _, e => by simp [toD] at e
  | _, _, .str _, .int _, _, _, e => by simp [toD] at e
  | _, _, .str _, .tup _, _, _, e => by simp [toD] at e
  | _, _, .str _, .lst _, _, _, e => by simp [toD] at e
  | _, _, .tup _, .non, _, _, e => by simp [toD] at e
  | _, _, .tup _, .bl _, _, _, e => by simp [toD] at e
  | _, _, .tup _, .int _, _, _, e => by simp [toD] at e
  | _, _, .tup _, .str _, _, _, e => by simp [toD] at e
  | _, _, .tup _, .lst _, _, _, e => by simp [toD] at e
  | _, _, .lst _, .non, _, _, e => by simp [toD] at e
  | _, _, .lst _, .bl _, _, _, e => by simp [toD] at e
  | _, _, .lst _, .int _, _, _, e => by simp [toD] at e
  | _, _, .lst _, .str _, _, _, e => by simp [toD] at e
  | _, _, .lst _, .tup _, _, _, e => by simp [toD] at e
theorem toDs_inj : ∀ (n m : Nat) (xs ys : List PV), xs.all (shp n) = true → ys.all (shp m) = true → toDs xs = toDs ys → xs = ys
  | _, _, [], [], _, _, _ => rfl
  | _, _, [], _ :: _, _, _, e => by simp [toDs] at e
  | _, _, _ :: _, [], _, _, e => by simp [toDs] at e
  | n, m, x :: xs, y :: ys, h1, h2, e => by
    rw [List.all_cons, Bool.and_eq_true] at h1 h2
    simp only [toDs, List.cons.injEq] at e
    rw [toD_inj n m x y h1.1 h2.1 e.1, toDs_inj n m xs ys h1.2 h2.2 e.2]
end

theorem minL_data {xs : List PV} (S : List PV) (hs : S.all (shp DEP) = true) (ho : ∀ x ∈ S, ∀ y ∈ S, cmpOk x y = true) : ∀ (x : PV), x ∈ S → (∀ y ∈ xs, y ∈ S) → PySem.W.minD (toD x) (xs.map toD) = toD (minL x xs) ∧ minL x xs ∈ S := by
  unfold PySem.W.minD minL
  induction xs with
  | nil => intro x hx _; exact ⟨rfl, hx⟩
  | cons y ys ih =>
    intro x hx hy
    have hy0 := hy y List.mem_cons_self
    rw [List.map_cons, List.foldl_cons, List.foldl_cons]
    have e := plt_data DEP DEP y x (List.all_eq_true.mp hs y hy0) (List.all_eq_true.mp hs x hx) (ho y hy0 x hx)
    simp only [← e]
    by_cases hb : plt y x = true
    · simp only [hb, if_true]
      exact ih y hy0 fun z hz => hy z (List.mem_cons_of_mem _ hz)
    · simp only [hb]
      exact ih x hx fun z hz => hy z (List.mem_cons_of_mem _ hz)
theorem maxL_data {xs : List PV} (S : List PV) (hs : S.all (shp DEP) = true) (ho : ∀ x ∈ S, ∀ y ∈ S, cmpOk x y = true) : ∀ (x : PV), x ∈ S → (∀ y ∈ xs, y ∈ S) → PySem.W.maxD (toD x) (xs.map toD) = toD (maxL x xs) ∧ maxL x xs ∈ S := by
  unfold PySem.W.maxD maxL
  induction xs with
  | nil => intro x hx _; exact ⟨rfl, hx⟩
  | cons y ys ih =>
    intro x hx hy
    have hy0 := hy y List.mem_cons_self
    rw [List.map_cons, List.foldl_cons, List.foldl_cons]
    have e := plt_data DEP DEP x y (List.all_eq_true.mp hs x hx) (List.all_eq_true.mp hs y hy0) (ho x hx y hy0)
    simp only [← e]
    by_cases hb : plt x y = true
    · simp only [hb, if_true]
      exact ih y hy0 fun z hz => hy z (List.mem_cons_of_mem _ hz)
    · simp only [hb]
      exact ih x hx fun z hz => hy z (List.mem_cons_of_mem _ hz)
/-- the item that is told by its data -/
theorem pick_item {P : Program} {w : World} {as : List Addr} {K : PySem.W.Frag} {G H : Hp} {D : DS} {h h' : Heap} (W : Wd as K G H D) {vs : List V} {its : List Value} {xs : List PV} (rv : Vals vs its) (t : TrS as K G vs xs)
    (hs : xs.all (shp DEP) = true) (rd : ∀ (v : V) (u : Value) (d : PyData), Dp K H v d → RelV v u → ∃ bs, Reads h u d bs) (k : ∀ b o, h.get? b = some o → h'.get? b = some o)
    {i : Nat} {u : Value} {m : PV} {bs : List Addr} (hi : its.toArray[i]? = some u) (hm : shp DEP m = true) (hr : Reads h' u (toD m) bs) : ∃ v, RelV v u ∧ Tr as K G v m := by
  have hi' : its[i]? = some u := by simpa using hi
  have hlt : i < vs.length := by
    rw [rv.length]
    exact (List.getElem?_eq_some_iff.mp hi').1
  have hv : vs[i]? = some vs[i] := List.getElem?_eq_getElem hlt
  obtain ⟨u', e1, r1⟩ := rv.get hv
  rw [hi'] at e1
  cases e1
  obtain ⟨x, hx, tx⟩ := t.getV hv
  have hxs := List.all_eq_true.mp hs x (List.mem_of_getElem? hx)
  obtain ⟨cs, r2⟩ := rd _ u _ (tx.dp W hxs) r1
  have e2 := PySem.SeqAt.Reads.unique _ _ _ _ _ (lay_shp DEP x hxs).1 (PyProof.Rows.Reads.keeps k r2) hr
  have e3 := toD_inj DEP DEP x m hxs hm e2
  subst e3
  exact ⟨_, r1, tx⟩

section
variable {X : Cx}
theorem TrRs.one {as : List Addr} {K : PySem.W.Frag} {G H : Hp} {vs : List V} {p : PV} (t : TrRs as K G H vs [p]) : ∃ x, vs = [x] ∧ TrR as K G H x p := by
  cases t with
  | cons h t => cases t; exact ⟨_, rfl, h⟩
theorem TrRs.two {as : List Addr} {K : PySem.W.Frag} {G H : Hp} {vs : List V} {p q : PV} (t : TrRs as K G H vs [p, q]) : ∃ x y, vs = [x, y] ∧ TrR as K G H x p ∧ TrR as K G H y q := by
  cases t with
  | cons h t => obtain ⟨y, rfl, h2⟩ := t.one; exact ⟨_, _, rfl, h, h2⟩
theorem TrRs.len {as : List Addr} {K : PySem.W.Frag} {G H : Hp} : ∀ {vs : List V} {ps : List PV}, TrRs as K G H vs ps → vs.length = ps.length
  | _, _, .nil => rfl
  | _, _, .cons _ t => congrArg Nat.succ (TrRs.len t)

theorem bi_len : CallR X (.builtin "len") (rBiM X.K .len) := by
  intro pins s σ H vs us Q I r h
  obtain ⟨as, G, D, ps, z, w, t, e, f⟩ := h
  unfold pBi at e
  split at e <;> first | (rename_i h0; cases h0; done) | skip
  all_goals try (cases e; done)
  · rename_i xs _
    obtain ⟨x, rfl, tx⟩ := t.one
    obtain ⟨a, ws, rfl, h1, t1⟩ := tx.lst w
    cases e
    exact call_len pins s σ H _ us Q I r ⟨_, ws.length, rfl, .inl ⟨ws, .of h1, rfl⟩, by rw [t1.len]; exact f.same w (.int _)⟩
  · rename_i xs _
    obtain ⟨x, rfl, tx⟩ := t.one
    obtain ⟨a, ws, rfl, h1, _, t1⟩ := tx.tup w
    cases e
    exact call_len pins s σ H _ us Q I r ⟨_, ws.length, rfl, .inr ⟨ws, .of h1, rfl⟩, by rw [t1.len]; exact f.same w (.int _)⟩
  · rename_i ns _
    obtain ⟨x, rfl, tx⟩ := t.one
    obtain ⟨a, rfl, h1⟩ := tx.scr w
    cases e
    exact call_len pins s σ H _ us Q I r ⟨_, ns.length, rfl, .inl ⟨_, h1, by rw [List.length_map]⟩, f.same w (.int _)⟩
  · rename_i y _
    split at e
    · rename_i hl
      obtain ⟨x, rfl, tx⟩ := t.one
      obtain rfl := tx.str
      cases e
      exact call_len pins s σ H _ us Q I r ⟨_, y.length, rfl, ⟨line_lim hl, rfl⟩, f.same w (.int _)⟩
    · cases e
  · rename_i tt kvs _
    obtain ⟨x, rfl, tx⟩ := t.one
    cases e
    rcases tx.dct w with ⟨_, a, ks, rfl, h1, tk⟩ | ⟨_, a, ks, rfl, h1, tk⟩
    · obtain ⟨u, rfl, ru⟩ := vals1 r
      cases ru
      exact d_len I h1 fun t s' I' => ⟨.int kvs.length, H, I', ⟨t, by rw [tk.len]⟩, f.same w (.int _)⟩
    · obtain ⟨u, rfl, ru⟩ := vals1 r
      cases ru
      obtain ⟨z, hd, ys, rel, dd⟩ := dt_rd I.hok h1
      have hl : ks.length = ys.length := Paired.length rel
      refine PySem.call_len_dictH hd dd (by rw [← hl]; rw [sizeLine_eq] at z; omega) ?_
      rw [← hl, tk.len]
      exact ⟨.int _, H, I.tok _, ⟨_, rfl⟩, f.same w (.int _)⟩
theorem bi_abs : CallR X (.builtin "abs") (rBiM X.K .abs) := by
  intro pins s σ H vs us Q I r h
  obtain ⟨as, G, D, ps, z, w, t, e, f⟩ := h
  unfold pBi at e
  split at e <;> first | (rename_i h0; cases h0; done) | skip
  all_goals try (cases e; done)
  obtain ⟨x, rfl, tx⟩ := t.one
  obtain rfl := tx.int
  cases e
  exact call_abs pins s σ H _ us Q I r ⟨_, rfl, f.same w (.int _)⟩
theorem bi_int : CallR X (.type "int") (rBiM X.K .int) := by
  intro pins s σ H vs us Q I r h
  obtain ⟨as, G, D, ps, z, w, t, e, f⟩ := h
  unfold pBi at e
  split at e <;> first | (rename_i h0; cases h0; done) | skip
  all_goals try (cases e; done)
  · obtain ⟨x, rfl, tx⟩ := t.one
    obtain rfl := tx.int
    cases e
    exact call_int1 pins s σ H _ us Q I r (.inl ⟨_, rfl, f.same w (.int _)⟩)
  · obtain ⟨x, rfl, tx⟩ := t.one
    obtain rfl := tx.bl
    cases e
    exact call_int1 pins s σ H _ us Q I r (.inr ⟨_, rfl, f.same w (.int _)⟩)
theorem bi_all (hc : X.calm = true) : CallR X (.builtin "all") (rBiM X.K .all) := by
  intro pins s σ H vs us Q I r h
  obtain ⟨as, G, D, ps, z, w, t, e, f⟩ := h
  unfold pBi at e
  split at e <;> first | (rename_i h0; cases h0; done) | skip
  all_goals try (cases e; done)
  obtain ⟨x, rfl, tx⟩ := t.one
  obtain ⟨a, ws, rfl, h1, t1⟩ := tx.lst w
  obtain ⟨bs, e1, e2⟩ := Option.map_eq_some_iff.mp e
  have := mapO_bls e1
  subst this
  have := t1.toBls
  subst this
  subst e2
  exact cr_all hc pins s σ H _ us Q I r ⟨a, bs, rfl, .of h1, f.same w (.bl _)⟩
theorem bi_any (hc : X.calm = true) : CallR X (.builtin "any") (rBiM X.K .any) := by
  intro pins s σ H vs us Q I r h
  obtain ⟨as, G, D, ps, z, w, t, e, f⟩ := h
  unfold pBi at e
  split at e <;> first | (rename_i h0; cases h0; done) | skip
  all_goals try (cases e; done)
  obtain ⟨x, rfl, tx⟩ := t.one
  obtain ⟨a, ws, rfl, h1, t1⟩ := tx.lst w
  obtain ⟨bs, e1, e2⟩ := Option.map_eq_some_iff.mp e
  have := mapO_bls e1
  subst this
  have := t1.toBls
  subst this
  subst e2
  exact cr_any hc pins s σ H _ us Q I r ⟨a, bs, rfl, .of h1, f.same w (.bl _)⟩
theorem bi_sum (hc : X.calm = true) : CallR X (.builtin "sum") (rBiM X.K .sum) := by
  intro pins s σ H vs us Q I r h
  obtain ⟨as, G, D, ps, z, w, t, e, f⟩ := h
  unfold pBi at e
  split at e <;> first | (rename_i h0; cases h0; done) | skip
  all_goals try (cases e; done)
  obtain ⟨x, rfl, tx⟩ := t.one
  obtain ⟨xs, e1, e2⟩ := Option.bind_eq_some_iff.mp e
  obtain ⟨ns, e3, e4⟩ := Option.map_eq_some_iff.mp e2
  have := mapO_ints e3
  subst this
  subst e4
  obtain ⟨a, ws, rfl, h1, t1⟩ := tx.seq w e1
  have := t1.toInts
  subst this
  rcases h1 with h1 | ⟨h1, _, _⟩
  · exact cr_sum hc pins s σ H _ us Q I r ⟨a, ns, rfl, .of h1, f.same w (.int _)⟩
  · obtain ⟨its, rv, pl, hz⟩ := I.tuple (.of h1)
    rw [Vals.ref1 r]
    have hi := rv.ints
    obtain ⟨xs, ex⟩ := hi.allInts.items
    have hn : numsOf (intItems xs).toList = ns := by rw [← ex]; exact hi.numsOf
    rw [nums_intItems] at hn
    rw [ex] at pl
    refine PySem.W.ktm_sumG (I.ok.hd hc) pl fun h' tk t' hk => ?_
    refine ⟨.int ns.sum, H, I.kept hk, ?_, f.same w (.int _)⟩
    rw [preSum_eq, List.take_of_length_le (by simp), hn]; exact ⟨_, rfl⟩
theorem bi_tuple : CallR X (.type "tuple") (rBiM X.K .tuple) := by
  intro pins s σ H vs us Q I r h
  obtain ⟨as, G, D, ps, z, w, t, e, f⟩ := h
  unfold pBi at e
  split at e <;> first | (rename_i h0; cases h0; done) | skip
  all_goals try (cases e; done)
  obtain ⟨x, rfl, tx⟩ := t.one
  obtain ⟨xs, e1, e2⟩ := Option.map_eq_some_iff.mp e
  subst e2
  obtain ⟨a, ws, rfl, h1, t1⟩ := tx.seq w e1
  rcases h1 with h1 | ⟨h1, h2, _⟩
  · exact call_tuple_of pins s σ H _ us Q I r ⟨a, ws, rfl, .inl ⟨.of h1, fun l hl => f.new w hl (.tup upd_same (t1.up (le_new (w.free hl))))⟩⟩
  · exact call_tuple_of pins s σ H _ us Q I r ⟨a, ws, rfl, .inr ⟨.of h1, f.same w (.tup h2 t1)⟩⟩
theorem trS_keysK {as : List Addr} {K : PySem.W.Frag} {G : Hp} : ∀ {ks : List (Key × V)} {kvs : List (PV × PV)}, TrK as K G ks kvs → TrS as K G (ks.map fun kv => kV kv.1) (kvs.map (·.1))
  | _, _, .nil => .nil
  | _, _, .cons (k := k) h t => by
    refine .cons ?_ (trS_keysK t)
    cases k with
    | inl i => exact .int i
    | inr s => exact .str s
theorem bi_list (hc : X.calm = true) : CallR X (.type "list") (rBiF X.K .list) := by
  intro pins s σ H vs us Q I r h
  obtain ⟨as, G, D, ps, z, w, t, e, f⟩ := h
  unfold pBi at e
  split at e <;> first | (rename_i h0; cases h0; done) | skip
  all_goals try (cases e; done)
  · obtain ⟨x, rfl, tx⟩ := t.one
    rcases tx.dct w with ⟨_, a, ks, rfl, h1, tk⟩ | ⟨e9, a, ks, rfl, h1, tk⟩
    · cases e
      exact call_listD hc pins s σ H _ us Q I r ⟨a, ks, rfl, h1, fun p hp => f p _ hp ⟨_, upd_same, trS_keysK tk⟩⟩
    · cases e9
  · obtain ⟨x, rfl, tx⟩ := t.one
    cases e
    obtain ⟨a, ws, rfl, h1, t1⟩ := tx.lst w
    exact call_list_of pins s σ H _ us Q I r ⟨a, ws, rfl, .inl (.of h1), fun l hl => f l _ hl ⟨_, upd_same, t1⟩⟩
  · obtain ⟨x, rfl, tx⟩ := t.one
    cases e
    obtain ⟨a, ws, rfl, h1, _, t1⟩ := tx.tup w
    exact call_list_of pins s σ H _ us Q I r ⟨a, ws, rfl, .inr (.of h1), fun l hl => f l _ hl ⟨_, upd_same, t1⟩⟩
mutual
theorem reads_bound {h : Heap} : ∀ {v : Value} {d : PyData} {as : List Addr}, Reads h v d as → ∀ a ∈ as, a < h.objs.size
  | _, _, _, .none, _, hm => absurd hm (by simp)
  | _, _, _, .bool _, _, hm => absurd hm (by simp)
  | _, _, _, .int _ _, _, hm => absurd hm (by simp)
  | _, _, _, .str _ _, _, hm => absurd hm (by simp)
  | _, _, _, .list ho _ _ r, b, hm => by
    rcases List.mem_cons.mp hm with e | hm
    · rw [e]; exact Heap.lt_size ho
    · exact readsAll_bound r b hm
  | _, _, _, .tuple ho _ _ r, b, hm => readsAll_bound r b hm
  | _, _, _, .dict ho _ _ r r2, b, hm => by
    rcases List.mem_append.mp hm with hm | hm
    · rcases List.mem_cons.mp hm with e | hm
      · rw [e]; exact Heap.lt_size ho
      · exact readsAll_bound r b hm
    · exact readsAll_bound r2 b hm
theorem readsAll_bound {h : Heap} : ∀ {v : List Value} {d : List PyData} {as : List Addr}, ReadsAll h v d as → ∀ a ∈ as, a < h.objs.size
  | _, _, _, .nil, _, hm => absurd hm (by simp)
  | _, _, _, .cons r t, b, hm => by
    rcases List.mem_append.mp hm with hm | hm
    · exact reads_bound r b hm
    · exact readsAll_bound t b hm
end
theorem each_len {α : Type} {R : Value → α → Prop} {us : List Value} {xs : List α} (h : PySem.W.EachIs R us xs) : us.length = xs.length := by
  induction h with
  | nil => rfl
  | cons _ _ ih => rw [List.length_cons, List.length_cons, ih]
theorem merge_mem {xs : List PV} {r : PV → PV → Bool} {x : PV} (h : x ∈ xs.mergeSort r) : x ∈ xs := (List.mergeSort_perm xs r).mem_iff.mp h
theorem dep_all {xs : List PV} (hs : xs.all (shp DEP) = true) : ∀ x ∈ xs, (toD x).depth ≤ 20 := fun x hx => (lay_shp DEP x (List.all_eq_true.mp hs x hx)).2
/-- sorted of a collected list of values -/
theorem sorted_collected (hu : X.A.units + 65 < cLine) {x : Value} {xs : List PV} {as : List Addr} {G : Hp} {D : DS} {pins : List (Addr × Obj)} {s : Shared} {σ : L2.St} {H : Hp} {Q : VK} (w : Wd as X.K G H D)
    (hx : ordOk xs = true) (hx2 : srtOk xs = true) (f : FinF as X.K G H D (.lst (xs.mergeSort fun a b => !plt b a)) Q) 
    (hcol : ∀ (Q' : List Value → Shared → Prop) (E' : Value → Shared → Prop), (∀ its h' tk, its.length ≤ sizeLine → PySem.W.EachIs (Itm as X.K G) its xs → Inv X pins σ H { s with heap := h', toks := tk } → Q' its { s with heap := h', toks := tk }) → wpAny (model X.prog X.w) X.A.in1 (collect x) Q' E' s) :
    wpAny (model X.prog X.w) X.A (call (.builtin "sorted") [x]) (EP X pins σ Q) X.xe s := by
  obtain ⟨hs, _⟩ := ord_all hx
  refine Calls.call_function_entry PyProof.Rows.kind_sorted PyProof.Rows.plain_sorted PyProof.Rows.entry_sorted (PyProof.Rows.args_sorted1 _) ?_
  unfold Builtin.«sorted»
  refine wpAny_bind (m := checkCount "sorted" 1 1 _) (wpAny_pure ?_)
  refine wpAny_bind (hcol _ _ fun its h' tk hz e0 I1 => ?_)
  refine wpAny_bind (wpAny_newList ?_ hz)
  have hoL : (h'.push (seqObj "list" its.toArray 0)).get? h'.objs.size = some (seqObj "list" its.toArray 0) := Heap.get?_push_size _ rfl
  show wpAny _ _ _ _ _ { s with heap := h'.push (seqObj "list" its.toArray 0), toks := tk }
  have er : PySem.W.EachIs (fun v b => ∃ bs, Reads h' v (toD b) bs) its xs := each_reads I1 w e0 hs
  have er2 : PySem.W.EachIs (fun v b => ∃ bs, Reads (h'.push (seqObj "list" its.toArray 0)) v (toD b) bs ∧ h'.objs.size ∉ bs) its xs := by
    refine er.mono fun v b ⟨bs, rd⟩ => ⟨bs, PyProof.Rows.Reads.keeps (fun c o q => Heap.get?_push_of_some _ q) rd, fun hm => ?_⟩
    exact absurd (reads_bound rd _ hm) (Nat.lt_irrefl _)
  refine wpAny_bind (wpAny_holding (PySem.W.list_sort_data (A := X.A.in1) (s := { s with heap := h'.push (seqObj "list" its.toArray 0), toks := tk }) (enc := toD) hoL e0 er2 (ord_alike hx) (srt_sortable hx hx2) (by rw [← each_len e0]; exact hz) (fun b hb => ?_) fun out hl eo => ?_))
  · have := dep_all hs b hb
    show X.A.units + 1 + 1 + _ < _
    omega
  · rw [← merge_eq hx] at eo
    obtain ⟨vs, rv, tv⟩ := of_each eo
    obtain ⟨e', he'⟩ := PyProof.Rows.sortedHeap_at (vs := its) (out := out.toArray) hoL
    have hlen : vs.length ≤ sizeLine := by rw [rv.length, hl, ← each_len e0]; exact hz
    have hn := I1.hok.fresh (Nat.le_refl _)
    refine wpAny_pure ⟨_, rfl, .ref h'.objs.size, upd H h'.objs.size (.lst vs), I1.laid (t' := tk) (fun b u e => ?_) (Nat.le_refl _)
      (show ObjOk X.prog X.w _ _ _ (.lst vs) from ⟨hlen, out, e', rv, he'⟩), rfl, f _ _ hn ⟨_, upd_same, tv⟩⟩
    have hb : b < h'.objs.size := Heap.lt_size e
    rw [PyProof.Rows.sortedHeap_old (Nat.ne_of_lt hb) (by rw [size_push']; exact Nat.lt_succ_of_lt hb)]
    exact Heap.get?_push_of_some _ e
theorem bi_sorted (hu : X.A.units + 65 < cLine) (hc : X.calm = true) : CallR X (.builtin "sorted") (rBiF X.K .sorted) := by
  intro pins s σ H vs us Q I r h
  obtain ⟨as, G, D, ps, z, w, t, e, f⟩ := h
  have hp : ∀ {ys : List PV}, (pSort ys).map PV.lst = some z → ordOk ys = true ∧ srtOk ys = true ∧ z = .lst (ys.mergeSort fun a b => !plt b a) := fun {ys} h => by
    obtain ⟨l, h1, h2⟩ := Option.map_eq_some_iff.mp h
    have h1' : (if (ordOk ys && srtOk ys) = true then some (ys.mergeSort fun a b => !plt b a) else none) = some l := h1
    split at h1'
    · rename_i hh
      rw [Bool.and_eq_true] at hh
      cases h1'
      exact ⟨hh.1, hh.2, h2.symm⟩
    · cases h1'
  unfold pBi at e
  split at e <;> first | (rename_i h0; cases h0; done) | skip
  all_goals try (cases e; done)
  · obtain ⟨x, rfl, tx⟩ := t.one
    obtain ⟨h1, h2, rfl⟩ := hp e
    obtain ⟨a, ws, rfl, g1, t1⟩ := tx.lst w
    obtain ⟨its, rv, pl, hz⟩ := I.list (.of g1)
    rw [Vals.ref1 r]
    obtain ⟨o, ho, hc, n, hd⟩ := pl.isList
    refine sorted_collected hu w h1 h2 f fun Q' E' hq => ?_
    exact PySem.wpAny_collect_seq a (.inl rfl) ho hc hd (fun h' kp => by simpa using hq its h' s.toks (by rw [← rv.length]; exact hz) (each_of rv t1) (I.kept kp)) (by simp only [List.size_toArray]; rw [← rv.length]; exact hz)
  · obtain ⟨x, rfl, tx⟩ := t.one
    obtain ⟨h1, h2, rfl⟩ := hp e
    obtain ⟨a, ws, rfl, g1, _, t1⟩ := tx.tup w
    obtain ⟨its, rv, pl, hz⟩ := I.tuple (.of g1)
    rw [Vals.ref1 r]
    obtain ⟨o, ho, hc, n, hd⟩ := id pl
    refine sorted_collected hu w h1 h2 f fun Q' E' hq => ?_
    exact PySem.wpAny_collect_seq a (.inr rfl) ho hc hd (fun h' kp => by simpa using hq its h' s.toks (by rw [← rv.length]; exact hz) (each_of rv t1) (I.kept kp)) (by simp only [List.size_toArray]; rw [← rv.length]; exact hz)
  · obtain ⟨x, rfl, tx⟩ := t.one
    obtain ⟨h1, h2, rfl⟩ := hp e
    rcases tx.dct w with ⟨_, a, ks, rfl, g1, tk⟩ | ⟨e9, a, ks, rfl, g1, tk⟩
    · rw [Vals.ref1 r]
      obtain ⟨z, lo, kvs, rel, dd⟩ := dk_rd I.hok g1
      obtain ⟨ep, hat⟩ := dd.dictAt
      have ek : (ks.map fun kv => kV kv.1) = kvs.map fun p => kV p.1 := by
        have e := congrArg (List.map kV) rel.keys
        rw [List.map_map, List.map_map] at e
        exact e
      refine sorted_collected hu w h1 h2 f fun Q' E' hq => ?_
      refine PySem.W.kdu_collect (A := X.A.in1) (PySem.W.kdl_dict (knd := mixKind X.prog X.w) (kvs := kvs) (ep := ep) lo) (I.ok.hd hc) hat (by rw [← rel.length]; exact z) fun h' tk1 acc hk hacc => ?_
      have hv : Vals (kvs.map fun p => kV p.1) acc.toList := keys_at (by rw [Array.length_toList]; exact hacc.1) fun j v e => hacc.2 j v (by rw [← Array.getElem?_toList]; exact e)
      have tv := trS_keysK tk
      rw [ek] at tv
      exact hq acc.toList h' _ (by rw [Array.length_toList, hacc.1, ← rel.length]; exact z) (each_of hv tv) (I.kept hk)
    · cases e9
theorem bi_min (hu : X.A.units + 65 < cLine) (hc : X.calm = true) : CallR X (.builtin "min") (rBiM X.K .min) := by
  intro pins s σ H vs us Q I r h
  obtain ⟨as, G, D, ps, z, w, t, e, f⟩ := h
  have hp : ∀ {ys : List PV}, pMin ys = some z → ∃ y l, ys = y :: l ∧ ordOk ys = true ∧ z = minL y l := fun {ys} h => by
    cases ys with
    | nil => cases h
    | cons y l =>
      have h1' : (if ordOk (y :: l) = true then some (minL y l) else none) = some z := h
      split at h1'
      · cases h1'
        exact ⟨y, l, rfl, by assumption, rfl⟩
      · cases h1'
  unfold pBi at e
  split at e <;> first | (rename_i h0; cases h0; done) | skip
  all_goals try (cases e; done)
  · obtain ⟨x, rfl, tx⟩ := t.one
    obtain ⟨y, l, rfl, ho, rfl⟩ := hp e
    obtain ⟨a, ws, rfl, g1, t1⟩ := tx.lst w
    obtain ⟨its, rv, pl, hz⟩ := I.list (.of g1)
    rw [Vals.ref1 r]
    obtain ⟨hs, hcmp⟩ := ord_all ho
    obtain ⟨bs, ra⟩ := Dp.readsAll I (toDs (y :: l)) ws its (t1.dp w hs) rv
    obtain ⟨em, hmem⟩ := minL_data (xs := l) (y :: l) hs hcmp y List.mem_cons_self (fun z hz => List.mem_cons_of_mem _ hz)
    have hd := (lay_shps DEP _ hs).2
    rw [show toDs (y :: l) = toD y :: toDs l from by simp [toDs]] at ra hd
    refine PySem.W.min_list_data (I.ok.hd hc) pl.isList (by simpa using ra) (by have := ord_AlikeAll ho; rwa [show toDs (y :: l) = toD y :: toDs l from by simp [toDs]] at this) (by have : DEP = 20 := rfl; omega) fun i v h' tk bs hi hr hk => ?_
    rw [toDs_map, em] at hr
    obtain ⟨v', rv', tv⟩ := pick_item (P := X.prog) (w := X.w) (h := s.heap) (h' := h') w rv t1 hs (fun v u d hd ru => Dp.reads I _ v u hd ru) hk hi (List.all_eq_true.mp hs _ hmem) hr
    exact ⟨v', H, I.kept hk, rv', f.same w tv⟩
  · obtain ⟨x, rfl, tx⟩ := t.one
    obtain ⟨y, l, rfl, ho, rfl⟩ := hp e
    obtain ⟨a, ws, rfl, g1, _, t1⟩ := tx.tup w
    obtain ⟨its, rv, pl, hz⟩ := I.tuple (.of g1)
    rw [Vals.ref1 r]
    obtain ⟨hs, hcmp⟩ := ord_all ho
    obtain ⟨bs, ra⟩ := Dp.readsAll I (toDs (y :: l)) ws its (t1.dp w hs) rv
    obtain ⟨em, hmem⟩ := minL_data (xs := l) (y :: l) hs hcmp y List.mem_cons_self (fun z hz => List.mem_cons_of_mem _ hz)
    have hd := (lay_shps DEP _ hs).2
    rw [show toDs (y :: l) = toD y :: toDs l from by simp [toDs]] at ra hd
    refine PySem.W.min_tuple_data (I.ok.hd hc) pl (by simpa using ra) (by have := ord_AlikeAll ho; rwa [show toDs (y :: l) = toD y :: toDs l from by simp [toDs]] at this) (by have : DEP = 20 := rfl; omega) fun i v h' tk bs hi hr hk => ?_
    rw [toDs_map, em] at hr
    obtain ⟨v', rv', tv⟩ := pick_item (P := X.prog) (w := X.w) (h := s.heap) (h' := h') w rv t1 hs (fun v u d hd ru => Dp.reads I _ v u hd ru) hk hi (List.all_eq_true.mp hs _ hmem) hr
    exact ⟨v', H, I.kept hk, rv', f.same w tv⟩
  · obtain ⟨x, y, rfl, tx, ty⟩ := t.two
    obtain rfl := tx.int
    obtain rfl := ty.int
    cases e
    exact call_min2 hc pins s σ H _ us Q I r ⟨_, _, rfl, f.same w (.int _)⟩
theorem bi_max (hu : X.A.units + 65 < cLine) (hc : X.calm = true) : CallR X (.builtin "max") (rBiM X.K .max) := by
  intro pins s σ H vs us Q I r h
  obtain ⟨as, G, D, ps, z, w, t, e, f⟩ := h
  have hp : ∀ {ys : List PV}, pMax ys = some z → ∃ y l, ys = y :: l ∧ ordOk ys = true ∧ z = maxL y l := fun {ys} h => by
    cases ys with
    | nil => cases h
    | cons y l =>
      have h1' : (if ordOk (y :: l) = true then some (maxL y l) else none) = some z := h
      split at h1'
      · cases h1'
        exact ⟨y, l, rfl, by assumption, rfl⟩
      · cases h1'
  unfold pBi at e
  split at e <;> first | (rename_i h0; cases h0; done) | skip
  all_goals try (cases e; done)
  · obtain ⟨x, rfl, tx⟩ := t.one
    obtain ⟨y, l, rfl, ho, rfl⟩ := hp e
    obtain ⟨a, ws, rfl, g1, t1⟩ := tx.lst w
    obtain ⟨its, rv, pl, hz⟩ := I.list (.of g1)
    rw [Vals.ref1 r]
    obtain ⟨hs, hcmp⟩ := ord_all ho
    obtain ⟨bs, ra⟩ := Dp.readsAll I (toDs (y :: l)) ws its (t1.dp w hs) rv
    obtain ⟨em, hmem⟩ := maxL_data (xs := l) (y :: l) hs hcmp y List.mem_cons_self (fun z hz => List.mem_cons_of_mem _ hz)
    have hd := (lay_shps DEP _ hs).2
    rw [show toDs (y :: l) = toD y :: toDs l from by simp [toDs]] at ra hd
    refine PySem.W.max_list_data (I.ok.hd hc) pl.isList (by simpa using ra) (by have := ord_AlikeAll ho; rwa [show toDs (y :: l) = toD y :: toDs l from by simp [toDs]] at this) (by have : DEP = 20 := rfl; omega) fun i v h' tk bs hi hr hk => ?_
    rw [toDs_map, em] at hr
    obtain ⟨v', rv', tv⟩ := pick_item (P := X.prog) (w := X.w) (h := s.heap) (h' := h') w rv t1 hs (fun v u d hd ru => Dp.reads I _ v u hd ru) hk hi (List.all_eq_true.mp hs _ hmem) hr
    exact ⟨v', H, I.kept hk, rv', f.same w tv⟩
  · obtain ⟨x, rfl, tx⟩ := t.one
    obtain ⟨y, l, rfl, ho, rfl⟩ := hp e
    obtain ⟨a, ws, rfl, g1, _, t1⟩ := tx.tup w
    obtain ⟨its, rv, pl, hz⟩ := I.tuple (.of g1)
    rw [Vals.ref1 r]
    obtain ⟨hs, hcmp⟩ := ord_all ho
    obtain ⟨bs, ra⟩ := Dp.readsAll I (toDs (y :: l)) ws its (t1.dp w hs) rv
    obtain ⟨em, hmem⟩ := maxL_data (xs := l) (y :: l) hs hcmp y List.mem_cons_self (fun z hz => List.mem_cons_of_mem _ hz)
    have hd := (lay_shps DEP _ hs).2
    rw [show toDs (y :: l) = toD y :: toDs l from by simp [toDs]] at ra hd
    refine PySem.W.max_tuple_data (I.ok.hd hc) pl (by simpa using ra) (by have := ord_AlikeAll ho; rwa [show toDs (y :: l) = toD y :: toDs l from by simp [toDs]] at this) (by have : DEP = 20 := rfl; omega) fun i v h' tk bs hi hr hk => ?_
    rw [toDs_map, em] at hr
    obtain ⟨v', rv', tv⟩ := pick_item (P := X.prog) (w := X.w) (h := s.heap) (h' := h') w rv t1 hs (fun v u d hd ru => Dp.reads I _ v u hd ru) hk hi (List.all_eq_true.mp hs _ hmem) hr
    exact ⟨v', H, I.kept hk, rv', f.same w tv⟩
  · obtain ⟨x, y, rfl, tx, ty⟩ := t.two
    obtain rfl := tx.int
    obtain rfl := ty.int
    cases e
    exact call_max2 hc pins s σ H _ us Q I r ⟨_, _, rfl, f.same w (.int _)⟩
theorem kPV_kV {as : List Addr} {K : PySem.W.Frag} {G : Hp} (k : Key) : Tr as K G (kV k) (kPV k) := by
  cases k with
  | inl i => exact .int i
  | inr s => exact .str s
theorem TrK.any {as : List Addr} {K : PySem.W.Frag} {G : Hp} (k : Key) : ∀ {ks : List (Key × V)} {kvs : List (PV × PV)}, TrK as K G ks kvs → (kvs.any fun p => peq p.1 (kPV k)) = ks.any fun kv => decide (kv.1 = k)
  | _, _, .nil => rfl
  | _, _, .cons h t => by rw [List.any_cons, List.any_cons, kPV_peq, TrK.any k t]
theorem TrK.mapPut {as : List Addr} {K : PySem.W.Frag} {G : Hp} (k : Key) {v : V} {x : PV} (hv : Tr as K G v x) : ∀ {ks : List (Key × V)} {kvs : List (PV × PV)}, TrK as K G ks kvs →
    TrK as K G (ks.map fun kv => if kv.1 = k then (kv.1, v) else kv) (kvs.map fun p => if peq p.1 (kPV k) = true then (p.1, x) else p)
  | _, _, .nil => .nil
  | _, _, .cons (k := k') h t => by
    rw [List.map_cons, List.map_cons]
    by_cases e : k' = k
    · simp only [kPV_peq, e, decide_true, if_true]
      exact .cons hv (TrK.mapPut k hv t)
    · simp only [kPV_peq, decide_eq_false e, if_neg e]
      exact .cons h (TrK.mapPut k hv t)
theorem TrK.app {as : List Addr} {K : PySem.W.Frag} {G : Hp} : ∀ {ks ls : List (Key × V)} {kvs lvs : List (PV × PV)}, TrK as K G ks kvs → TrK as K G ls lvs → TrK as K G (ks ++ ls) (kvs ++ lvs)
  | _, _, _, _, .nil, r => r
  | _, _, _, _, .cons h t, r => .cons h (TrK.app t r)
theorem TrK.put {as : List Addr} {K : PySem.W.Frag} {G : Hp} (k : Key) {v : V} {x : PV} (hv : Tr as K G v x) {ks : List (Key × V)} {kvs : List (PV × PV)} (t : TrK as K G ks kvs) : TrK as K G (putK ks k v) (dPut (kPV k) x kvs) := by
  unfold putK dPut
  rw [t.any k]
  split
  · exact t.mapPut k hv
  · exact t.app (.cons hv .nil)
theorem TrK.merge {as : List Addr} {K : PySem.W.Frag} {G : Hp} : ∀ {acc : List (Key × V)} {accP : List (PV × PV)} {ks : List (Key × V)} {kvs : List (PV × PV)}, TrK as K G acc accP → TrK as K G ks kvs → TrK as K G (mergeK acc ks) (dMerge accP kvs)
  | _, _, _, _, a, .nil => a
  | acc, accP, _, _, a, .cons (k := k) (v := v) (x := x) (ks := ks) (kvs := kvs) h t => by
    have r := TrK.merge (acc := putK acc k v) (accP := dPut (kPV k) x accP) (a.put k h) t
    exact r
theorem kTs_peq {as : List Addr} {K : PySem.W.Frag} {G : Hp} (k k' : List Key) : peq (.tup (k'.map kPV)) (.tup (k.map kPV)) = decide (k' = k) := by rw [peq, kPVs_peq]
theorem TrT.any {as : List Addr} {K : PySem.W.Frag} {G : Hp} (k : List Key) : ∀ {ks : List (List Key × V)} {kvs : List (PV × PV)}, TrT as K G ks kvs → (kvs.any fun p => peq p.1 (.tup (k.map kPV))) = ks.any fun kv => decide (kv.1 = k)
  | _, _, .nil => rfl
  | _, _, .cons h t => by rw [List.any_cons, List.any_cons, kTs_peq (as := as) (K := K) (G := G), TrT.any k t]
theorem TrT.mapPut {as : List Addr} {K : PySem.W.Frag} {G : Hp} (k : List Key) {v : V} {x : PV} (hv : Tr as K G v x) : ∀ {ks : List (List Key × V)} {kvs : List (PV × PV)}, TrT as K G ks kvs →
    TrT as K G (ks.map fun kv => if kv.1 = k then (kv.1, v) else kv) (kvs.map fun p => if peq p.1 (.tup (k.map kPV)) = true then (p.1, x) else p)
  | _, _, .nil => .nil
  | _, _, .cons (k := k') h t => by
    rw [List.map_cons, List.map_cons]
    by_cases e : k' = k
    · simp only [kTs_peq (as := as) (K := K) (G := G), e, decide_true, if_true]
      exact .cons hv (TrT.mapPut k hv t)
    · simp only [kTs_peq (as := as) (K := K) (G := G), decide_eq_false e, if_neg e]
      exact .cons h (TrT.mapPut k hv t)
theorem TrT.app {as : List Addr} {K : PySem.W.Frag} {G : Hp} : ∀ {ks ls : List (List Key × V)} {kvs lvs : List (PV × PV)}, TrT as K G ks kvs → TrT as K G ls lvs → TrT as K G (ks ++ ls) (kvs ++ lvs)
  | _, _, _, _, .nil, r => r
  | _, _, _, _, .cons h t, r => .cons h (TrT.app t r)
theorem TrT.put {as : List Addr} {K : PySem.W.Frag} {G : Hp} (k : List Key) {v : V} {x : PV} (hv : Tr as K G v x) {ks : List (List Key × V)} {kvs : List (PV × PV)} (t : TrT as K G ks kvs) : TrT as K G (putK ks k v) (dPut (.tup (k.map kPV)) x kvs) := by
  unfold putK dPut
  rw [t.any k]
  split
  · exact t.mapPut k hv
  · exact t.app (.cons hv .nil)
/-- a list of pairs: the addresses of the pairs and what stands there -/
theorem pairs_tr {as : List Addr} {K : PySem.W.Frag} {G H : Hp} {D : DS} (w : Wd as K G H D) : ∀ {vs : List V} {xs : List PV} {ps : List (PV × PV)}, TrS as K G vs xs → mapO pairOf xs = some ps → (ps.all fun p => isKey 0 p.1) = true →
    ∃ (bs : List Addr) (kvs : List (Key × V)), vs = bs.map V.ref ∧ Paired (fun p kv => SqT K H p [kV kv.1, kv.2]) bs kvs ∧ TrK as K G kvs ps
  | _, _, _, .nil, h, _ => by
    cases h
    exact ⟨[], [], rfl, .nil, .nil⟩
  | _, _, _, .cons (x := x) (xs := xs) h t, e, hk => by
    obtain ⟨p, e1, e2⟩ := Option.bind_eq_some_iff.mp (show (pairOf x).bind (fun y => (mapO pairOf xs).bind fun ys => some (y :: ys)) = some _ from e)
    obtain ⟨ps, e3, e4⟩ := Option.bind_eq_some_iff.mp e2
    cases e4
    rw [List.all_cons, Bool.and_eq_true] at hk
    obtain ⟨bs, kvs, r1, r2, r3⟩ := pairs_tr w t e3 hk.2
    unfold pairOf at e1
    split at e1
    · rename_i k v
      cases e1
      obtain ⟨kk, hkk⟩ := isKey0 hk.1
      simp only at hkk
      subst hkk
      cases h with
      | tup g tt =>
        cases tt with
        | cons t1 tt =>
          cases tt with
          | cons t2 tt =>
            cases tt
            have := t1.key
            subst this
            exact ⟨_ :: bs, (kk, _) :: kvs, by rw [List.map_cons, r1], .cons (.of (w.sub _ _ g)) r2, .cons t2 r3⟩
    · cases e1
theorem bi_dict (hc : X.calm = true) : CallR X (.type "dict") (rBiF X.K .dict) := by
  intro pins s σ H vs us Q I r h
  obtain ⟨as, G, D, ps, z, w, t, e, f⟩ := h
  unfold pBi at e
  split at e <;> first | (rename_i h0; cases h0; done) | skip
  all_goals try (cases e; done)
  · obtain ⟨x, rfl, tx⟩ := t.one
    cases e
    rcases tx.dct w with ⟨_, a, ks, rfl, g1, tk⟩ | ⟨e9, a, ks, rfl, g1, tk⟩
    · exact call_dictD pins s σ H _ us Q I r ⟨a, ks, rfl, g1, fun p hp => f p _ hp (.inl ⟨rfl, _, upd_same, tk⟩)⟩
    · cases e9
  · obtain ⟨x, rfl, tx⟩ := t.one
    obtain ⟨qs, e1, e2⟩ := Option.bind_eq_some_iff.mp e
    split at e2
    · rename_i hk
      cases e2
      obtain ⟨a, ws, rfl, g1, t1⟩ := tx.lst w
      obtain ⟨bs, kvs, rfl, r2, r3⟩ := pairs_tr w t1 e1 hk
      exact call_dictP hc pins s σ H _ us Q I r ⟨a, bs, kvs, rfl, .of g1, r2, fun p hp => f p _ hp (.inl ⟨rfl, _, upd_same, TrK.merge .nil r3⟩)⟩
    · cases e2
end
end MP

/-! MP ex: expressions keep their evaluator's promise. -/
namespace MP
open PySem PySem.Spec PyProof.Rows L2

/-- a def's promise, by its reading -/
def spOf (K : PySem.W.Frag) (φ : List PV → DS → Option (PV × DS)) (n : Nat) : Sp := fun vs H Q _ => vs.length = n ∧ ∃ as G D xs r D', Wd as K G H D ∧ TrS as K G vs xs ∧ φ xs D = some (r, D') ∧
  ∀ v G' H', Stp as G H G' H' → Wd as K G' H' D' → Tr as K G' v r → Q v H'
structure Tb where
  fns : List (Str × Nat)
  fr : List Str
  cs : List (Str × Str)
structure Gd (T : Tb) (Φ : Fns) (N : List Str) (sc : Scope) (X : Cx) : Prop where
  n : X.N = N
  sc : X.env.scope = sc
  nd : N.Nodup
  calm : X.calm = true
  xe : X.xe = fun _ _ => False
  un : X.A.units + 65 < cLine
  fn : ∀ (g : Nat) (x : Str) (m : Nat), T.fns[g]? = some (x, m) → ∃ (k : Nat) (f : Addr) (fd : FuncData) (ps : List Str), X.mg x = some (.ref f) ∧ PySem.W.keepIn X.K (.ref f) = true ∧ Binds X.K fd ps [] ∧ Room k X.A ∧ FnOk X.prog X.w X.K X.mg X.base CX0 k f fd ps (spOf X.K (Φ g) m)
  fr : ∀ (j : Nat) (x : Str), T.fr[j]? = some x → X.mg x = none
  cs : ∀ (j : Nat) (x s : Str), T.cs[j]? = some (x, s) → ∃ t, X.mg x = some (.str s t)
theorem Gd.blk {T : Tb} {Φ : Fns} {N : List Str} {sc : Scope} {X : Cx} (g : Gd T Φ N sc X) (s : Shared) (H : Hp) (scope : Scope) (C : Addr) (cl : List (Str × Addr)) (fp : List Addr) : Gd T Φ N (relS scope sc) (X.blk s H scope (compEnvC scope cl C X.env) fp) where
  n := g.n
  sc := by
    have e : (compEnvC scope cl C X.env).scope = relS scope X.env.scope := rfl
    show (compEnvC scope cl C X.env).scope = _
    rw [e, g.sc]
  nd := g.nd
  calm := g.calm
  xe := rfl
  un := g.un
  fn := g.fn
  fr := g.fr
  cs := g.cs

/-! ### what is asked of an evaluation -/
def tE (K : PySem.W.Frag) (Φ : Fns) (c : CE) : TE := fun σ H Q => ∃ as G ρ D x D', Wd as K G H D ∧ Rp as K G H σ ρ ∧ ev Φ c ρ D = some (x, D') ∧ ∀ v G' H', Stp as G H G' H' → Wd as K G' H' D' → Tr as K G' v x → Q v H'
/-- .. its value an operand -/
def tO (K : PySem.W.Frag) (Φ : Fns) (c : CE) : TE := fun σ H Q => ∃ as G ρ D x D', Wd as K G H D ∧ Rp as K G H σ ρ ∧ ev Φ c ρ D = some (x, D') ∧ ∀ v G' H', Stp as G H G' H' → Wd as K G' H' D' → TrO as K G' H' v x → Q v H'
/-- .. its value a new object -/
def tF (K : PySem.W.Frag) (Φ : Fns) (c : CE) : TE := fun σ H Q => ∃ as G ρ D x D', Wd as K G H D ∧ Rp as K G H σ ρ ∧ ev Φ c ρ D = some (x, D') ∧ ∀ p G' H', Stp as G H G' H' → Wd as K G' H' D' → H p = none → G' p = none → OwnO as K G' H' p x → Q (.ref p) H'
inductive TrOs (as : List Addr) (K : PySem.W.Frag) (G H : Hp) : List V → List PV → Prop
  | nil : TrOs as K G H [] []
  | cons {v : V} {x : PV} {vs : List V} {xs : List PV} : TrO as K G H v x → TrOs as K G H vs xs → TrOs as K G H (v :: vs) (x :: xs)
def tA (K : PySem.W.Frag) (Φ : Fns) (c : CEs) : TA := fun σ H Q => ∃ as G ρ D x D', Wd as K G H D ∧ Rp as K G H σ ρ ∧ evs Φ c ρ D = some (x, D') ∧ ∀ v G' H', Stp as G H G' H' → Wd as K G' H' D' → TrS as K G' v x → Q v H'
def tAO (K : PySem.W.Frag) (Φ : Fns) (c : CEs) : TA := fun σ H Q => ∃ as G ρ D x D', Wd as K G H D ∧ Rp as K G H σ ρ ∧ evs Φ c ρ D = some (x, D') ∧ ∀ v G' H', Stp as G H G' H' → Wd as K G' H' D' → TrOs as K G' H' v x → Q v H'
/-- a test -/
def tT (K : PySem.W.Frag) (Φ : Fns) (c : CE) : TT := fun σ H Q => ∃ as G ρ D b D', Wd as K G H D ∧ Rp as K G H σ ρ ∧ ev Φ c ρ D = some (.bl b, D') ∧ ∀ G' H', Stp as G H G' H' → Wd as K G' H' D' → Q b H'
abbrev PV_ (Φ : Fns) (X : Cx) (e : Expr) (c : CE) : Prop := PE X e (tE X.K Φ c)
abbrev PO_ (Φ : Fns) (X : Cx) (e : Expr) (c : CE) : Prop := PE X e (tO X.K Φ c)
abbrev PF_ (Φ : Fns) (X : Cx) (e : Expr) (c : CE) : Prop := PE X e (tF X.K Φ c)
abbrev PA_ (Φ : Fns) (X : Cx) (e : List Expr) (c : CEs) : Prop := PA X e (tA X.K Φ c)
abbrev PB_ (Φ : Fns) (X : Cx) (e : List Expr) (c : CEs) : Prop := PA X e (tAO X.K Φ c)
abbrev PT_ (Φ : Fns) (X : Cx) (e : Expr) (c : CE) : Prop := PT X e (tT X.K Φ c)
/-- weaken a reading -/
theorem pe_imp {X : Cx} {e : Expr} {t u : TE} (h : PE X e t) (i : ∀ σ H Q, u σ H Q → t σ H Q) : PE X e u := ⟨fun pins s σ H Q I q => h.run pins s σ H Q I (i _ _ _ q)⟩
theorem pa_imp {X : Cx} {e : List Expr} {t u : TA} (h : PA X e t) (i : ∀ σ H Q, u σ H Q → t σ H Q) : PA X e u := ⟨fun pos pins s σ H Q I q => h.run pos pins s σ H Q I (i _ _ _ q)⟩
theorem pt_imp {X : Cx} {e : Expr} {t u : TT} (h : PT X e t) (i : ∀ σ H Q, u σ H Q → t σ H Q) : PT X e u := ⟨fun pins s σ H Q I q => h.run pins s σ H Q I (i _ _ _ q)⟩
theorem pw_imp {X : Cx} {e : Expr} {t u : TT} (h : PW X e t) (i : ∀ σ H Q, u σ H Q → t σ H Q) : PW X e u := ⟨fun wh pins s σ H Q I q => h.run wh pins s σ H Q I (i _ _ _ q)⟩

section
variable {T : Tb} {Φ : Fns} {N : List Str} {sc : Scope} {X : Cx} {e a b : Expr} {pos : Pos}
theorem v_o {c : CE} (h : PV_ Φ X e c) : PO_ Φ X e c := pe_imp h fun σ H Q ⟨as, G, ρ, D, x, D', w, r, ee, f⟩ => ⟨as, G, ρ, D, x, D', w, r, ee, fun v G' H' st w' t => f v G' H' st w' (.inl t)⟩
/-- a new object may be told -/
theorem tell_own {as : List Addr} {K : PySem.W.Frag} {G H : Hp} {D : DS} {p : Addr} {z : PV} (w : Wd as K G H D) (hG : G p = none) (ha : p ∉ as) (h : OwnO as K G H p z) :
    ∃ G', Le G G' ∧ (∀ b, G' b ≠ none → G b ≠ none ∨ b = p) ∧ Wd as K G' H D ∧ Tr as K G' (.ref p) z := by
  have key : ∀ o, H p = some o → Wd as K (upd G p o) H D := fun o ho => by
    refine ⟨fun b u hb => ?_, w.nd, w.len, fun a m => ?_, fun j a x h1 h2 => ?_⟩
    · by_cases e : b = p
      · subst e; rw [upd_same] at hb; cases hb; exact ho
      · rw [upd_ne e] at hb; exact w.sub b u hb
    · rw [upd_ne (fun e : a = p => ha (by rw [← e]; exact m))]; exact w.off a m
    · have := (w.sh j a x h1 h2).up (G' := upd G p o) (H' := H) (le_new hG) rfl []
      simpa using this
  have two : ∀ o b, upd G p o b ≠ none → G b ≠ none ∨ b = p := fun o b hb => by
    by_cases e : b = p
    · exact .inr e
    · rw [upd_ne e] at hb; exact .inl hb
  cases z with
  | lst xs =>
    obtain ⟨vs, h1, h2⟩ := h
    exact ⟨_, le_new hG, two _, key _ h1, .lst upd_same (h2.up (le_new hG))⟩
  | dct t kvs =>
    rcases h with ⟨rfl, ks, h1, h2⟩ | ⟨rfl, ks, h1, h2⟩
    · exact ⟨_, le_new hG, two _, key _ h1, .dK (.of upd_same) (h2.up (le_new hG))⟩
    · exact ⟨_, le_new hG, two _, key _ h1, .dT (.of upd_same) (h2.up (le_new hG))⟩
  | _ => exact absurd h id
theorem Wd.some {as : List Addr} {K : PySem.W.Frag} {G H : Hp} {D : DS} (w : Wd as K G H D) {p : Addr} (h : p ∈ as) : H p ≠ none := fun e => w.offp e h
theorem f_v {c : CE} (h : PF_ Φ X e c) : PV_ Φ X e c := pe_imp h fun σ H Q ⟨as, G, ρ, D, x, D', w, r, ee, f⟩ => ⟨as, G, ρ, D, x, D', w, r, ee, fun p G' H' st w' hp hG o => by
  obtain ⟨G2, l, tw, w2, t⟩ := tell_own w' hG (fun m => w.some m hp) o
  refine f _ G2 H' ⟨st.le.trans l, fun b hb => ?_, st.kp, st.sm⟩ w2 t
  rcases tw b hb with z | z
  · exact st.nw b z
  · subst z; exact .inr hp⟩
theorem v_var {i : Nat} {x : Str} (g : Gd T Φ N sc X) (h : N[i]? = some x) (hv : Vis sc x) (hd : (x == ("__debug__" : Str)) = false := by decide) (hcd : (x == ("__classdict__" : Str)) = false := by decide) : PV_ Φ X (.Name x pos) (.var i) :=
  pe_imp (pe_var (i := i) (by rw [g.n]; exact h) (by rw [g.sc]; exact hv) hd hcd) fun σ H Q ⟨as, G, ρ, D, y, D', w, r, ee, f⟩ => by
    obtain ⟨z, e1, e2⟩ := Option.map_eq_some_iff.mp (show (getS ρ i).map (fun x => (x, D)) = some (y, D') from ee)
    cases e2
    unfold getS at e1
    split at e1
    · rename_i z' hz
      cases e1
      obtain ⟨v, e, t⟩ := r.frz i _ hz
      exact ⟨v, e, f v G H (Stp.refl _ _ _) w t⟩
    · cases e1
theorem o_bor {i : Nat} {x : Str} (g : Gd T Φ N sc X) (h : N[i]? = some x) (hv : Vis sc x) (hd : (x == ("__debug__" : Str)) = false := by decide) (hcd : (x == ("__classdict__" : Str)) = false := by decide) : PO_ Φ X (.Name x pos) (.bor i) :=
  pe_imp (pe_var (i := i) (by rw [g.n]; exact h) (by rw [g.sc]; exact hv) hd hcd) fun σ H Q ⟨as, G, ρ, D, y, D', w, r, ee, f⟩ => by
    obtain ⟨z, e1, e2⟩ := Option.map_eq_some_iff.mp (show (borS ρ i).map (fun x => (x, D)) = some (y, D') from ee)
    cases e2
    unfold borS at e1
    split at e1
    · rename_i o z' hz
      cases e1
      cases o with
      | false =>
        obtain ⟨v, e, t⟩ := r.frz i _ hz
        exact ⟨v, e, f v G H (Stp.refl _ _ _) w (.inl t)⟩
      | true =>
        obtain ⟨p, e, hG, ha, ow⟩ := r.own i _ hz
        exact ⟨_, e, f _ G H (Stp.refl _ _ _) w (.inr ⟨p, rfl, hG, ha, ow⟩)⟩
    · cases e1
theorem const_ {v : V} {x : PV} {c : CE} (h : PE X e (tC v)) (hc : ∀ ρ D, ev Φ c ρ D = some (x, D)) (ht : ∀ as G, Tr as X.K G v x) : PV_ Φ X e c :=
  pe_imp h fun σ H Q ⟨as, G, ρ, D, y, D', w, r, ee, f⟩ => by
    rw [hc] at ee
    cases ee
    exact f v G H (Stp.refl _ _ _) w (ht as G)
theorem v_int {i j} : PV_ Φ X (.Constant (.int i) j pos) (.int i) := const_ pe_int (fun _ _ => rfl) fun _ _ => .int _
theorem v_bl {b j} : PV_ Φ X (.Constant (.bool b) j pos) (.bl b) := const_ pe_bl (fun _ _ => rfl) fun _ _ => .bl _
theorem v_non {j} : PV_ Φ X (.Constant .none j pos) .non := const_ pe_non (fun _ _ => rfl) fun _ _ => .non
theorem v_str {x j} : PV_ Φ X (.Constant (.str x) j pos) (.str x) := const_ pe_str (fun _ _ => rfl) fun _ _ => .str _
theorem v_cst {x s : Str} {j : Nat} (g : Gd T Φ N sc X) (h : T.cs[j]? = some (x, s)) (hg : sc.names.lookup x = some .globalImplicit) (hd : (x == ("__debug__" : Str)) = false := by decide) : PV_ Φ X (.Name x pos) (.cst x s) := by
  obtain ⟨t, hm⟩ := g.cs j x s h
  exact const_ (pe_glob (v := .str s) (by unfold Gl Env.kindOf; rw [g.sc]; exact hg) hm ⟨t, rfl⟩ hd) (fun _ _ => rfl) fun _ _ => .str _
/-- two operands -/
theorem two {K : PySem.W.Frag} {ca cb : CE} {σ : L2.St} {H : Hp} {as : List Addr} {G : Hp} {ρ : Envi} {D D2 : DS} {x y : PV} {D1 : DS} (w : Wd as K G H D) (r : Rp as K G H σ ρ) (e1 : ev Φ ca ρ D = some (x, D1)) (e2 : ev Φ cb ρ D1 = some (y, D2))
    {R : V → V → Hp → Prop} (f : ∀ v u G' H', Stp as G H G' H' → Wd as K G' H' D2 → TrO as K G' H' v x → TrO as K G' H' u y → R v u H') : tO K Φ ca σ H fun v H1 => tO K Φ cb σ H1 fun u H2 => R v u H2 :=
  ⟨as, G, ρ, D, x, D1, w, r, e1, fun v1 G1 H1 st1 w1 t1 => ⟨as, G1, ρ, D1, y, D2, w1, r.up st1, e2, fun v2 G2 H2 st2 w2 t2 => f v1 v2 G2 H2 (st1.trans st2) w2 (t1.up st2) t2⟩⟩
theorem v_bin {op : Bo} {o : Operator} {ca cb : CE} (ha : PO_ Φ X a ca) (hb : PO_ Φ X b cb) (ho : o = boT op := by rfl) : PV_ Φ X (.BinOp a o b pos) (.bin op ca cb) := by
  subst ho
  refine pe_imp (pe_op (op_binM op) ha hb) fun σ H Q ⟨as, G, ρ, D, y, D', w, r, ee, f⟩ => ?_
  obtain ⟨⟨x, D1⟩, e1, ee⟩ := Option.bind_eq_some_iff.mp ee
  obtain ⟨⟨z, D2⟩, e2, ee⟩ := Option.bind_eq_some_iff.mp ee
  obtain ⟨t, e3, ee⟩ := Option.map_eq_some_iff.mp ee
  cases ee
  exact two w r e1 e2 fun v u G' H' st w' t1 t2 => ⟨as, G', _, x, z, _, w', t1.r, t2.r, e3, fun v2 G2 H2 st2 w2 t3 => f v2 G2 H2 (st.trans st2) w2 t3⟩
theorem v_neg {ca : CE} (ha : PO_ Φ X a ca) : PV_ Φ X (.UnaryOp .USub a pos) (.neg ca) :=
  pe_imp (pe_un un_neg ha) fun σ H Q ⟨as, G, ρ, D, y, D', w, r, ee, f⟩ => by
    obtain ⟨⟨x, D1⟩, e1, ee⟩ := Option.bind_eq_some_iff.mp ee
    obtain ⟨t, e3, ee⟩ := Option.map_eq_some_iff.mp ee
    cases ee
    refine ⟨as, G, ρ, D, x, D1, w, r, e1, fun v G' H' st w' t1 => ?_⟩
    cases x with
    | int i =>
      cases e3
      exact ⟨_, t1.r.int, f _ G' H' st w' (.int _)⟩
    | _ => cases e3
theorem cmp_ok {op : Co} {ca cb : CE} {σ : L2.St} {H : Hp} {Q : VK} (h : ∃ as G ρ D x D', Wd as X.K G H D ∧ Rp as X.K G H σ ρ ∧ ev Φ (.cmp op ca cb) ρ D = some (x, D') ∧ ∀ G' H', Stp as G H G' H' → Wd as X.K G' H' D' → ∀ b, x = .bl b → Q (.bl b) H') :
    tOp (rCmpM X.K op) (tO X.K Φ ca) (tO X.K Φ cb) σ H Q := by
  obtain ⟨as, G, ρ, D, y, D', w, r, ee, f⟩ := h
  obtain ⟨⟨x, D1⟩, e1, ee⟩ := Option.bind_eq_some_iff.mp ee
  obtain ⟨⟨z, D2⟩, e2, ee⟩ := Option.bind_eq_some_iff.mp ee
  obtain ⟨o, e3, ee⟩ := Option.bind_eq_some_iff.mp ee
  obtain ⟨t, e4, ee⟩ := Option.map_eq_some_iff.mp ee
  cases ee
  exact two w r e1 e2 fun v u G' H' st w' t1 t2 => ⟨as, G', D2, x, o, t, w', t1.r, t2.opd w' e3, e4, f G' H' st w' t rfl⟩
theorem v_cmp {op : Co} {o : CmpOp} {ca cb : CE} (g : Gd T Φ N sc X) (ha : PO_ Φ X a ca) (hb : PO_ Φ X b cb) (ho : o = coT op := by rfl) (hm : behindInMarks o b = false := by with_unfolding_all rfl) : PV_ Φ X (.Compare a [o] [b] pos) (.cmp op ca cb) := by
  subst ho
  refine pe_imp (pe_cmpR (op_cmpM g.un op) ha hb hm) fun σ H Q ⟨as, G, ρ, D, y, D', w, r, ee, f⟩ => cmp_ok ⟨as, G, ρ, D, y, D', w, r, ee, fun G' H' st w' b hb => ?_⟩
  subst hb
  exact f _ G' H' st w' (.bl b)
theorem t_cmp {op : Co} {o : CmpOp} {ca cb : CE} (g : Gd T Φ N sc X) (ha : PO_ Φ X a ca) (hb : PO_ Φ X b cb) (ho : o = coT op := by rfl) (hm : behindInMarks o b = false := by with_unfolding_all rfl) : PT_ Φ X (.Compare a [o] [b] pos) (.cmp op ca cb) := by
  subst ho
  refine pt_imp (pt_cmpR (op_cmpM g.un op) ha hb hm) fun σ H Q ⟨as, G, ρ, D, y, D', w, r, ee, f⟩ => cmp_ok ⟨as, G, ρ, D, .bl y, D', w, r, ee, fun G' H' st w' b hb => ?_⟩
  cases hb
  exact ⟨_, rfl, f G' H' st w'⟩
theorem chn_ok {op op2 : Co} {ca cb cc : CE} {σ : L2.St} {H : Hp} {Q : VK} (h : ∃ as G ρ D x D', Wd as X.K G H D ∧ Rp as X.K G H σ ρ ∧ ev Φ (.chn op op2 ca cb cc) ρ D = some (x, D') ∧ ∀ G' H', Stp as G H G' H' → Wd as X.K G' H' D' → ∀ b, x = .bl b → Q (.bl b) H') :
    tChain (rCmpM X.K op) (rCmpM X.K op2) (tO X.K Φ ca) (tO X.K Φ cb) (tO X.K Φ cc) σ H Q := by
  obtain ⟨as, G, ρ, D, y, D', w, r, ee, f⟩ := h
  obtain ⟨⟨x, D1⟩, e1, ee⟩ := Option.bind_eq_some_iff.mp ee
  obtain ⟨⟨z, D2⟩, e2, ee⟩ := Option.bind_eq_some_iff.mp ee
  obtain ⟨t, e3, ee⟩ := Option.bind_eq_some_iff.mp ee
  refine ⟨as, G, ρ, D, x, D1, w, r, e1, fun v1 G1 H1 st1 w1 t1 => ⟨as, G1, ρ, D1, z, D2, w1, r.up st1, e2, fun v2 G2 H2 st2 w2 t2 => ?_⟩⟩
  refine ⟨as, G2, D2, x, z, t, w2, (t1.up st2).r, t2.r, e3, t, rfl, ?_⟩
  cases t with
  | false =>
    cases ee
    exact f G2 H2 (st1.trans st2) w2 false rfl
  | true =>
    obtain ⟨⟨t3, D3⟩, e4, ee⟩ := Option.bind_eq_some_iff.mp (show (ev Φ cc ρ D2).bind (fun t => (pCmp op2 z t.1).map fun y => (PV.bl y, t.2)) = some (y, D') from ee)
    obtain ⟨q, e5, ee⟩ := Option.map_eq_some_iff.mp ee
    cases ee
    exact ⟨as, G2, ρ, D2, t3, D3, w2, r.up (st1.trans st2), e4, fun v3 G3 H3 st3 w3 t4 => ⟨as, G3, D3, z, t3, q, w3, (t2.up st3).r, t4.r, e5, f G3 H3 ((st1.trans st2).trans st3) w3 q rfl⟩⟩
theorem v_chn {op op2 : Co} {o o2 : CmpOp} {c : Expr} {ca cb cc : CE} (g : Gd T Φ N sc X) (ha : PO_ Φ X a ca) (hb : PO_ Φ X b cb) (hc : PO_ Φ X c cc) (ho : o = coT op := by rfl) (ho2 : o2 = coT op2 := by rfl)
    (hm : lastMarks [o, o2] [b, c] = false := by with_unfolding_all rfl) : PV_ Φ X (.Compare a [o, o2] [b, c] pos) (.chn op op2 ca cb cc) := by
  subst ho ho2
  refine pe_imp (pe_chain (op_cmpM g.un op) (op_cmpM g.un op2) ha hb hc hm) fun σ H Q ⟨as, G, ρ, D, y, D', w, r, ee, f⟩ => chn_ok ⟨as, G, ρ, D, y, D', w, r, ee, fun G' H' st w' b hb => ?_⟩
  subst hb
  exact f _ G' H' st w' (.bl b)
theorem t_chn {op op2 : Co} {o o2 : CmpOp} {c : Expr} {ca cb cc : CE} (g : Gd T Φ N sc X) (ha : PO_ Φ X a ca) (hb : PO_ Φ X b cb) (hc : PO_ Φ X c cc) (ho : o = coT op := by rfl) (ho2 : o2 = coT op2 := by rfl)
    (hm : lastMarks [o, o2] [b, c] = false := by with_unfolding_all rfl) : PT_ Φ X (.Compare a [o, o2] [b, c] pos) (.chn op op2 ca cb cc) := by
  subst ho ho2
  refine pt_imp (pt_chain (op_cmpM g.un op) (op_cmpM g.un op2) ha hb hc hm) fun σ H Q ⟨as, G, ρ, D, y, D', w, r, ee, f⟩ => chn_ok ⟨as, G, ρ, D, .bl y, D', w, r, ee, fun G' H' st w' b hb => ?_⟩
  cases hb
  exact ⟨_, rfl, f G' H' st w'⟩
/-! ### and, or, not, if -/
theorem v_and1 {ca : CE} (ha : PV_ Φ X a ca) : PV_ Φ X (.BoolOp .And [a] pos) (.and_ (.cons ca .nil)) := pe_one ha
theorem v_or1 {ca : CE} (ha : PV_ Φ X a ca) : PV_ Φ X (.BoolOp .Or [a] pos) (.or_ (.cons ca .nil)) := pe_one ha
theorem v_and {rest : List Expr} {ca cb : CE} {cr : CEs} (ha : PV_ Φ X a ca) (hb : PV_ Φ X (.BoolOp .And (b :: rest) pos) (.and_ (.cons cb cr))) : PV_ Φ X (.BoolOp .And (a :: b :: rest) pos) (.and_ (.cons ca (.cons cb cr))) :=
  pe_imp (pe_and ha hb) fun σ H Q ⟨as, G, ρ, D, y, D', w, r, ee, f⟩ => by
    obtain ⟨⟨x, D1⟩, e1, ee⟩ := Option.bind_eq_some_iff.mp (show (ev Φ ca ρ D).bind (fun r => (blOf r.1).bind fun z => if z then evand Φ (.cons cb cr) ρ r.2 else some (.bl false, r.2)) = some (y, D') from ee)
    obtain ⟨z, e2, ee⟩ := Option.bind_eq_some_iff.mp ee
    have ex : x = .bl z := by
      cases x <;> first | (cases e2; rfl) | cases e2
    subst ex
    refine ⟨as, G, ρ, D, _, D1, w, r, e1, fun v G' H' st w' t1 => ?_⟩
    cases t1
    refine ⟨z, rfl, ?_⟩
    cases z with
    | true => exact ⟨as, G', ρ, D1, y, D', w', r.up st, ee, fun v2 G2 H2 st2 w2 t2 => f v2 G2 H2 (st.trans st2) w2 t2⟩
    | false =>
      cases ee
      exact f _ G' H' st w' (.bl false)
theorem v_or {rest : List Expr} {ca cb : CE} {cr : CEs} (ha : PV_ Φ X a ca) (hb : PV_ Φ X (.BoolOp .Or (b :: rest) pos) (.or_ (.cons cb cr))) : PV_ Φ X (.BoolOp .Or (a :: b :: rest) pos) (.or_ (.cons ca (.cons cb cr))) :=
  pe_imp (pe_or ha hb) fun σ H Q ⟨as, G, ρ, D, y, D', w, r, ee, f⟩ => by
    obtain ⟨⟨x, D1⟩, e1, ee⟩ := Option.bind_eq_some_iff.mp (show (ev Φ ca ρ D).bind (fun r => (blOf r.1).bind fun z => if z then some (.bl true, r.2) else evor Φ (.cons cb cr) ρ r.2) = some (y, D') from ee)
    obtain ⟨z, e2, ee⟩ := Option.bind_eq_some_iff.mp ee
    have ex : x = .bl z := by
      cases x <;> first | (cases e2; rfl) | cases e2
    subst ex
    refine ⟨as, G, ρ, D, _, D1, w, r, e1, fun v G' H' st w' t1 => ?_⟩
    cases t1
    refine ⟨z, rfl, ?_⟩
    cases z with
    | false => exact ⟨as, G', ρ, D1, y, D', w', r.up st, ee, fun v2 G2 H2 st2 w2 t2 => f v2 G2 H2 (st.trans st2) w2 t2⟩
    | true =>
      cases ee
      exact f _ G' H' st w' (.bl true)
theorem v_not {ca : CE} (ha : PV_ Φ X a ca) : PV_ Φ X (.UnaryOp .Not a pos) (.not_ ca) :=
  pe_imp (pe_not ha) fun σ H Q ⟨as, G, ρ, D, y, D', w, r, ee, f⟩ => by
    obtain ⟨⟨x, D1⟩, e1, ee⟩ := Option.bind_eq_some_iff.mp ee
    obtain ⟨z, e2, ee⟩ := Option.map_eq_some_iff.mp ee
    cases ee
    have ex : x = .bl z := by
      cases x <;> first | (cases e2; rfl) | cases e2
    subst ex
    refine ⟨as, G, ρ, D, _, D1, w, r, e1, fun v G' H' st w' t1 => ?_⟩
    cases t1
    exact ⟨z, rfl, f _ G' H' st w' (.bl _)⟩
/-- a test of and, or: whatever its whole -/
abbrev PW_ (Φ : Fns) (X : Cx) (e : Expr) (c : CE) : Prop := PW X e (tT X.K Φ c)
theorem w_t {c : CE} (h : PW_ Φ X e c) : PT_ Φ X e c := h.pt
theorem w_and1 {ca : CE} (ha : PT_ Φ X a ca) : PW_ Φ X (.BoolOp .And [a] pos) (.and_ (.cons ca .nil)) := pw_and1 ha
theorem w_or1 {ca : CE} (ha : PT_ Φ X a ca) : PW_ Φ X (.BoolOp .Or [a] pos) (.or_ (.cons ca .nil)) := pw_or1 ha
theorem w_and {rest : List Expr} {ca cb : CE} {cr : CEs} (ha : PT_ Φ X a ca) (hb : PW_ Φ X (.BoolOp .And (b :: rest) pos) (.and_ (.cons cb cr))) : PW_ Φ X (.BoolOp .And (a :: b :: rest) pos) (.and_ (.cons ca (.cons cb cr))) :=
  pw_imp (pw_and ha hb) fun σ H Q ⟨as, G, ρ, D, y, D', w, r, ee, f⟩ => by
    obtain ⟨⟨x, D1⟩, e1, ee⟩ := Option.bind_eq_some_iff.mp (show (ev Φ ca ρ D).bind (fun r => (blOf r.1).bind fun z => if z then evand Φ (.cons cb cr) ρ r.2 else some (.bl false, r.2)) = some (.bl y, D') from ee)
    obtain ⟨z, e2, ee⟩ := Option.bind_eq_some_iff.mp ee
    have ex : x = .bl z := by
      cases x <;> first | (cases e2; rfl) | cases e2
    subst ex
    refine ⟨as, G, ρ, D, z, D1, w, r, e1, fun G' H' st w' => ?_⟩
    cases z with
    | true => exact ⟨as, G', ρ, D1, y, D', w', r.up st, ee, fun G2 H2 st2 w2 => f G2 H2 (st.trans st2) w2⟩
    | false =>
      cases ee
      exact f G' H' st w'
theorem w_or {rest : List Expr} {ca cb : CE} {cr : CEs} (ha : PT_ Φ X a ca) (hb : PW_ Φ X (.BoolOp .Or (b :: rest) pos) (.or_ (.cons cb cr))) : PW_ Φ X (.BoolOp .Or (a :: b :: rest) pos) (.or_ (.cons ca (.cons cb cr))) :=
  pw_imp (pw_or ha hb) fun σ H Q ⟨as, G, ρ, D, y, D', w, r, ee, f⟩ => by
    obtain ⟨⟨x, D1⟩, e1, ee⟩ := Option.bind_eq_some_iff.mp (show (ev Φ ca ρ D).bind (fun r => (blOf r.1).bind fun z => if z then some (.bl true, r.2) else evor Φ (.cons cb cr) ρ r.2) = some (.bl y, D') from ee)
    obtain ⟨z, e2, ee⟩ := Option.bind_eq_some_iff.mp ee
    have ex : x = .bl z := by
      cases x <;> first | (cases e2; rfl) | cases e2
    subst ex
    refine ⟨as, G, ρ, D, z, D1, w, r, e1, fun G' H' st w' => ?_⟩
    cases z with
    | false => exact ⟨as, G', ρ, D1, y, D', w', r.up st, ee, fun G2 H2 st2 w2 => f G2 H2 (st.trans st2) w2⟩
    | true =>
      cases ee
      exact f G' H' st w'
theorem t_not {ca : CE} (ha : PT_ Φ X a ca) : PT_ Φ X (.UnaryOp .Not a pos) (.not_ ca) :=
  pt_imp (pt_not ha) fun σ H Q ⟨as, G, ρ, D, y, D', w, r, ee, f⟩ => by
    obtain ⟨⟨x, D1⟩, e1, ee⟩ := Option.bind_eq_some_iff.mp ee
    obtain ⟨z, e2, ee⟩ := Option.map_eq_some_iff.mp ee
    cases ee
    have ex : x = .bl z := by
      cases x <;> first | (cases e2; rfl) | cases e2
    subst ex
    exact ⟨as, G, ρ, D, z, D1, w, r, e1, fun G' H' st w' => f G' H' st w'⟩
/-- a value that is a bool, as a test -/
theorem t_val {ca : CE} (h : PV_ Φ X e ca) (he : ∀ whole, isTrue e X.env whole = (do let v ← whole; standAt e.pos; holding [v] (truthy v)) := by intro _; rfl) : PT_ Φ X e ca :=
  pt_imp (pt_val h he) fun σ H Q ⟨as, G, ρ, D, y, D', w, r, ee, f⟩ => ⟨as, G, ρ, D, .bl y, D', w, r, ee, fun v G' H' st w' t => by
    cases t
    exact ⟨_, rfl, f G' H' st w'⟩⟩
theorem v_ite {c : Expr} {cc ca cb : CE} (hc : PT_ Φ X c cc) (ha : PV_ Φ X a ca) (hb : PV_ Φ X b cb) : PV_ Φ X (.IfExp c a b pos) (.ite cc ca cb) :=
  pe_imp (pe_ifExp hc ha hb) fun σ H Q ⟨as, G, ρ, D, y, D', w, r, ee, f⟩ => by
    obtain ⟨⟨x, D1⟩, e1, ee⟩ := Option.bind_eq_some_iff.mp ee
    obtain ⟨z, e2, ee⟩ := Option.bind_eq_some_iff.mp ee
    have ex : x = .bl z := by
      cases x <;> first | (cases e2; rfl) | cases e2
    subst ex
    refine ⟨as, G, ρ, D, z, D1, w, r, e1, fun G' H' st w' => ?_⟩
    cases z with
    | true => exact ⟨as, G', ρ, D1, y, D', w', r.up st, ee, fun v2 G2 H2 st2 w2 t2 => f v2 G2 H2 (st.trans st2) w2 t2⟩
    | false => exact ⟨as, G', ρ, D1, y, D', w', r.up st, ee, fun v2 G2 H2 st2 w2 t2 => f v2 G2 H2 (st.trans st2) w2 t2⟩
/-! ### lists of expressions, displays -/
theorem a_nil : PA_ Φ X [] .nil := pa_imp pa_nil fun σ H Q ⟨as, G, ρ, D, y, D', w, r, ee, f⟩ => by
  cases ee
  exact f [] G H (Stp.refl _ _ _) w .nil
theorem a_cons {es : List Expr} {c : CE} {cs : CEs} (ha : PV_ Φ X e c) (hr : PA_ Φ X es cs) (hs : starEach (e :: es) X.env = (false, eval e X.env) :: starEach es X.env := by rfl) : PA_ Φ X (e :: es) (.cons c cs) :=
  pa_imp (pa_cons ha hr hs) fun σ H Q ⟨as, G, ρ, D, y, D', w, r, ee, f⟩ => by
    obtain ⟨⟨x, D1⟩, e1, ee⟩ := Option.bind_eq_some_iff.mp ee
    obtain ⟨⟨xs, D2⟩, e2, ee⟩ := Option.map_eq_some_iff.mp ee
    cases ee
    exact ⟨as, G, ρ, D, x, D1, w, r, e1, fun v1 G1 H1 st1 w1 t1 => ⟨as, G1, ρ, D1, xs, D2, w1, r.up st1, e2, fun v2 G2 H2 st2 w2 t2 => f _ G2 H2 (st1.trans st2) w2 (.cons (t1.up st2.le) t2)⟩⟩
theorem b_nil : PB_ Φ X [] .nil := pa_imp pa_nil fun σ H Q ⟨as, G, ρ, D, y, D', w, r, ee, f⟩ => by
  cases ee
  exact f [] G H (Stp.refl _ _ _) w .nil
theorem TrOs.up {as : List Addr} {K : PySem.W.Frag} {G H G' H' : Hp} (st : Stp as G H G' H') : ∀ {vs : List V} {xs : List PV}, TrOs as K G H vs xs → TrOs as K G' H' vs xs
  | _, _, .nil => .nil
  | _, _, .cons h t => .cons (h.up st) (TrOs.up st t)
theorem b_cons {es : List Expr} {c : CE} {cs : CEs} (ha : PO_ Φ X e c) (hr : PB_ Φ X es cs) (hs : starEach (e :: es) X.env = (false, eval e X.env) :: starEach es X.env := by rfl) : PB_ Φ X (e :: es) (.cons c cs) :=
  pa_imp (pa_cons ha hr hs) fun σ H Q ⟨as, G, ρ, D, y, D', w, r, ee, f⟩ => by
    obtain ⟨⟨x, D1⟩, e1, ee⟩ := Option.bind_eq_some_iff.mp ee
    obtain ⟨⟨xs, D2⟩, e2, ee⟩ := Option.map_eq_some_iff.mp ee
    cases ee
    exact ⟨as, G, ρ, D, x, D1, w, r, e1, fun v1 G1 H1 st1 w1 t1 => ⟨as, G1, ρ, D1, xs, D2, w1, r.up st1, e2, fun v2 G2 H2 st2 w2 t2 => f _ G2 H2 (st1.trans st2) w2 (.cons (t1.up st2) t2)⟩⟩
def CEs.len : CEs → Nat
  | .nil => 0
  | .cons _ r => r.len + 1
theorem evs_len {Φ : Fns} {ρ : Envi} : ∀ {cs : CEs} {D D' : DS} {xs : List PV}, evs Φ cs ρ D = some (xs, D') → xs.length = cs.len
  | .nil, _, _, _, h => by cases h; rfl
  | .cons c cs, D, D', xs, h => by
    obtain ⟨⟨x, D1⟩, e1, ee⟩ := Option.bind_eq_some_iff.mp h
    obtain ⟨⟨ys, D2⟩, e2, ee⟩ := Option.map_eq_some_iff.mp ee
    cases ee
    show ys.length + 1 = cs.len + 1
    rw [evs_len e2]
theorem v_tup {es : List Expr} {cs : CEs} {x1} (h : PA_ Φ X es cs) (hl : cs.len ≤ LIM := by decide) : PV_ Φ X (.Tuple es x1 pos) (.tup cs) :=
  pe_imp (pe_tup h) fun σ H Q ⟨as, G, ρ, D, y, D', w, r, ee, f⟩ => by
    obtain ⟨⟨xs, D1⟩, e1, ee⟩ := Option.map_eq_some_iff.mp ee
    cases ee
    refine ⟨as, G, ρ, D, xs, D1, w, r, e1, fun vs G1 H1 st1 w1 t1 => ⟨by rw [t1.len, evs_len e1]; exact line_lim hl, fun p hp => ?_⟩⟩
    exact f _ _ _ (st1.trans (Stp.new hp (w1.free hp))) (w1.new hp) (.tup upd_same (t1.up (le_new (w1.free hp))))
theorem f_lst {es : List Expr} {cs : CEs} (h : PA_ Φ X es cs) (hl : cs.len ≤ LIM := by decide) : PF_ Φ X (.List es pos) (.lst cs) :=
  pe_imp (pe_lst h) fun σ H Q ⟨as, G, ρ, D, y, D', w, r, ee, f⟩ => by
    obtain ⟨⟨xs, D1⟩, e1, ee⟩ := Option.map_eq_some_iff.mp ee
    cases ee
    refine ⟨as, G, ρ, D, xs, D1, w, r, e1, fun vs G1 H1 st1 w1 t1 => ⟨by rw [t1.len, evs_len e1]; exact line_lim hl, fun p hp => ?_⟩⟩
    have hp0 : H p = none := by
      cases q : H p with
      | none => rfl
      | some o => exact absurd hp (st1.sm p (by rw [q]; exact fun z => nomatch z))
    exact f p G1 _ (st1.trans (Stp.own hp)) (w1.ownp hp) hp0 (w1.free hp) ⟨vs, upd_same, t1⟩
theorem pBin_cat {x z t : PV} (h : pBin .cat x z = some t) : ∃ a b, x = .lst a ∧ z = .lst b ∧ a.length + b.length ≤ LIM ∧ t = .lst (a ++ b) := by
  cases x <;> cases z <;> try (cases h; done)
  rename_i a b
  have h' : (if a.length + b.length ≤ LIM then some (PV.lst (a ++ b)) else none) = some t := h
  split at h'
  · rename_i hl
    cases h'
    exact ⟨a, b, rfl, rfl, hl, rfl⟩
  · cases h'
theorem pBin_rep {x z t : PV} (h : pBin .rep x z = some t) : ∃ a k, x = .lst a ∧ z = .int k ∧ (a.length * k.toNat ≤ LIM ∧ k ≤ LIM ∧ -LIM ≤ k) ∧ t = .lst (List.replicate k.toNat a).flatten := by
  cases x <;> cases z <;> try (cases h; done)
  rename_i a k
  have h' : (if a.length * k.toNat ≤ LIM ∧ k ≤ LIM ∧ -LIM ≤ k then some (PV.lst (List.replicate k.toNat a).flatten) else none) = some t := h
  split at h'
  · rename_i hl
    cases h'
    exact ⟨a, k, rfl, rfl, hl, rfl⟩
  · cases h'
/-- list + list, a new list -/
theorem f_cat {ca cb : CE} (ha : PO_ Φ X a ca) (hb : PO_ Φ X b cb) : PF_ Φ X (.BinOp a .Add b pos) (.bin .cat ca cb) := by
  refine pe_imp (pe_op op_cat ha hb) fun σ H Q ⟨as, G, ρ, D, y, D', w, r, ee, f⟩ => ?_
  obtain ⟨⟨x, D1⟩, e1, ee⟩ := Option.bind_eq_some_iff.mp ee
  obtain ⟨⟨z, D2⟩, e2, ee⟩ := Option.bind_eq_some_iff.mp ee
  obtain ⟨t, e3, ee⟩ := Option.map_eq_some_iff.mp ee
  cases ee
  obtain ⟨xa, xb, hxa, hxb, hl, ht⟩ := pBin_cat e3
  refine two w r e1 e2 fun v u G' H' st w' t1 t2 => ?_
  have hx := t1.r
  have hy := t2.r
  have hxa : x = .lst xa := hxa
  have hxb : z = .lst xb := hxb
  subst hxa hxb ht
  obtain ⟨p, vs, rfl, h1, s1⟩ := hx.lst w'
  obtain ⟨q, ws, rfl, h2, s2⟩ := hy.lst w'
  refine ⟨_, _, _, _, rfl, rfl, h1, h2, by rw [s1.len, s2.len]; exact line_lim hl, fun p hp => ?_⟩
  have hp0 : H p = none := by
    cases q : H p with
    | none => rfl
    | some o => exact absurd hp (st.sm p (by rw [q]; exact fun z => nomatch z))
  exact f p G' _ (st.trans (Stp.own hp)) (w'.ownp hp) hp0 (w'.free hp) ⟨_, upd_same, s1.app s2⟩
/-- list * n, a new list -/
theorem f_rep {ca cb : CE} (ha : PO_ Φ X a ca) (hb : PO_ Φ X b cb) : PF_ Φ X (.BinOp a .Mult b pos) (.bin .rep ca cb) := by
  refine pe_imp (pe_op op_rep ha hb) fun σ H Q ⟨as, G, ρ, D, y, D', w, r, ee, f⟩ => ?_
  obtain ⟨⟨x, D1⟩, e1, ee⟩ := Option.bind_eq_some_iff.mp ee
  obtain ⟨⟨z, D2⟩, e2, ee⟩ := Option.bind_eq_some_iff.mp ee
  obtain ⟨t, e3, ee⟩ := Option.map_eq_some_iff.mp ee
  cases ee
  obtain ⟨xa, k, hxa, hxb, hl, ht⟩ := pBin_rep e3
  refine two w r e1 e2 fun v u G' H' st w' t1 t2 => ?_
  have hx := t1.r
  have hy := t2.r
  have hxa : x = .lst xa := hxa
  have hxb : z = .int k := hxb
  subst hxa hxb ht
  obtain ⟨p, vs, rfl, h1, s1⟩ := hx.lst w'
  obtain rfl := hy.int
  obtain ⟨l1, l2, l3⟩ := hl
  have : ((LIM : Nat) : Int) = 1000000 := rfl
  refine ⟨_, _, _, rfl, rfl, h1, by omega, by omega, by rw [s1.len]; exact line_lim l1, fun p hp => ?_⟩
  have hp0 : H p = none := by
    cases q : H p with
    | none => rfl
    | some o => exact absurd hp (st.sm p (by rw [q]; exact fun z => nomatch z))
  exact f p G' _ (st.trans (Stp.own hp)) (w'.ownp hp) hp0 (w'.free hp) ⟨_, upd_same, s1.rep _⟩
/-! ### subscripts -/
theorem v_idx {ca cb : CE} (g : Gd T Φ N sc X) (ha : PO_ Φ X a ca) (hb : PO_ Φ X b cb) (hs : PlainIx b := by intro _ _; rfl) : PV_ Φ X (.Subscript a b pos) (.idx ca cb) :=
  pe_imp (pe_ix (ix_M g.un) ha hb hs) fun σ H Q ⟨as, G, ρ, D, y, D', w, r, ee, f⟩ => by
    obtain ⟨⟨x, D1⟩, e1, ee⟩ := Option.bind_eq_some_iff.mp ee
    obtain ⟨⟨z, D2⟩, e2, ee⟩ := Option.bind_eq_some_iff.mp ee
    obtain ⟨o, e3, ee⟩ := Option.bind_eq_some_iff.mp ee
    obtain ⟨t, e4, ee⟩ := Option.map_eq_some_iff.mp ee
    cases ee
    exact two w r e1 e2 fun v u G' H' st w' t1 t2 => ⟨as, G', _, o, z, _, w', t1.opd w' e3, t2.r, e4, fun v2 t3 => f v2 G' H' st w' t3⟩
/-! ### calls -/
theorem trOs_opd {as : List Addr} {K : PySem.W.Frag} {G H : Hp} {D : DS} (w : Wd as K G H D) : ∀ {vs : List V} {xs ys : List PV}, TrOs as K G H vs xs → mapO (opd D) xs = some ys → TrRs as K G H vs ys
  | _, _, _, .nil, h => by cases h; exact .nil
  | _, _, _, .cons (x := x) (xs := xs) h t, e => by
    obtain ⟨y, e1, e2⟩ := Option.bind_eq_some_iff.mp (show (opd D x).bind (fun y => (mapO (opd D) xs).bind fun ys => some (y :: ys)) = some _ from e)
    obtain ⟨ys, e3, e4⟩ := Option.bind_eq_some_iff.mp e2
    cases e4
    exact .cons (h.opd w e1) (trOs_opd w t e3)
theorem bi_run {b : Bi} {cs : CEs} {σ : L2.St} {H : Hp} {Q : VK} (h : tE X.K Φ (.bi b cs) σ H Q) : tCB (rBiM X.K b) (tAO X.K Φ cs) σ H Q := by
  obtain ⟨as, G, ρ, D, y, D', w, r, ee, f⟩ := h
  obtain ⟨⟨xs, D1⟩, e1, ee⟩ := Option.bind_eq_some_iff.mp ee
  obtain ⟨ys, e2, ee⟩ := Option.bind_eq_some_iff.mp ee
  obtain ⟨z, e3, ee⟩ := Option.map_eq_some_iff.mp ee
  cases ee
  exact ⟨as, G, ρ, D, xs, D1, w, r, e1, fun vs G1 H1 st1 w1 t1 => ⟨as, G1, _, ys, _, w1, trOs_opd w1 t1 e2, e3, fun v G' H' st w' t => f v G' H' (st1.trans st) w' t⟩⟩
theorem none_back {as : List Addr} {G H G' H' : Hp} (st : Stp as G H G' H') {p : Addr} (hp : H' p = none) : H p = none := by
  cases q : H p with
  | none => rfl
  | some o => exact absurd hp (st.sm p (by rw [q]; exact fun z => nomatch z))
theorem bi_runF {b : Bi} {cs : CEs} {σ : L2.St} {H : Hp} {Q : VK} (h : tF X.K Φ (.bi b cs) σ H Q) : tCB (rBiF X.K b) (tAO X.K Φ cs) σ H Q := by
  obtain ⟨as, G, ρ, D, y, D', w, r, ee, f⟩ := h
  obtain ⟨⟨xs, D1⟩, e1, ee⟩ := Option.bind_eq_some_iff.mp ee
  obtain ⟨ys, e2, ee⟩ := Option.bind_eq_some_iff.mp ee
  obtain ⟨z, e3, ee⟩ := Option.map_eq_some_iff.mp ee
  cases ee
  refine ⟨as, G, ρ, D, xs, D1, w, r, e1, fun vs G1 H1 st1 w1 t1 => ⟨as, G1, _, ys, _, w1, trOs_opd w1 t1 e2, e3, fun p o hp ow => ?_⟩⟩
  exact f p G1 _ (st1.trans (Stp.own hp)) (w1.ownp hp) (none_back st1 hp) (w1.free hp) ow
section
variable {x : Str} {p : Pos} {es : List Expr} {cs : CEs} {j : Nat}
theorem gl_of {sc : Scope} {X : Cx} {x : Str} (g : Gd T Φ N sc X) (h : sc.names.lookup x = some .globalImplicit) : Gl X x := by
  unfold Gl Env.kindOf
  rw [g.sc]
  exact h
/-- f(e, ..), f a built-in function -/
theorem v_biB {b : Bi} {id : String} (g : Gd T Φ N sc X) (hc : CallR X (.builtin id) (rBiM X.K b)) (hg : sc.names.lookup x = some .globalImplicit) (hm : T.fr[j]? = some x) (hv : bootBuiltins x = some (.builtin id)) (ha : PB_ Φ X (e :: es) cs)
    (hn : x ≠ "__name__" := by decide) (hdb : (x == ("__debug__" : Str)) = false := by decide)
    (he : starEach (e :: es) X.env = (false, eval e X.env) :: starEach es X.env := by rfl) (hpl : (backTo pos (starEach es X.env)).any (·.1) = false := by rfl) : PV_ Φ X (.Call (.Name x p) (e :: es) [] pos) (.bi b cs) :=
  pe_imp (pe_callB hc (gl_of g hg) (g.fr j x hm) hv ha hn hdb he hpl) fun σ H Q h => bi_run h
theorem v_biT {b : Bi} {id : String} (g : Gd T Φ N sc X) (hc : CallR X (.type id) (rBiM X.K b)) (hg : sc.names.lookup x = some .globalImplicit) (hm : T.fr[j]? = some x) (hv : bootBuiltins x = some (.type id)) (ha : PB_ Φ X (e :: es) cs)
    (hn : x ≠ "__name__" := by decide) (hdb : (x == ("__debug__" : Str)) = false := by decide)
    (he : starEach (e :: es) X.env = (false, eval e X.env) :: starEach es X.env := by rfl) (hpl : (backTo pos (starEach es X.env)).any (·.1) = false := by rfl) : PV_ Φ X (.Call (.Name x p) (e :: es) [] pos) (.bi b cs) :=
  pe_imp (pe_callTy hc (gl_of g hg) (g.fr j x hm) hv ha hn hdb he hpl) fun σ H Q h => bi_run h
theorem f_biB {b : Bi} {id : String} (g : Gd T Φ N sc X) (hc : CallR X (.builtin id) (rBiF X.K b)) (hg : sc.names.lookup x = some .globalImplicit) (hm : T.fr[j]? = some x) (hv : bootBuiltins x = some (.builtin id)) (ha : PB_ Φ X (e :: es) cs)
    (hn : x ≠ "__name__" := by decide) (hdb : (x == ("__debug__" : Str)) = false := by decide)
    (he : starEach (e :: es) X.env = (false, eval e X.env) :: starEach es X.env := by rfl) (hpl : (backTo pos (starEach es X.env)).any (·.1) = false := by rfl) : PF_ Φ X (.Call (.Name x p) (e :: es) [] pos) (.bi b cs) :=
  pe_imp (pe_callB hc (gl_of g hg) (g.fr j x hm) hv ha hn hdb he hpl) fun σ H Q h => bi_runF h
theorem f_biT {b : Bi} {id : String} (g : Gd T Φ N sc X) (hc : CallR X (.type id) (rBiF X.K b)) (hg : sc.names.lookup x = some .globalImplicit) (hm : T.fr[j]? = some x) (hv : bootBuiltins x = some (.type id)) (ha : PB_ Φ X (e :: es) cs)
    (hn : x ≠ "__name__" := by decide) (hdb : (x == ("__debug__" : Str)) = false := by decide)
    (he : starEach (e :: es) X.env = (false, eval e X.env) :: starEach es X.env := by rfl) (hpl : (backTo pos (starEach es X.env)).any (·.1) = false := by rfl) : PF_ Φ X (.Call (.Name x p) (e :: es) [] pos) (.bi b cs) :=
  pe_imp (pe_callTy hc (gl_of g hg) (g.fr j x hm) hv ha hn hdb he hpl) fun σ H Q h => bi_runF h
/-- a call of a def -/
theorem v_call {i m : Nat} (g : Gd T Φ N sc X) (h : T.fns[i]? = some (x, m)) (hg : sc.names.lookup x = some .globalImplicit) (ha : PA_ Φ X (e :: es) cs) (hl : cs.len = m := by rfl) (hdb : (x == ("__debug__" : Str)) = false := by decide)
    (he : starEach (e :: es) X.env = (false, eval e X.env) :: starEach es X.env := by rfl) (hpl : (backTo pos (starEach es X.env)).any (·.1) = false := by rfl) : PV_ Φ X (.Call (.Name x p) (e :: es) [] pos) (.call i cs) := by
  obtain ⟨k, f, fd, ps, h1, h2, h3, h4, h5⟩ := g.fn i x m h
  refine pe_imp (pe_call (E := E0) h5 h4 (gl_of g hg) h1 h2 h3 .nil pass0 ha hdb he hpl) fun σ H Q ⟨as, G, ρ, D, y, D', w, r, ee, f⟩ => ?_
  obtain ⟨⟨xs, D1⟩, e1, ee⟩ := Option.bind_eq_some_iff.mp ee
  refine ⟨as, G, ρ, D, xs, D1, w, r, e1, fun vs G1 H1 st1 w1 t1 => ⟨by rw [List.append_nil, t1.len, evs_len e1, hl], as, G1, D1, xs, y, D', w1, by rw [List.append_nil]; exact t1, ee, fun v G' H' st w' t => f v G' H' (st1.trans st) w' t⟩⟩
end
end
end MP

/-! MP it: what loops and comprehensions walk; comprehensions. -/
namespace MP
open PySem PySem.Spec PyProof.Rows L2

/-- the series xs, at all states that are later -/
def Ser (J : It) (as : List Addr) (K : PySem.W.Frag) (xs : List PV) (Lat : Hp → Hp → Prop) : Prop := ∀ (more : List Addr) (G H : Hp) (D : DS), Lat G H → Wd (as ++ more) K G H D →
  (∀ i, i < xs.length → J.go i H) ∧ (∀ i, xs.length ≤ i → J.stop i H) ∧ ∀ (i : Nat) (x : PV) (v : V) (H' : Hp), xs[i]? = some x → J.yld i H v H' → ∃ G', Stp (as ++ more) G H G' H' ∧ Wd (as ++ more) K G' H' D ∧ Tr (as ++ more) K G' v x
theorem Ser.weak {J : It} {as : List Addr} {K : PySem.W.Frag} {xs : List PV} {L L' : Hp → Hp → Prop} (s : Ser J as K xs L) (h : ∀ G H, L' G H → L G H) : Ser J as K xs L' := fun more G H D l w => s more G H D (h G H l) w
def tI (K : PySem.W.Frag) (Φ : Fns) (it : CI) : TI := fun σ H R => ∃ as G ρ D xs D', Wd as K G H D ∧ Rp as K G H σ ρ ∧ evi Φ it ρ D = some (xs, D') ∧ ∀ J G' H', Stp as G H G' H' → Wd as K G' H' D' → xs.length ≤ sizeLine → Ser J as K xs (fun G2 _ => Le G' G2) → R J H'
def tJ (K : PySem.W.Frag) (Φ : Fns) (it : CI) : TI := fun σ H R => ∃ as G ρ D xs D', Wd as K G H D ∧ Rp as K G H σ ρ ∧ evi Φ it ρ D = some (xs, D') ∧ ∀ J G' H', Stp as G H G' H' → Wd as K G' H' D' → xs.length ≤ sizeLine → Ser J as K xs (fun G2 H2 => Stp as G' H' G2 H2) → R J H'
abbrev PI_ (Φ : Fns) (X : Cx) (tg e : Expr) (c : CI) : Prop := PI X tg e (tI X.K Φ c)
abbrev PJ_ (Φ : Fns) (X : Cx) (tg e : Expr) (c : CI) : Prop := PI X tg e (tJ X.K Φ c)
theorem pi_imp {X : Cx} {tg e : Expr} {t u : TI} (h : PI X tg e t) (i : ∀ σ H R, u σ H R → t σ H R) : PI X tg e u := ⟨fun pins s σ H R I q => h.run pins s σ H R I (i _ _ _ q)⟩
def Szs (K : PySem.W.Frag) (H : Hp) : Prop := (∀ a xs, SqL K H a xs → xs.length ≤ sizeLine) ∧ ∀ a xs, SqT K H a xs → xs.length ≤ sizeLine
theorem pi_strong {X : Cx} {tg e : Expr} {t : TI} (h : PI X tg e t) : PI X tg e (fun σ H R => t σ H fun J H1 => Szs X.K H1 → R J H1) := ⟨fun pins s σ H R I q =>
  thn (h.run pins s σ H _ I q) fun v s1 h1 => thn h1 fun u s2 ⟨it, fp, tn, J, H', e, I', T, st, fo, q'⟩ => ⟨it, fp, tn, J, H', e, I', T, st, fo, q' ⟨fun a xs hq => let ⟨_, _, _, z⟩ := I'.list hq; z, fun a xs hq => let ⟨_, _, _, z⟩ := I'.tuple hq; z⟩⟩⟩

section
variable {as : List Addr} {K : PySem.W.Frag} {G H : Hp} {D : DS}
theorem ser_list {a : Addr} {vs : List V} {xs : List PV} {L : Hp → Hp → Prop} (hl : ∀ (more : List Addr) (G2 H2 : Hp) (D2 : DS), L G2 H2 → Wd (as ++ more) K G2 H2 D2 → SqL K H2 a vs ∧ TrS (as ++ more) K G2 vs xs) : Ser (Itl K a) as K xs L := fun more G2 H2 D2 l w => by
  obtain ⟨sq, t⟩ := hl more G2 H2 D2 l w
  have e := t.len
  refine ⟨fun i hi => ⟨vs, vs[i]'(by omega), sq, List.getElem?_eq_getElem (by omega)⟩, fun i hi => ⟨vs, sq, by omega⟩, fun i x v H' hx hy => ?_⟩
  obtain ⟨rfl, hy⟩ := hy
  obtain ⟨v', e1, t1⟩ := t.get hx
  have := hy vs sq
  rw [e1] at this
  cases this
  exact ⟨G2, Stp.refl _ _ _, w, t1⟩
theorem ser_tup {a : Addr} {vs : List V} {xs : List PV} {L : Hp → Hp → Prop} (hl : ∀ (more : List Addr) (G2 H2 : Hp) (D2 : DS), L G2 H2 → Wd (as ++ more) K G2 H2 D2 → SqT K H2 a vs ∧ TrS (as ++ more) K G2 vs xs) : Ser (Itt K a) as K xs L := fun more G2 H2 D2 l w => by
  obtain ⟨sq, t⟩ := hl more G2 H2 D2 l w
  have e := t.len
  refine ⟨fun i hi => ⟨vs, vs[i]'(by omega), sq, List.getElem?_eq_getElem (by omega)⟩, fun i hi => ⟨vs, sq, by omega⟩, fun i x v H' hx hy => ?_⟩
  obtain ⟨rfl, hy⟩ := hy
  obtain ⟨v', e1, t1⟩ := t.get hx
  have := hy vs sq
  rw [e1] at this
  cases this
  exact ⟨G2, Stp.refl _ _ _, w, t1⟩
theorem ser_str {z : Str} {L : Hp → Hp → Prop} : Ser (Its z) as K (chars z) L := fun more G2 H2 D2 l w => by
  have e : (chars z).length = z.cps.size := by simp [chars]
  refine ⟨fun i hi => (by rw [e] at hi; exact hi), fun i hi => (by rw [e] at hi; exact hi), fun i x v H' hx hy => ?_⟩
  obtain ⟨rfl, c, hc, rfl⟩ := hy
  have : x = .str ⟨#[c]⟩ := by
    unfold chars at hx
    rw [List.getElem?_map, Array.getElem?_toList, hc] at hx
    exact (Option.some.inj hx).symm
  subst this
  exact ⟨G2, Stp.refl _ _ _, w, .str _⟩
theorem rngL_get {a b : Int} {i : Nat} {x : PV} (h : (rngL a b)[i]? = some x) : x = .int (a + i) := by
  unfold rngL at h
  rw [List.getElem?_map] at h
  by_cases hi : i < (b - a).toNat
  · rw [List.getElem?_range hi] at h
    exact (Option.some.inj h).symm
  · rw [List.getElem?_eq_none (by simpa using hi)] at h
    cases h
theorem rngL_len (a b : Int) : (rngL a b).length = (b - a).toNat := by simp [rngL]
theorem ser_rng {a b : Int} {n : Nat} {L : Hp → Hp → Prop} (hn : n = (b - a).toNat) : Ser (Itr a n) as K (rngL a b) L := fun more G2 H2 D2 l w => by
  subst hn
  refine ⟨fun i hi => (by rw [rngL_len] at hi; exact hi), fun i hi => (by rw [rngL_len] at hi; exact hi), fun i x v H' hx hy => ?_⟩
  obtain ⟨rfl, rfl⟩ := hy
  rw [rngL_get hx]
  exact ⟨G2, Stp.refl _ _ _, w, .int _⟩
theorem rng_size {a b : Int} (h : rngOk a b = true) : (rngL a b).length ≤ sizeLine := by
  have h' := of_decide_eq_true h
  have : ((LIM : Nat) : Int) = 1000000 := rfl
  rw [rngL_len, sizeLine_eq]
  omega
theorem stp_le {G' H' : Hp} (st : Stp as G H G' H') : Le G G' := st.le
end
section
variable {T : Tb} {Φ : Fns} {N : List Str} {sc : Scope} {X : Cx} {e a b tg : Expr} {pos p : Pos}
theorem i_j {c : CI} (h : PI_ Φ X tg e c) : PJ_ Φ X tg e c := pi_imp h fun σ H R ⟨as, G, ρ, D, xs, D', w, r, ee, f⟩ => ⟨as, G, ρ, D, xs, D', w, r, ee, fun J G' H' st w' hz s => f J G' H' st w' hz (s.weak fun _ _ l => l.le)⟩
theorem i_over {c : CE} (h : PV_ Φ X e c) : PI_ Φ X tg e (.over c) := ⟨fun pins s σ H R I ⟨as, G, ρ, D, xs, D', w, r, ee, f⟩ => by
  obtain ⟨⟨x, D1⟩, e1, ee⟩ := Option.bind_eq_some_iff.mp ee
  obtain ⟨ys, e2, ee⟩ := Option.map_eq_some_iff.mp ee
  cases ee
  cases x with
  | lst zs =>
    cases e2
    refine (pi_strong (pi_list (tg := tg) h)).run pins s σ H R I ⟨as, G, ρ, D, _, _, w, r, e1, fun v G' H' st w' t => ?_⟩
    cases t with
    | lst hG ts => exact ⟨_, rfl, ⟨_, .of (w'.sub _ _ hG)⟩, fun sz => f _ G' H' st w' (by rw [← ts.len]; exact sz.1 _ _ (.of (w'.sub _ _ hG))) (ser_list fun more G2 H2 D2 l w2 => ⟨.of (w2.sub _ _ (l.lst hG)), ts.mono l more⟩)⟩
  | tup zs =>
    cases e2
    refine (pi_strong (pi_tup (tg := tg) h)).run pins s σ H R I ⟨as, G, ρ, D, _, _, w, r, e1, fun v G' H' st w' t => ?_⟩
    cases t with
    | tup hG ts => exact ⟨_, rfl, ⟨_, .of (w'.sub _ _ hG)⟩, fun sz => f _ G' H' st w' (by rw [← ts.len]; exact sz.2 _ _ (.of (w'.sub _ _ hG))) (ser_tup fun more G2 H2 D2 l w2 => ⟨.of (w2.sub _ _ (l.tup hG)), ts.mono l more⟩)⟩
  | str z =>
    have e2' : (if z.length ≤ LIM then some (chars z) else none) = some _ := e2
    split at e2'
    · rename_i hl
      cases e2'
      refine (pi_str (tg := tg) h).run pins s σ H R I ⟨as, G, ρ, D, _, _, w, r, e1, fun v G' H' st w' t => ?_⟩
      cases t
      exact ⟨z, rfl, f _ G' H' st w' (by simp only [chars, List.length_map, Array.length_toList]; exact line_lim hl) ser_str⟩
    · cases e2'
  | _ => cases e2⟩
/-- over what a slot holds by itself -/
theorem j_over {c : CE} (h : PO_ Φ X e c) : PJ_ Φ X tg e (.over c) := ⟨fun pins s σ H R I ⟨as, G, ρ, D, xs, D', w, r, ee, f⟩ => by
  obtain ⟨⟨x, D1⟩, e1, ee⟩ := Option.bind_eq_some_iff.mp ee
  obtain ⟨ys, e2, ee⟩ := Option.map_eq_some_iff.mp ee
  cases ee
  cases x with
  | lst zs =>
    cases e2
    refine (pi_strong (pi_list (tg := tg) h)).run pins s σ H R I ⟨as, G, ρ, D, _, _, w, r, e1, fun v G' H' st w' t => ?_⟩
    rcases t with t | ⟨a, rfl, hG, ha, vs, hH, ts⟩
    · cases t with
      | lst hG ts => exact ⟨_, rfl, ⟨_, .of (w'.sub _ _ hG)⟩, fun sz => f _ G' H' st w' (by rw [← ts.len]; exact sz.1 _ _ (.of (w'.sub _ _ hG))) (ser_list fun more G2 H2 D2 l w2 => ⟨.of (w2.sub _ _ (l.le.lst hG)), ts.mono l.le more⟩)⟩
    · exact ⟨_, rfl, ⟨_, .of hH⟩, fun sz => f _ G' H' st w' (by rw [← ts.len]; exact sz.1 _ _ (.of hH)) (ser_list fun more G2 H2 D2 l w2 => ⟨.of (l.kp _ _ ha hH), ts.mono l.le more⟩)⟩
  | tup zs =>
    cases e2
    refine (pi_strong (pi_tup (tg := tg) h)).run pins s σ H R I ⟨as, G, ρ, D, _, _, w, r, e1, fun v G' H' st w' t => ?_⟩
    rcases t with t | ⟨a, rfl, hG, ha, o⟩
    · cases t with
      | tup hG ts => exact ⟨_, rfl, ⟨_, .of (w'.sub _ _ hG)⟩, fun sz => f _ G' H' st w' (by rw [← ts.len]; exact sz.2 _ _ (.of (w'.sub _ _ hG))) (ser_tup fun more G2 H2 D2 l w2 => ⟨.of (w2.sub _ _ (l.le.tup hG)), ts.mono l.le more⟩)⟩
    · exact absurd o id
  | str z =>
    have e2' : (if z.length ≤ LIM then some (chars z) else none) = some _ := e2
    split at e2'
    · rename_i hl
      cases e2'
      refine (pi_str (tg := tg) h).run pins s σ H R I ⟨as, G, ρ, D, _, _, w, r, e1, fun v G' H' st w' t => ?_⟩
      have := t.r.str
      subst this
      exact ⟨z, rfl, f _ G' H' st w' (by simp only [chars, List.length_map, Array.length_toList]; exact line_lim hl) ser_str⟩
    · cases e2'
  | _ => cases e2⟩
section
variable {j : Nat} {ca cb cc : CE} {c : Expr}
theorem i_rng1 (g : Gd T Φ N sc X) (hg : sc.names.lookup ("range" : Str) = some .globalImplicit) (hm : T.fr[j]? = some ("range" : Str)) (ha : PV_ Φ X a ca) (hs : starEach [a] X.env = [(false, eval a X.env)] := by rfl) : PI_ Φ X tg (.Call (.Name "range" p) [a] [] pos) (.rng1 ca) := by
  have hA : PA_ Φ X [a] (.cons ca .nil) := a_cons ha a_nil hs
  refine pi_imp (pi_range1 (gl_of g hg) (g.fr j _ hm) hA hs) fun σ H R ⟨as, G, ρ, D, xs, D', w, r, ee, f⟩ => ?_
  obtain ⟨⟨x, D1⟩, e1, ee⟩ := Option.bind_eq_some_iff.mp ee
  obtain ⟨n, e2, ee⟩ := Option.bind_eq_some_iff.mp ee
  have ex : x = .int n := by
    cases x <;> first | (cases e2; rfl) | cases e2
  subst ex
  split at ee
  · rename_i hr
    cases ee
    refine ⟨as, G, ρ, D, [.int n], D1, w, r, by simp only [evs, e1, Option.bind_some, Option.map_some], fun vs G' H' st w' t => ?_⟩
    cases t with
    | cons t1 t2 =>
      cases t1
      cases t2
      have h' := of_decide_eq_true hr
      have : ((LIM : Nat) : Int) = 1000000 := rfl
      exact ⟨n, rfl, by omega, by omega, f _ G' H' st w' (rng_size hr) (ser_rng (by simp))⟩
  · cases ee
theorem i_rng2 (g : Gd T Φ N sc X) (hg : sc.names.lookup ("range" : Str) = some .globalImplicit) (hm : T.fr[j]? = some ("range" : Str)) (ha : PV_ Φ X a ca) (hb : PV_ Φ X b cb) (hs : starEach [a, b] X.env = [(false, eval a X.env), (false, eval b X.env)] := by rfl) (hs2 : starEach [b] X.env = [(false, eval b X.env)] := by rfl) :
    PI_ Φ X tg (.Call (.Name "range" p) [a, b] [] pos) (.rng2 ca cb) := by
  have hA : PA_ Φ X [a, b] (.cons ca (.cons cb .nil)) := a_cons ha (a_cons hb a_nil hs2) (by rw [hs, hs2])
  refine pi_imp (pi_range2 (gl_of g hg) (g.fr j _ hm) hA hs hs2) fun σ H R ⟨as, G, ρ, D, xs, D', w, r, ee, f⟩ => ?_
  obtain ⟨⟨x, D1⟩, e1, ee⟩ := Option.bind_eq_some_iff.mp ee
  obtain ⟨⟨y, D2⟩, e3, ee⟩ := Option.bind_eq_some_iff.mp ee
  obtain ⟨m, e2, ee⟩ := Option.bind_eq_some_iff.mp ee
  obtain ⟨n, e4, e9⟩ := Option.bind_eq_some_iff.mp ee
  have ex : x = .int m := by
    cases x <;> first | (cases e2; rfl) | cases e2
  subst ex
  have ey : y = .int n := by
    cases y <;> first | (cases e4; rfl) | cases e4
  subst ey
  split at e9
  · rename_i hr
    cases e9
    refine ⟨as, G, ρ, D, [.int m, .int n], D2, w, r, by simp only [evs, e1, e3, Option.bind_some, Option.map_some], fun vs G' H' st w' t => ?_⟩
    cases t with
    | cons t1 t2 =>
      cases t2 with
      | cons t2 t3 =>
        cases t1
        cases t2
        cases t3
        have h' := of_decide_eq_true hr
        have : ((LIM : Nat) : Int) = 1000000 := rfl
        exact ⟨m, n, rfl, by omega, f _ G' H' st w' (rng_size hr) (ser_rng rfl)⟩
  · cases e9
end
/-! ### targets -/
mutual
def Pat.slots : Pat → List Nat
  | .nm i => [i]
  | .tp ps => slotsL ps
def slotsL : List Pat → List Nat
  | [] => []
  | p :: ps => p.slots ++ slotsL ps
end
/-- nothing but these slots is changed -/
def Same (σ σ' : L2.St) (vs : List Nat) : Prop := σ'.length = σ.length ∧ ∀ i, i ∉ vs → σ'[i]? = σ[i]?
theorem Same.refl (σ : L2.St) (vs : List Nat) : Same σ σ vs := ⟨rfl, fun _ _ => rfl⟩
theorem Same.trans {σ σ1 σ2 : L2.St} {vs ws : List Nat} (a : Same σ σ1 vs) (b : Same σ1 σ2 ws) : Same σ σ2 (vs ++ ws) := ⟨b.1.trans a.1, fun i hi => by
  rw [List.mem_append, not_or] at hi
  exact (b.2 i hi.2).trans (a.2 i hi.1)⟩
theorem Same.set (σ : L2.St) (i : Nat) (v : Option V) : Same σ (σ.set i v) [i] := ⟨List.length_set, fun j hj => by
  have : i ≠ j := fun e => hj (by simp [e])
  exact List.getElem?_set_ne this⟩
theorem wipe_in : ∀ {vs : List Nat} {σ : L2.St} {i : Nat}, i ∈ vs → i < σ.length → (wipe σ vs)[i]? = some none
  | v :: vs, σ, i, h, hl => by
    unfold wipe
    by_cases e : v = i
    · subst e
      rw [List.getElem?_set_self (by rw [wipe_length]; exact hl)]
    · rw [List.getElem?_set_ne e]
      rcases List.mem_cons.mp h with h | h
      · exact absurd h.symm e
      · exact wipe_in h hl
theorem Same.wipe {σ σ' : L2.St} {vs ws : List Nat} (h : Same σ σ' vs) (hs : ∀ i ∈ vs, i ∈ ws) : wipe σ' ws = wipe σ ws := by
  apply List.ext_getElem?
  intro i
  by_cases hi : i ∈ ws
  · by_cases hl : i < σ.length
    · rw [wipe_in hi hl, wipe_in hi (by rw [h.1]; exact hl)]
    · rw [List.getElem?_eq_none (by rw [wipe_length, h.1]; omega), List.getElem?_eq_none (by rw [wipe_length]; omega)]
  · rw [wipe_out hi, wipe_out hi]
    exact h.2 i fun m => hi (hs i m)
def tP (K : PySem.W.Frag) (p : Pat) : TG := fun v σ H R => ∃ as G D ρ x ρ', Wd as K G H D ∧ Rp as K G H σ ρ ∧ Tr as K G v x ∧ bindP p x ρ = some ρ' ∧ ∀ σ', Rp as K G H σ' ρ' → Same σ σ' p.slots → R σ' H
def tPs (K : PySem.W.Frag) (ps : List Pat) : TGs := fun vs σ H R => ∃ as G D ρ xs ρ', Wd as K G H D ∧ Rp as K G H σ ρ ∧ TrS as K G vs xs ∧ bindPs ps xs ρ = some ρ' ∧ ∀ σ', Rp as K G H σ' ρ' → Same σ σ' (slotsL ps) → R σ' H
theorem Rp.put {as : List Addr} {K : PySem.W.Frag} {G H : Hp} {σ : L2.St} {ρ : Envi} (r : Rp as K G H σ ρ) (i : Nat) {v : V} {x : PV} (t : Tr as K G v x) : Rp as K G H (σ.set i (some v)) (ρ.set i (some (false, x))) where
  len := by rw [List.length_set, List.length_set]; exact r.len
  frz := fun j y h => by
    by_cases e : i = j
    · subst e
      have hl : i < ρ.length := by
        have := (List.getElem?_eq_some_iff.mp h).1
        rwa [List.length_set] at this
      rw [List.getElem?_set_self hl] at h
      cases h
      exact ⟨v, List.getElem?_set_self (by rw [r.len]; exact hl), t⟩
    · rw [List.getElem?_set_ne e] at h ⊢
      exact r.frz j y h
  own := fun j y h => by
    by_cases e : i = j
    · subst e
      have hl : i < ρ.length := by
        have := (List.getElem?_eq_some_iff.mp h).1
        rwa [List.length_set] at this
      rw [List.getElem?_set_self hl] at h
      cases h
    · rw [List.getElem?_set_ne e] at h ⊢
      exact r.own j y h
  dis := fun j k x' y a h1 h2 h3 h4 => by
    have ne : ∀ {j y}, (ρ.set i (some (false, x)))[j]? = some (some (true, y)) → i ≠ j := fun {j y} h e => by
      subst e
      have hl : i < ρ.length := by
        have := (List.getElem?_eq_some_iff.mp h).1
        rwa [List.length_set] at this
      rw [List.getElem?_set_self hl] at h
      cases h
    have n1 := ne h1
    have n2 := ne h2
    rw [List.getElem?_set_ne n1] at h1 h3
    rw [List.getElem?_set_ne n2] at h2 h4
    exact r.dis j k x' y a h1 h2 h3 h4
abbrev PP_ (X : Cx) (e : Expr) (p : Pat) : Prop := PG X e (tP X.K p)
abbrev PPs_ (X : Cx) (e : List Expr) (p : List Pat) : Prop := PGs X e (tPs X.K p)
theorem pg_imp {X : Cx} {e : Expr} {t u : TG} (h : PG X e t) (i : ∀ v σ H R, u v σ H R → t v σ H R) : PG X e u := ⟨fun pins s σ H v w R I r q => h.run pins s σ H v w R I r (i _ _ _ _ q)⟩
theorem pgs_imp {X : Cx} {e : List Expr} {t u : TGs} (h : PGs X e t) (i : ∀ v σ H R, u v σ H R → t v σ H R) : PGs X e u := ⟨fun pins s σ H v w R I r q => h.run pins s σ H v w R I r (i _ _ _ _ q)⟩
theorem p_nm {i : Nat} {x : Str} (g : Gd T Φ N sc X) (hi : N[i]? = some x) (hx : Loc sc x) (hf : X.fn x = true ∨ sc.names.lookup x = some .local := by first | exact .inl rfl | exact .inr rfl | assumption) : PP_ X (.Name x pos) (.nm i) :=
  pg_imp (pg_name (i := i) (by rw [g.n]; exact g.nd) (by rw [g.n]; exact hi) (by rw [g.sc]; exact hx) (by rw [g.sc]; exact hf)) fun v σ H R ⟨as, G, D, ρ, x', ρ', w, r, t, b, f⟩ => by
    have b' : some (ρ.set i (some (false, x'))) = some ρ' := b
    cases b'
    exact f _ (r.put i t) (Same.set σ i _)
theorem ps_nil' : PPs_ X [] [] := pgs_imp pgs_nil fun v σ H R ⟨as, G, D, ρ, xs, ρ', w, r, t, b, f⟩ => by
  cases t with
  | nil =>
    have b' : some ρ = some ρ' := b
    cases b'
    exact ⟨rfl, f σ r (Same.refl _ _)⟩
  | cons _ _ => cases b
theorem ps_cons' {es : List Expr} {pt : Pat} {ps : List Pat} (h1 : PP_ X e pt) (h2 : PPs_ X es ps) (hs : (assignEach (e :: es) X.env).map (·.2) = assign e X.env :: (assignEach es X.env).map (·.2) := by rfl) : PPs_ X (e :: es) (pt :: ps) :=
  pgs_imp (pgs_cons h1 h2 hs) fun v σ H R ⟨as, G, D, ρ, xs, ρ', w, r, t, b, f⟩ => by
    cases t with
    | nil => cases b
    | cons t ts =>
      obtain ⟨ρ1, b1, b2⟩ := Option.bind_eq_some_iff.mp b
      exact ⟨_, _, rfl, as, G, D, ρ, _, ρ1, w, r, t, b1, fun σ1 r1 s1 => ⟨as, G, D, ρ1, _, ρ', w, r1, ts, b2, fun σ2 r2 s2 => f σ2 r2 (s1.trans s2)⟩⟩
theorem bindPs_len : ∀ {ps : List Pat} {xs : List PV} {ρ ρ' : Envi}, bindPs ps xs ρ = some ρ' → xs.length = ps.length
  | [], [], _, _, _ => rfl
  | [], _ :: _, _, _, h => by cases h
  | _ :: _, [], _, _, h => by cases h
  | p :: ps, x :: xs, ρ, ρ', h => by
    obtain ⟨ρ1, _, b2⟩ := Option.bind_eq_some_iff.mp h
    rw [List.length_cons, List.length_cons, bindPs_len b2]
theorem p_tp {es : List Expr} {k : Nat} {ps : List Pat} (g : Gd T Φ N sc X) (h : PPs_ X es ps) (hn : (assignEach es X.env).length = ps.length := by rfl) (hst : (assignEach es X.env).findIdx? (·.1) = none := by rfl) : PP_ X (.Tuple es k pos) (.tp ps) :=
  pg_imp (pg_tup (n := ps.length) g.calm h hn hst) fun v σ H R ⟨as, G, D, ρ, x, ρ', w, r, t, b, f⟩ => by
    cases x with
    | tup xs =>
      cases t with
      | tup hG ts =>
        have b' : bindPs ps xs ρ = some ρ' := b
        exact ⟨_, _, rfl, .of (w.sub _ _ hG), by rw [ts.len]; exact bindPs_len b', as, G, D, ρ, xs, ρ', w, r, ts, b', f⟩
    | _ => cases b
end
end MP

/-! MP lc: list comprehensions. -/
namespace MP
open PySem PySem.Spec PyProof.Rows L2

/-! ### slots forgotten -/
theorem wipE_len (ρ : Envi) : ∀ vs : List Nat, (wipE ρ vs).length = ρ.length
  | [] => rfl
  | v :: vs => by unfold wipE; rw [List.length_set, wipE_len ρ vs]
theorem wipE_some {ρ : Envi} {i : Nat} {x : Bool × PV} : ∀ {vs : List Nat}, (wipE ρ vs)[i]? = some (some x) → ρ[i]? = some (some x) ∧ i ∉ vs
  | [], h => ⟨h, by simp⟩
  | v :: vs, h => by
    unfold wipE at h
    by_cases hi : v = i
    · subst hi
      by_cases hv : v < (wipE ρ vs).length
      · rw [List.getElem?_set_self hv] at h; cases h
      · rw [List.getElem?_eq_none (by simpa using hv)] at h; cases h
    · rw [List.getElem?_set_ne hi] at h
      obtain ⟨h1, h2⟩ := wipE_some h
      exact ⟨h1, by simp only [List.mem_cons, not_or]; exact ⟨fun e => hi e.symm, h2⟩⟩
/-- no slot holds p by itself -/
def Av (p : Addr) (σ : L2.St) (ρ : Envi) : Prop := ∀ (i : Nat) (x : PV), ρ[i]? = some (some (true, x)) → σ[i]? ≠ some (some (.ref p))
section
variable {as : List Addr} {K : PySem.W.Frag} {G H G' H' : Hp} {σ : L2.St} {ρ : Envi} {p : Addr} {D : DS}
theorem Rp.wipe (r : Rp as K G H σ ρ) (vs : List Nat) : Rp as K G H (wipe σ vs) (wipE ρ vs) where
  len := by rw [wipe_length, wipE_len]; exact r.len
  frz := fun i x h => by
    obtain ⟨h1, h2⟩ := wipE_some h
    rw [wipe_out h2]
    exact r.frz i x h1
  own := fun i x h => by
    obtain ⟨h1, h2⟩ := wipE_some h
    rw [wipe_out h2]
    exact r.own i x h1
  dis := fun i j x y a h1 h2 h3 h4 => by
    obtain ⟨h1, n1⟩ := wipE_some h1
    obtain ⟨h2, n2⟩ := wipE_some h2
    rw [wipe_out n1] at h3
    rw [wipe_out n2] at h4
    exact r.dis i j x y a h1 h2 h3 h4
theorem Av.wipe (av : Av p σ ρ) (vs : List Nat) : Av p (wipe σ vs) (wipE ρ vs) := fun i x h => by
  obtain ⟨h1, h2⟩ := wipE_some h
  rw [wipe_out h2]
  exact av i x h1
theorem Rp.av (r : Rp as K G H σ ρ) (hp : H p = none) : Av p σ ρ := fun i x h e => by
  obtain ⟨a, e1, _, _, o⟩ := r.own i x h
  rw [e] at e1
  cases e1
  exact o.some hp
mutual
theorem bindP_own : ∀ {pt : Pat} {x : PV} {ρ ρ' : Envi} {i : Nat} {y : PV}, bindP pt x ρ = some ρ' → ρ'[i]? = some (some (true, y)) → i ∉ pt.slots ∧ ρ[i]? = some (some (true, y))
  | .nm k, x, ρ, ρ', i, y, h, e => by
    have h' : some (ρ.set k (some (false, x))) = some ρ' := h
    cases h'
    by_cases hk : k = i
    · subst hk
      have hl : k < ρ.length := by
        have := (List.getElem?_eq_some_iff.mp e).1
        rwa [List.length_set] at this
      rw [List.getElem?_set_self hl] at e
      cases e
    · rw [List.getElem?_set_ne hk] at e
      exact ⟨by show i ∉ [k]; simp; exact fun z => hk z.symm, e⟩
  | .tp ps, .tup xs, ρ, ρ', i, y, h, e => bindPs_own (ps := ps) (xs := xs) h e
  | .tp _, .non, _, _, _, _, h, _ => by cases h
  | .tp _, .bl _, _, _, _, _, h, _ => by cases h
  | .tp _, .int _, _, _, _, _, h, _ => by cases h
  | .tp _, .str _, _, _, _, _, h, _ => by cases h
  | .tp _, .lst _, _, _, _, _, h, _ => by cases h
  | .tp _, .dct _ _, _, _, _, _, h, _ => by cases h
  | .tp _, .shr _, _, _, _, _, h, _ => by cases h
  | .tp _, .scr _, _, _, _, _, h, _ => by cases h
  | .tp _, .lck _, _, _, _, _, h, _ => by cases h
theorem bindPs_own : ∀ {ps : List Pat} {xs : List PV} {ρ ρ' : Envi} {i : Nat} {y : PV}, bindPs ps xs ρ = some ρ' → ρ'[i]? = some (some (true, y)) → i ∉ slotsL ps ∧ ρ[i]? = some (some (true, y))
  | [], [], ρ, ρ', i, y, h, e => by
    have h' : some ρ = some ρ' := h
    cases h'
    exact ⟨by show i ∉ []; simp, e⟩
  | [], _ :: _, _, _, _, _, h, _ => by cases h
  | _ :: _, [], _, _, _, _, h, _ => by cases h
  | p :: ps, x :: xs, ρ, ρ', i, y, h, e => by
    obtain ⟨ρ1, b1, b2⟩ := Option.bind_eq_some_iff.mp h
    obtain ⟨n2, e2⟩ := bindPs_own b2 e
    obtain ⟨n1, e1⟩ := bindP_own b1 e2
    exact ⟨by show i ∉ p.slots ++ slotsL ps; rw [List.mem_append, not_or]; exact ⟨n1, n2⟩, e1⟩
end
theorem Av.bind {σ' : L2.St} {ρ' : Envi} {pt : Pat} {x : PV} (av : Av p σ ρ) (b : bindP pt x ρ = some ρ') (s : Same σ σ' pt.slots) : Av p σ' ρ' := fun i y h e => by
  obtain ⟨n, h2⟩ := bindP_own b h
  rw [s.2 i n] at e
  exact av i y h2 e
theorem Stp.wk (st : Stp as G H G' H') : Stp (p :: as) G H G' H' := ⟨st.le, st.nw, fun b o hb h => st.kp b o (fun m => hb (List.mem_cons_of_mem _ m)) h, st.sm⟩
theorem Rp.upp (r : Rp as K G H σ ρ) (av : Av p σ ρ) (st : Stp (p :: as) G H G' H') : Rp as K G' H' σ ρ where
  len := r.len
  frz := fun i x h => by
    obtain ⟨v, e, t⟩ := r.frz i x h
    exact ⟨v, e, t.up st.le⟩
  own := fun i x h => by
    obtain ⟨a, e, g, n, o⟩ := r.own i x h
    have hs := o.some
    have np : a ≠ p := fun z => av i x h (by rw [← z]; exact e)
    refine ⟨a, e, ?_, n, ?_⟩
    · cases q : G' a with
      | none => rfl
      | some u =>
        rcases st.nw a (by rw [q]; exact fun z => nomatch z) with z | z
        · exact absurd g z
        · exact absurd z hs
    · cases q : H a with
      | none => exact absurd q hs
      | some u =>
        have := o.up (G' := G') (H' := H') st.le ((st.kp a u (by simp only [List.mem_cons, not_or]; exact ⟨np, n⟩) q).trans q.symm) []
        simpa using this
  dis := r.dis
theorem Wd.mut {o : HO} (w : Wd as K G H D) (hG : G p = none) (ha : p ∉ as) : Wd as K G (upd H p o) D where
  sub := fun b u h => by rw [upd_ne (ne_of_none h hG)]; exact w.sub b u h
  nd := w.nd
  len := w.len
  off := w.off
  sh := fun j a x h1 h2 => by
    have hne : a ≠ p := fun e => ha (by rw [← e]; exact List.mem_of_getElem? h1)
    have := (w.sh j a x h1 h2).up (G' := G) (H' := upd H p o) (Le.refl G) (upd_ne hne) []
    simpa using this
theorem Stp.mut {o : HO} (st : Stp as G H G' H') (hp : H p = none) : Stp as G H G' (upd H' p o) :=
  ⟨st.le, st.nw, fun b u hb h => by rw [upd_ne (ne_of_none h hp)]; exact st.kp b u hb h, fun b h => by
    by_cases e : b = p
    · rw [e, upd_same]; exact fun z => nomatch z
    · rw [upd_ne e]; exact st.sm b h⟩
theorem Stp.mutp {o : HO} (st : Stp (p :: as) G H G' H') : Stp (p :: as) G H G' (upd H' p o) :=
  ⟨st.le, st.nw, fun b u hb h => by
    have hne : b ≠ p := fun e => hb (by rw [e]; exact List.mem_cons_self)
    rw [upd_ne hne]; exact st.kp b u hb h, fun b h => by
    by_cases e : b = p
    · rw [e, upd_same]; exact fun z => nomatch z
    · rw [upd_ne e]; exact st.sm b h⟩
end
/-- the new list at p holds acc, since G1, H1 (where p was not) -/
structure Acc (as : List Addr) (K : PySem.W.Frag) (G1 H1 : Hp) (p : Addr) (acc : List PV) (D : DS) (G H : Hp) : Prop where
  st : Stp as G1 H1 G H
  w : Wd as K G H D
  ex : ∃ vs, H p = some (.lst vs) ∧ TrS as K G vs acc
  g : G p = none
section
variable {as : List Addr} {K : PySem.W.Frag} {G1 H1 G H G' H' : Hp} {p : Addr} {acc : List PV} {D D' : DS}
theorem Acc.start (w : Wd as K G1 H1 D) (hp : H1 p = none) : Acc as K G1 H1 p [] D G1 (upd H1 p (.lst [])) :=
  ⟨Stp.own hp, w.ownp hp, ⟨[], upd_same, .nil⟩, w.free hp⟩
theorem Acc.step (a : Acc as K G1 H1 p acc D G H) (ha : p ∉ as) (st : Stp as G H G' H') (w' : Wd as K G' H' D') : Acc as K G1 H1 p acc D' G' H' := by
  obtain ⟨vs, h1, t⟩ := a.ex
  refine ⟨a.st.trans st, w', ⟨vs, st.kp _ _ ha h1, t.up st.le⟩, ?_⟩
  cases q : G' p with
  | none => rfl
  | some o =>
    rcases st.nw p (by rw [q]; exact fun z => nomatch z) with z | z
    · exact absurd a.g z
    · rw [h1] at z; cases z
theorem Acc.app (a : Acc as K G1 H1 p acc D G H) (ha : p ∉ as) (hp : H1 p = none) {vs : List V} (hv : H p = some (.lst vs)) {v : V} {y : PV} (t : Tr as K G v y) : Acc as K G1 H1 p (acc ++ [y]) D G (upd H p (.lst (vs ++ [v]))) := by
  obtain ⟨vs', h1, t1⟩ := a.ex
  rw [hv] at h1
  cases h1
  exact ⟨a.st.mut hp, a.w.mut a.g ha, ⟨_, upd_same, t1.app (.cons t .nil)⟩, a.g⟩
end
/-! ### tests of a clause -/
def tTs (K : PySem.W.Frag) (Φ : Fns) (c : CEs) : TT := fun σ H Q => ∃ as G ρ D b D', Wd as K G H D ∧ Rp as K G H σ ρ ∧ evt Φ c ρ D = some (b, D') ∧ ∀ G' H', Stp as G H G' H' → Wd as K G' H' D' → Q b H'
abbrev PTs_ (Φ : Fns) (X : Cx) (e : List Expr) (c : CEs) : Prop := PTs X e (tTs X.K Φ c)
section
variable {T : Tb} {Φ : Fns} {N : List Str} {sc : Scope} {X : Cx} {e a b tg : Expr} {pos p : Pos}
theorem pts_imp {e : List Expr} {t u : TT} (h : PTs X e t) (i : ∀ σ H Q, u σ H Q → t σ H Q) : PTs X e u := ⟨fun pins s σ H Q I q => h.run pins s σ H Q I (i _ _ _ q)⟩
theorem ts_nil : PTs_ Φ X [] .nil := pts_imp pts_nil fun σ H Q ⟨as, G, ρ, D, y, D', w, r, ee, f⟩ => by
  have ee' : some (true, D) = some (y, D') := ee
  cases ee'
  exact f G H (Stp.refl _ _ _) w
theorem ts_one {c : CE} (h : PT_ Φ X e c) : PTs_ Φ X [e] (.cons c .nil) := pts_imp (pts_one h) fun σ H Q ⟨as, G, ρ, D, y, D', w, r, ee, f⟩ => by
  obtain ⟨⟨x, D1⟩, e1, ee⟩ := Option.bind_eq_some_iff.mp (show (ev Φ c ρ D).bind (fun r => (blOf r.1).map fun z => (z, r.2)) = some (y, D') from ee)
  obtain ⟨z, e2, ee⟩ := Option.map_eq_some_iff.mp ee
  cases ee
  have ex : x = .bl y := by
    cases x <;> first | (cases e2; rfl) | cases e2
  subst ex
  exact ⟨as, G, ρ, D, y, _, w, r, e1, fun G' H' st w' => f G' H' st w'⟩
theorem drop_cons {α : Type} {xs : List α} {i : Nat} (h : i < xs.length) : xs.drop i = xs[i] :: xs.drop (i + 1) := List.drop_eq_getElem_cons h
theorem lcF_len {f : PV → DS → Option (List PV × DS)} (hf : ∀ x D r, f x D = some r → r.1.length ≤ 1) : ∀ {xs : List PV} {D : DS} {ys : List PV} {D' : DS}, lcF f xs D = some (ys, D') → ys.length ≤ xs.length
  | [], D, ys, D', h => by
    have h' : some (([] : List PV), D) = some (ys, D') := h
    cases h'
    exact Nat.le_refl _
  | x :: xs, D, ys, D', h => by
    obtain ⟨⟨l, D1⟩, h1, h2⟩ := Option.bind_eq_some_iff.mp (show (f x D).bind (fun r => (lcF f xs r.2).bind fun q => some (r.1 ++ q.1, q.2)) = some (ys, D') from h)
    obtain ⟨⟨q, D2⟩, h3, h4⟩ := Option.bind_eq_some_iff.mp h2
    cases h4
    have q1 : l.length ≤ 1 := hf _ _ _ h1
    have q2 : q.length ≤ xs.length := lcF_len hf h3
    show (l ++ q).length ≤ _
    rw [List.length_append, List.length_cons]
    omega
/-- what a turn of a one-clause comprehension gives -/
def stp1 (Φ : Fns) (own : List Nat) (ce : CE) (pt : Pat) (ct : CEs) (ρ : Envi) : PV → DS → Option (List PV × DS) := fun x D1 =>
  (bindP pt x (wipE ρ own)).bind fun ρ1 => (evt Φ ct ρ1 D1).bind fun c => if c.1 then (ev Φ ce ρ1 c.2).map fun y => ([y.1], y.2) else some ([], c.2)
theorem stp1_len {own : List Nat} {ce : CE} {pt : Pat} {ct : CEs} {ρ : Envi} : ∀ x D r, stp1 Φ own ce pt ct ρ x D = some r → r.1.length ≤ 1 := fun x D r h => by
  obtain ⟨ρ1, _, h⟩ := Option.bind_eq_some_iff.mp h
  obtain ⟨⟨c, D1⟩, _, h⟩ := Option.bind_eq_some_iff.mp h
  cases c with
  | true =>
    obtain ⟨⟨y, D2⟩, _, h⟩ := Option.map_eq_some_iff.mp (show (ev Φ ce ρ1 D1).map (fun y => ([y.1], y.2)) = some r from h)
    subst h
    exact Nat.le_refl _
  | false =>
    have h' : some (([] : List PV), D1) = some r := h
    cases h'
    exact Nat.zero_le _
theorem wipe_wipe (σ : L2.St) (vs : List Nat) : wipe (wipe σ vs) vs = wipe σ vs := by
  apply List.ext_getElem?
  intro i
  by_cases hi : i ∈ vs
  · by_cases hl : i < σ.length
    · rw [wipe_in hi hl, wipe_in hi (by rw [wipe_length]; exact hl)]
    · rw [List.getElem?_eq_none (by rw [wipe_length, wipe_length]; omega), List.getElem?_eq_none (by rw [wipe_length]; omega)]
  · rw [wipe_out hi, wipe_out hi]
section
variable {elt iter : Expr} {ifs : List Expr} {scope : Scope} {own : List (Str × Nat)} {ce : CE} {pt : Pat} {ci : CI} {ct : CEs}
/-- one turn: the target stored, the tests, the item -/
theorem turn_1 {as : List Addr} {K : PySem.W.Frag} {G1 H1 G3 H3 : Hp} {Dl : Addr} {acc : List PV} {Di D3 : DS} {σ : L2.St} {ρ : Envi} {x : PV} {v : V} {l rest : List PV} {Nx : Hp → Prop} {own : List Nat} (hD : H1 Dl = none) (hna : Dl ∉ as)
    (hs : stp1 Φ own ce pt ct ρ x Di = some (l, D3)) (A : Acc as K G1 H1 Dl acc Di G3 H3) (r : Rp as K G3 H3 (wipe σ own) (wipE ρ own)) (t : Tr as K G3 v x) (hsl : ∀ i ∈ pt.slots, i ∈ own) (hl : (acc ++ l ++ rest).length ≤ sizeLine)
    (nx : ∀ G H, Stp (Dl :: as) G3 H3 G H → Acc as K G1 H1 Dl (acc ++ l) D3 G H → Nx H) :
    tP K pt v (wipe σ own) H3 fun σ2 H4 => wipe σ2 own = wipe σ own ∧ tTs K Φ ct σ2 H4 fun b H5 => if b = true then tE K Φ ce σ2 H5 fun y H6 => ∃ acc, H6 Dl = some (.lst acc) ∧ acc.length < sizeLine ∧ Nx (upd H6 Dl (.lst (acc ++ [y]))) else Nx H5 := by
  obtain ⟨ρ1, b1, hs⟩ := Option.bind_eq_some_iff.mp hs
  obtain ⟨⟨cb, D5⟩, b2, hs⟩ := Option.bind_eq_some_iff.mp hs
  refine ⟨as, G3, Di, wipE ρ own, x, ρ1, A.w, r, t, b1, fun σ2 r2 s2 => ⟨by rw [s2.wipe hsl, wipe_wipe], as, G3, ρ1, Di, cb, D5, A.w, r2, b2, fun G4 H4 st4 w4 => ?_⟩⟩
  have A4 := A.step hna st4 w4
  cases cb with
  | true =>
    obtain ⟨⟨y, D6⟩, b4, b5⟩ := Option.map_eq_some_iff.mp (show (ev Φ ce ρ1 D5).map (fun y => ([y.1], y.2)) = some (l, D3) from hs)
    cases b5
    show if true = true then _ else _
    rw [if_pos rfl]
    refine ⟨as, G4, ρ1, D5, y, D6, w4, r2.up st4, b4, fun yv G5 H5 st5 w5 t5 => ?_⟩
    have A5 := A4.step hna st5 w5
    obtain ⟨vs, h1, t1⟩ := A5.ex
    refine ⟨vs, h1, ?_, nx G5 _ (((st4.trans st5).wk).mutp) (A5.app hna hD h1 t5)⟩
    rw [List.length_append, List.length_append, List.length_singleton] at hl
    rw [t1.len]
    omega
  | false =>
    have hs' : some (([] : List PV), D5) = some (l, D3) := hs
    cases hs'
    show if false = true then _ else _
    rw [if_neg Bool.false_ne_true]
    rw [List.append_nil] at nx
    exact nx G4 H4 st4.wk A4
theorem lc1_imp {σ : L2.St} {H : Hp} {Q : VK} (hsl : ∀ i ∈ pt.slots, i ∈ own.map (·.2)) (h : tF X.K Φ (.lc1 (own.map (·.2)) ce pt ci ct) σ H Q) :
    tLc (tJ X.K Φ ci) (tP X.K pt) (tTs X.K Φ ct) (tE X.K Φ ce) (own.map (·.2)) σ H Q := by
  obtain ⟨as, G, ρ, D, x, D', w, r, ee, f⟩ := h
  obtain ⟨⟨xs, D1⟩, e1, ee⟩ := Option.bind_eq_some_iff.mp ee
  obtain ⟨⟨ys, D2⟩, e2, e3⟩ := Option.map_eq_some_iff.mp ee
  cases e3
  have e2 : lcF (stp1 Φ (own.map (·.2)) ce pt ct ρ) xs D1 = some (ys, D2) := e2
  refine ⟨as, G, ρ, D, xs, D1, w, r, e1, fun J G1 H1 st1 w1 hz ser Dl hDl => ?_⟩
  have hna : Dl ∉ as := w1.offp hDl
  have hys : ys.length ≤ sizeLine := Nat.le_trans (lcF_len stp1_len e2) hz
  refine ⟨fun i m H2 => m = xs.length - i ∧ i ≤ xs.length ∧ ∃ G2 Di acc rest, Acc as X.K G1 H1 Dl acc Di G2 H2 ∧ lcF (stp1 Φ (own.map (·.2)) ce pt ct ρ) (xs.drop i) Di = some (rest, D2) ∧ ys = acc ++ rest,
    ⟨xs.length, by simp, Nat.zero_le _, G1, D1, [], ys, Acc.start w1 hDl, by rw [List.drop_zero]; exact e2, rfl⟩, ?_⟩
  rintro i m H2 ⟨rfl, hi, G2, Di, acc, rest, A, hl, hy⟩
  obtain ⟨go, stop, yld⟩ := ser [] G2 H2 Di A.st (by rw [List.append_nil]; exact A.w)
  by_cases hlt : i < xs.length
  · rw [drop_cons hlt] at hl
    obtain ⟨⟨l, D3⟩, h1, h2⟩ := Option.bind_eq_some_iff.mp (show (stp1 Φ (own.map (·.2)) ce pt ct ρ xs[i] Di).bind (fun r => (lcF (stp1 Φ (own.map (·.2)) ce pt ct ρ) (xs.drop (i + 1)) r.2).bind fun q => some (r.1 ++ q.1, q.2)) = some (rest, D2) from hl)
    obtain ⟨⟨q, D4⟩, h3, h4⟩ := Option.bind_eq_some_iff.mp h2
    have e5 : l ++ q = rest := congrArg Prod.fst (Option.some.inj h4)
    have e6 : D4 = D2 := congrArg Prod.snd (Option.some.inj h4)
    subst e5 e6
    refine .inr ⟨go i hlt, fun H' => i + 1 ≤ xs.length ∧ ∃ G2 Di acc rest, Acc as X.K G1 H1 Dl acc Di G2 H' ∧ lcF (stp1 Φ (own.map (·.2)) ce pt ct ρ) (xs.drop (i + 1)) Di = some (rest, D4) ∧ ys = acc ++ rest, fun H' q => ⟨xs.length - (i + 1), by omega, rfl, q.1, q.2⟩, fun v H' hyl => ?_⟩
    obtain ⟨G3, st3, w3, t3⟩ := yld i xs[i] v H' (List.getElem?_eq_getElem hlt) hyl
    rw [List.append_nil] at st3 w3 t3
    have A3 := A.step hna st3 w3
    refine turn_1 (rest := q) hDl hna h1 A3 ((r.up (st1.trans A3.st)).wipe _) t3 hsl (by rw [List.append_assoc, ← hy]; exact hys) fun G H' _ A' => ⟨hlt, G, D3, acc ++ l, q, A', h3, by rw [hy, List.append_assoc]⟩
  · have : i = xs.length := by omega
    subst this
    rw [List.drop_length] at hl
    have hl' : some (([] : List PV), Di) = some (rest, D2) := hl
    cases hl'
    rw [List.append_nil] at hy
    subst hy
    exact .inl ⟨stop _ (Nat.le_refl _), f Dl G2 H2 (st1.trans A.st) A.w (none_back st1 hDl) A.g A.ex⟩
theorem f_lc1 (g : Gd T Φ N sc X) (hb : blkC N sc scope own = true) (hi : PJ_ Φ X tg iter ci) (hsl : ∀ i ∈ pt.slots, i ∈ own.map (·.2))
    (hp : ∀ (s : Shared) (H : Hp) (C : Addr) (cl : List (Str × Addr)) (fp : List Addr), PP_ (X.blk s H scope (compEnvC scope cl C X.env) fp) tg pt)
    (ht : ∀ (s : Shared) (H : Hp) (C : Addr) (cl : List (Str × Addr)) (fp : List Addr), PTs_ Φ (X.blk s H scope (compEnvC scope cl C X.env) fp) ifs ct)
    (he : ∀ (s : Shared) (H : Hp) (C : Addr) (cl : List (Str × Addr)) (fp : List Addr), PV_ Φ (X.blk s H scope (compEnvC scope cl C X.env) fp) elt ce) (hs : ∀ x, foldedSetIterable iter X.env x = pure x := by intro _; rfl) :
    PF_ Φ X (.ListComp elt [⟨tg, iter, ifs, 0⟩] scope pos) (.lc1 (own.map (·.2)) ce pt ci ct) := by
  exact pe_imp (pe_lc (wi := tJ X.K Φ ci) (g := tP X.K pt) (tt := tTs X.K Φ ct) (te := tE X.K Φ ce) g.calm (by rw [g.n]; exact g.nd) hi (by rw [g.n, g.sc]; exact blkOk_by hb) hp ht he hs) fun σ H Q h => lc1_imp hsl h
/-! ### two clauses -/
def stp2 (Φ : Fns) (own own2 : List Nat) (ce : CE) (pt pt2 : Pat) (ct ct2 : CEs) (ci2 : CI) (ρ : Envi) : PV → DS → Option (List PV × DS) := fun x D1 =>
  (bindP pt x (wipE ρ own)).bind fun ρ1 => (evt Φ ct ρ1 D1).bind fun c => if c.1 then (evi Φ ci2 ρ1 c.2).bind fun r2 => lcF (stp1 Φ own2 ce pt2 ct2 ρ1) r2.1 r2.2 else some ([], c.2)
theorem lc2_imp {σ : L2.St} {H : Hp} {Q : VK} {pt2 : Pat} {ci2 : CI} {ct2 : CEs} {own2 : List Nat} (hsl : ∀ i ∈ pt.slots, i ∈ own.map (·.2)) (hsl2 : ∀ i ∈ pt2.slots, i ∈ own2) (h : tF X.K Φ (.lc2 (own.map (·.2)) ce pt ci ct own2 pt2 ci2 ct2) σ H Q) :
    tLc2 (tJ X.K Φ ci) (tP X.K pt) (tTs X.K Φ ct) (tI X.K Φ ci2) (tP X.K pt2) (tTs X.K Φ ct2) (tE X.K Φ ce) (own.map (·.2)) own2 σ H Q := by
  obtain ⟨as, G, ρ, D, x, D', w, r, ee, f⟩ := h
  obtain ⟨⟨xs, D1⟩, e1, ee⟩ := Option.bind_eq_some_iff.mp ee
  obtain ⟨⟨ys, D2⟩, e2, e3⟩ := Option.bind_eq_some_iff.mp ee
  have e2 : lcF (stp2 Φ (own.map (·.2)) own2 ce pt pt2 ct ct2 ci2 ρ) xs D1 = some (ys, D2) := e2
  have e3 : (if ys.length ≤ LIM then some (PV.lst ys, D2) else none) = some (x, D') := e3
  split at e3
  case isFalse => cases e3
  rename_i hlim
  obtain rfl : PV.lst ys = x := congrArg Prod.fst (Option.some.inj e3)
  obtain rfl : D2 = D' := congrArg Prod.snd (Option.some.inj e3)
  have hys : ys.length ≤ sizeLine := line_lim hlim
  refine ⟨as, G, ρ, D, xs, D1, w, r, e1, fun J G1 H1 st1 w1 hz ser Dl hDl => ?_⟩
  have hna : Dl ∉ as := w1.offp hDl
  have r1 := r.up st1
  have av1 : Av Dl σ ρ := r1.av hDl
  refine ⟨fun i m H2 => m = xs.length - i ∧ i ≤ xs.length ∧ ∃ G2 Di acc rest, Acc as X.K G1 H1 Dl acc Di G2 H2 ∧ lcF (stp2 Φ (own.map (·.2)) own2 ce pt pt2 ct ct2 ci2 ρ) (xs.drop i) Di = some (rest, D2) ∧ ys = acc ++ rest,
    ⟨xs.length, by simp, Nat.zero_le _, G1, D1, [], ys, Acc.start w1 hDl, by rw [List.drop_zero]; exact e2, rfl⟩, ?_⟩
  rintro i m H2 ⟨rfl, hi, G2, Di, acc, rest, A, hl, hy⟩
  obtain ⟨go, stop, yld⟩ := ser [] G2 H2 Di A.st (by rw [List.append_nil]; exact A.w)
  by_cases hlt : i < xs.length
  · rw [drop_cons hlt] at hl
    obtain ⟨⟨l, D3⟩, h1, h2⟩ := Option.bind_eq_some_iff.mp (show (stp2 Φ (own.map (·.2)) own2 ce pt pt2 ct ct2 ci2 ρ xs[i] Di).bind (fun r => (lcF (stp2 Φ (own.map (·.2)) own2 ce pt pt2 ct ct2 ci2 ρ) (xs.drop (i + 1)) r.2).bind fun q => some (r.1 ++ q.1, q.2)) = some (rest, D2) from hl)
    obtain ⟨⟨q, D4⟩, h3, h4⟩ := Option.bind_eq_some_iff.mp h2
    have e5 : l ++ q = rest := congrArg Prod.fst (Option.some.inj h4)
    have e6 : D4 = D2 := congrArg Prod.snd (Option.some.inj h4)
    subst e5 e6
    refine .inr ⟨go i hlt, fun H' => i + 1 ≤ xs.length ∧ ∃ G2 Di acc rest, Acc as X.K G1 H1 Dl acc Di G2 H' ∧ lcF (stp2 Φ (own.map (·.2)) own2 ce pt pt2 ct ct2 ci2 ρ) (xs.drop (i + 1)) Di = some (rest, D4) ∧ ys = acc ++ rest, fun H' q => ⟨xs.length - (i + 1), by omega, rfl, q.1, q.2⟩, fun v H' hyl => ?_⟩
    obtain ⟨G3, st3, w3, t3⟩ := yld i xs[i] v H' (List.getElem?_eq_getElem hlt) hyl
    rw [List.append_nil] at st3 w3 t3
    have A3 := A.step hna st3 w3
    obtain ⟨ρ1, b1, hs2⟩ := Option.bind_eq_some_iff.mp h1
    obtain ⟨⟨cb, D5⟩, b2, hs2⟩ := Option.bind_eq_some_iff.mp hs2
    refine ⟨as, G3, Di, wipE ρ (own.map (·.2)), xs[i], ρ1, A3.w, (r.up (st1.trans A3.st)).wipe _, t3, b1, fun σ2 r2 s2 => ⟨by rw [s2.wipe hsl, wipe_wipe], as, G3, ρ1, Di, cb, D5, A3.w, r2, b2, fun G4 H4 st4 w4 => ?_⟩⟩
    have A4 := A3.step hna st4 w4
    have av2 : Av Dl σ2 ρ1 := (av1.wipe _).bind b1 s2
    have r4 := r2.up st4
    cases cb with
    | false =>
      have hs' : some (([] : List PV), D5) = some (l, D3) := hs2
      cases hs'
      show if false = true then _ else _
      rw [if_neg Bool.false_ne_true]
      exact ⟨hlt, G4, _, acc, q, A4, h3, hy⟩
    | true =>
      obtain ⟨⟨zs, D6⟩, b4, b5⟩ := Option.bind_eq_some_iff.mp (show (evi Φ ci2 ρ1 D5).bind (fun r2 => lcF (stp1 Φ own2 ce pt2 ct2 ρ1) r2.1 r2.2) = some (l, D3) from hs2)
      have b5 : lcF (stp1 Φ own2 ce pt2 ct2 ρ1) zs D6 = some (l, D3) := b5
      show if true = true then _ else _
      rw [if_pos rfl]
      refine ⟨as, G4, ρ1, D5, zs, D6, w4, r4, b4, fun J1 G5 H5 st5 w5 hz5 ser5 => ?_⟩
      have A5 := A4.step hna st5 w5
      have r5 := r4.up st5
      refine ⟨fun j k H6 => k = zs.length - j ∧ j ≤ zs.length ∧ ∃ G6 Dj acc1 rest1, Stp (Dl :: as) G5 H5 G6 H6 ∧ Acc as X.K G1 H1 Dl (acc ++ acc1) Dj G6 H6 ∧ lcF (stp1 Φ own2 ce pt2 ct2 ρ1) (zs.drop j) Dj = some (rest1, D3) ∧ l = acc1 ++ rest1,
        ⟨zs.length, by simp, Nat.zero_le _, G5, D6, [], l, Stp.refl _ _ _, by rw [List.append_nil]; exact A5, by rw [List.drop_zero]; exact b5, rfl⟩, ?_⟩
      rintro j k H6 ⟨rfl, hj, G6, Dj, acc1, rest1, st6, A6, hl6, hy6⟩
      obtain ⟨go6, stop6, yld6⟩ := ser5 [] G6 H6 Dj st6.le (by rw [List.append_nil]; exact A6.w)
      by_cases hlt6 : j < zs.length
      · rw [drop_cons hlt6] at hl6
        obtain ⟨⟨l7, D7⟩, h7, h8⟩ := Option.bind_eq_some_iff.mp (show (stp1 Φ own2 ce pt2 ct2 ρ1 zs[j] Dj).bind (fun r => (lcF (stp1 Φ own2 ce pt2 ct2 ρ1) (zs.drop (j + 1)) r.2).bind fun q => some (r.1 ++ q.1, q.2)) = some (rest1, D3) from hl6)
        obtain ⟨⟨q8, D8⟩, h9, h10⟩ := Option.bind_eq_some_iff.mp h8
        have e5 : l7 ++ q8 = rest1 := congrArg Prod.fst (Option.some.inj h10)
        have e6 : D8 = D3 := congrArg Prod.snd (Option.some.inj h10)
        subst e5 e6
        refine .inr ⟨go6 j hlt6, fun H' => j + 1 ≤ zs.length ∧ ∃ G6 Dj acc1 rest1, Stp (Dl :: as) G5 H5 G6 H' ∧ Acc as X.K G1 H1 Dl (acc ++ acc1) Dj G6 H' ∧ lcF (stp1 Φ own2 ce pt2 ct2 ρ1) (zs.drop (j + 1)) Dj = some (rest1, D8) ∧ l = acc1 ++ rest1, fun H' q => ⟨zs.length - (j + 1), by omega, rfl, q.1, q.2⟩, fun v H' hyl => ?_⟩
        obtain ⟨G7, st7, w7, t7⟩ := yld6 j zs[j] v H' (List.getElem?_eq_getElem hlt6) hyl
        rw [List.append_nil] at st7 w7 t7
        have A7 := A6.step hna st7 w7
        refine turn_1 (rest := q8 ++ q) hDl hna h7 A7 ((r5.upp av2 (st6.trans st7.wk)).wipe _) t7 hsl2 ?_ fun G' H' st' A' => ⟨hlt6, G', D7, acc1 ++ l7, q8, (st6.trans st7.wk).trans st', by rw [← List.append_assoc]; exact A', h9, by rw [hy6, List.append_assoc]⟩
        have : acc ++ acc1 ++ l7 ++ (q8 ++ q) = ys := by rw [hy, hy6]; simp only [List.append_assoc]
        rw [this]
        exact hys
      · have : j = zs.length := by omega
        subst this
        rw [List.drop_length] at hl6
        have hl' : some (([] : List PV), Dj) = some (rest1, D3) := hl6
        cases hl'
        rw [List.append_nil] at hy6
        subst hy6
        exact .inl ⟨stop6 _ (Nat.le_refl _), hlt, G6, _, acc ++ l, q, A6, h3, by rw [hy, List.append_assoc]⟩
  · have : i = xs.length := by omega
    subst this
    rw [List.drop_length] at hl
    have hl' : some (([] : List PV), Di) = some (rest, D2) := hl
    cases hl'
    rw [List.append_nil] at hy
    subst hy
    exact .inl ⟨stop _ (Nat.le_refl _), f Dl G2 H2 (st1.trans A.st) A.w (none_back st1 hDl) A.g A.ex⟩
theorem f_lc2 {tg2 iter2 : Expr} {ifs2 : List Expr} {pt2 : Pat} {ci2 : CI} {ct2 : CEs} {own2 : List Nat} (g : Gd T Φ N sc X) (hb : blkC N sc scope own = true) (hi : PJ_ Φ X tg iter ci) (hsl : ∀ i ∈ pt.slots, i ∈ own.map (·.2)) (hsl2 : ∀ i ∈ pt2.slots, i ∈ own2) (ho2 : ∀ i ∈ own2, i ∈ own.map (·.2))
    (hp : ∀ (s : Shared) (H : Hp) (C : Addr) (cl : List (Str × Addr)) (fp : List Addr), PP_ (X.blk s H scope (compEnvC scope cl C X.env) fp) tg pt)
    (ht : ∀ (s : Shared) (H : Hp) (C : Addr) (cl : List (Str × Addr)) (fp : List Addr), PTs_ Φ (X.blk s H scope (compEnvC scope cl C X.env) fp) ifs ct)
    (hi2 : ∀ (s : Shared) (H : Hp) (C : Addr) (cl : List (Str × Addr)) (fp : List Addr), PI_ Φ (X.blk s H scope (compEnvC scope cl C X.env) fp) tg2 iter2 ci2)
    (hp2 : ∀ (s : Shared) (H : Hp) (C : Addr) (cl : List (Str × Addr)) (fp : List Addr), PP_ (X.blk s H scope (compEnvC scope cl C X.env) fp) tg2 pt2)
    (ht2 : ∀ (s : Shared) (H : Hp) (C : Addr) (cl : List (Str × Addr)) (fp : List Addr), PTs_ Φ (X.blk s H scope (compEnvC scope cl C X.env) fp) ifs2 ct2)
    (he : ∀ (s : Shared) (H : Hp) (C : Addr) (cl : List (Str × Addr)) (fp : List Addr), PV_ Φ (X.blk s H scope (compEnvC scope cl C X.env) fp) elt ce) (hs : ∀ x, foldedSetIterable iter X.env x = pure x := by intro _; rfl) (hs1 : ∀ env x, foldedSetIterable iter2 env x = pure x := by intro _ _; rfl) :
    PF_ Φ X (.ListComp elt [⟨tg, iter, ifs, 0⟩, ⟨tg2, iter2, ifs2, 0⟩] scope pos) (.lc2 (own.map (·.2)) ce pt ci ct own2 pt2 ci2 ct2) := by
  exact pe_imp (pe_lc2 (wi := tJ X.K Φ ci) (g := tP X.K pt) (tt := tTs X.K Φ ct) (wi1 := tI X.K Φ ci2) (g1 := tP X.K pt2) (tt1 := tTs X.K Φ ct2) (te := tE X.K Φ ce) (vs1 := own2) g.calm (by rw [g.n]; exact g.nd) hi (by rw [g.n, g.sc]; exact blkOk_by hb) ho2 hp ht hi2 hp2 ht2 he hs hs1) fun σ H Q h => lc2_imp hsl hsl2 h
end
end
end MP

/-! MP st: statements keep their evaluator's promise. -/
namespace MP
open PySem PySem.Spec PyProof.Rows L2

theorem nodup_get {α : Type} : ∀ {l : List α} {i j : Nat} {x : α}, l.Nodup → l[i]? = some x → l[j]? = some x → i = j
  | [], _, _, _, _, h, _ => by simp at h
  | a :: r, 0, 0, _, _, _, _ => rfl
  | a :: r, 0, j + 1, x, n, h1, h2 => by
    simp at h1 h2
    subst h1
    exact absurd (List.mem_of_getElem? h2) (List.nodup_cons.mp n).1
  | a :: r, i + 1, 0, x, n, h1, h2 => by
    simp at h1 h2
    subst h2
    exact absurd (List.mem_of_getElem? h1) (List.nodup_cons.mp n).1
  | a :: r, i + 1, j + 1, x, n, h1, h2 => by
    simp at h1 h2
    rw [nodup_get (List.nodup_cons.mp n).2 h1 h2]
/-- the state within a def's body: as0, G0, H0 at the entry -/
structure Sti (as0 as : List Addr) (K : PySem.W.Frag) (G0 H0 G H : Hp) (σ : L2.St) (ρ : Envi) (D : DS) : Prop where
  pre : ∃ more, as = as0 ++ more
  fr : ∀ a ∈ as, a ∈ as0 ∨ H0 a = none
  w : Wd as K G H D
  r : Rp as K G H σ ρ
  pl : Pln as K G H σ ρ
  st : Stp as0 G0 H0 G H
  on : ∀ (i : Nat) (x : PV) (a : Addr), ρ[i]? = some (some (true, x)) → σ[i]? = some (some (.ref a)) → H0 a = none
/-- later: more is shared, more is told -/
def Nxt (as : List Addr) (G : Hp) (as' : List Addr) (G' : Hp) : Prop := (∃ more, as' = as ++ more) ∧ Le G G'
theorem Nxt.refl (as : List Addr) (G : Hp) : Nxt as G as G := ⟨⟨[], by simp⟩, Le.refl G⟩
theorem Nxt.trans {as as1 as2 : List Addr} {G G1 G2 : Hp} (a : Nxt as G as1 G1) (b : Nxt as1 G1 as2 G2) : Nxt as G as2 G2 := by
  obtain ⟨⟨m1, e1⟩, l1⟩ := a
  obtain ⟨⟨m2, e2⟩, l2⟩ := b
  exact ⟨⟨m1 ++ m2, by rw [e2, e1, List.append_assoc]⟩, l1.trans l2⟩
theorem Nxt.same {as : List Addr} {G G' : Hp} (l : Le G G') : Nxt as G as G' := ⟨⟨[], by simp⟩, l⟩
theorem Nxt.tr {as as' : List Addr} {G G' : Hp} {K : PySem.W.Frag} {v : V} {x : PV} (n : Nxt as G as' G') (t : Tr as K G v x) : Tr as' K G' v x := by
  obtain ⟨⟨m, rfl⟩, l⟩ := n
  exact t.mono l m
/-- what is wanted at a statement's end -/
def EndO (E : Ends) (K : PySem.W.Frag) (as : List Addr) (G : Hp) (σ : L2.St) (H : Hp) : Out → Prop
  | .nx => E.nx σ H
  | .bk => E.bk σ H
  | .ct => E.ct σ H
  | .rt x => ∀ v, Tr as K G v x → E.rt v H
def sR (K : PySem.W.Frag) (f : Envi → DS → XR) : TS := fun E σ H => ∃ as0 G0 H0 as G ρ D o ρ' D', Sti as0 as K G0 H0 G H σ ρ D ∧ f ρ D = some (o, ρ', D') ∧
  ∀ as' σ' G' H', Nxt as G as' G' → Sti as0 as' K G0 H0 G' H' σ' ρ' D' → EndO E K as' G' σ' H' o
def sS (K : PySem.W.Frag) (Φ : Fns) (c : CS) : TS := sR K (ex Φ c)
def sSs (K : PySem.W.Frag) (Φ : Fns) (c : CSs) : TS := sR K (exs Φ c)
abbrev PS_ (Φ : Fns) (X : Cx) (s : Stmt) (c : CS) : Prop := PS X s (sS X.K Φ c)
abbrev PSs_ (Φ : Fns) (X : Cx) (s : List Stmt) (c : CSs) : Prop := PSs X s (sSs X.K Φ c)
theorem ps_imp {X : Cx} {s : Stmt} {t u : TS} (h : PS X s t) (i : ∀ D σ H, u D σ H → t D σ H) : PS X s u := ⟨fun pins st σ H D I q => h.run pins st σ H D I (i _ _ _ q)⟩
theorem pss_imp {X : Cx} {s : List Stmt} {t u : TS} (h : PSs X s t) (i : ∀ D σ H, u D σ H → t D σ H) : PSs X s u := ⟨fun pins st σ H D I q => h.run pins st σ H D I (i _ _ _ q)⟩

section
variable {as0 as : List Addr} {K : PySem.W.Frag} {G0 H0 G H G' H' : Hp} {σ : L2.St} {ρ : Envi} {D D' : DS}
theorem Stp.of_in (st : Stp as0 G0 H0 G H) (fr : ∀ a ∈ as, a ∈ as0 ∨ H0 a = none) (s2 : Stp as G H G' H') : Stp as0 G0 H0 G' H' :=
  ⟨st.le.trans s2.le, fun b h => by
    rcases s2.nw b h with h | h
    · exact st.nw b h
    · right
      cases e : H0 b with
      | none => rfl
      | some o => exact absurd h (st.sm b (by rw [e]; exact fun z => nomatch z)),
   fun b o hb h => s2.kp b o (fun m => by
      rcases fr b m with z | z
      · exact hb z
      · rw [h] at z; cases z) (st.kp b o hb h),
   fun b h => s2.sm b (st.sm b h)⟩
/-- an expression has been evaluated -/
theorem Sti.adv (S : Sti as0 as K G0 H0 G H σ ρ D) (st : Stp as G H G' H') (w' : Wd as K G' H' D') : Sti as0 as K G0 H0 G' H' σ ρ D' :=
  ⟨S.pre, S.fr, w', S.r.up st, Pln.up S.r S.pl st, S.st.of_in S.fr st, S.on⟩
theorem set_get {α : Type} {l : List α} {i j : Nat} {x y : α} (h : (l.set i x)[j]? = some y) : (i = j ∧ y = x ∧ i < l.length) ∨ (i ≠ j ∧ l[j]? = some y) := by
  by_cases e : i = j
  · subst e
    have hl : i < l.length := by
      have := (List.getElem?_eq_some_iff.mp h).1
      rwa [List.length_set] at this
    rw [List.getElem?_set_self hl] at h
    cases h
    exact .inl ⟨rfl, rfl, hl⟩
  · rw [List.getElem?_set_ne e] at h
    exact .inr ⟨e, h⟩
/-- a value stored in a slot -/
theorem Sti.put (S : Sti as0 as K G0 H0 G H σ ρ D) (i : Nat) {v : V} {x : PV} (t : Tr as K G v x) : Sti as0 as K G0 H0 G H (σ.set i (some v)) (ρ.set i (some (false, x))) D :=
  ⟨S.pre, S.fr, S.w, S.r.put i t, fun j y a h1 h2 => by
    rcases set_get h1 with ⟨_, e, _⟩ | ⟨ne, h1⟩
    · cases e
    · rw [List.getElem?_set_ne ne] at h2
      exact S.pl j y a h1 h2, S.st, fun j y a h1 h2 => by
    rcases set_get h1 with ⟨_, e, _⟩ | ⟨ne, h1⟩
    · cases e
    · rw [List.getElem?_set_ne ne] at h2
      exact S.on j y a h1 h2⟩
/-- a new object stored in a slot -/
theorem Sti.putO (S : Sti as0 as K G0 H0 G H σ ρ D) (i : Nat) {p : Addr} {x : PV} (hp : H0 p = none) (hG : G p = none) (ha : p ∉ as) (ow : OwnO as K G H p x) (av : Av p σ ρ) : Sti as0 as K G0 H0 G H (σ.set i (some (.ref p))) (ρ.set i (some (true, x))) D :=
  ⟨S.pre, S.fr, S.w, ⟨by rw [List.length_set, List.length_set]; exact S.r.len, fun j y h => by
    rcases set_get h with ⟨_, e, _⟩ | ⟨ne, h⟩
    · cases e
    · rw [List.getElem?_set_ne ne]
      exact S.r.frz j y h, fun j y h => by
    rcases set_get h with ⟨e, e2, hl⟩ | ⟨ne, h⟩
    · subst e
      cases e2
      exact ⟨p, List.getElem?_set_self (by rw [S.r.len]; exact hl), hG, ha, ow.r⟩
    · rw [List.getElem?_set_ne ne]
      exact S.r.own j y h, fun j k y z a h1 h2 h3 h4 => by
    rcases set_get h1 with ⟨e1, q1, l1⟩ | ⟨n1, h1⟩
    · rcases set_get h2 with ⟨e2, _, _⟩ | ⟨n2, h2⟩
      · rw [← e1, ← e2]
      · subst e1
        rw [List.getElem?_set_self (by rw [S.r.len]; exact l1)] at h3
        rw [List.getElem?_set_ne n2] at h4
        cases h3
        exact absurd h4 (av k z h2)
    · rcases set_get h2 with ⟨e2, _, l2⟩ | ⟨n2, h2⟩
      · subst e2
        rw [List.getElem?_set_self (by rw [S.r.len]; exact l2)] at h4
        rw [List.getElem?_set_ne n1] at h3
        cases h4
        exact absurd h3 (av j y h1)
      · rw [List.getElem?_set_ne n1] at h3
        rw [List.getElem?_set_ne n2] at h4
        exact S.r.dis j k y z a h1 h2 h3 h4⟩, fun j y a h1 h2 => by
    rcases set_get h1 with ⟨e, e2, hl⟩ | ⟨ne, h1⟩
    · subst e
      rw [List.getElem?_set_self (by rw [S.r.len]; exact hl)] at h2
      cases e2
      cases h2
      exact ow
    · rw [List.getElem?_set_ne ne] at h2
      exact S.pl j y a h1 h2, S.st, fun j y a h1 h2 => by
    rcases set_get h1 with ⟨e, _, hl⟩ | ⟨ne, h1⟩
    · subst e
      rw [List.getElem?_set_self (by rw [S.r.len]; exact hl)] at h2
      cases h2
      exact hp
    · rw [List.getElem?_set_ne ne] at h2
      exact S.on j y a h1 h2⟩
theorem Sti.none0 (S : Sti as0 as K G0 H0 G H σ ρ D) {p : Addr} (hp : H p = none) : H0 p = none := by
  cases e : H0 p with
  | none => rfl
  | some o => exact absurd hp (S.st.sm p (by rw [e]; exact fun z => nomatch z))
/-- what a slot holds by itself is changed -/
theorem Sti.mutO (S : Sti as0 as K G0 H0 G H σ ρ D) {i : Nat} {x y : PV} {a : Addr} {o : HO} (h1 : ρ[i]? = some (some (true, x))) (h2 : σ[i]? = some (some (.ref a))) (ow : OwnO as K G (upd H a o) a y) :
    Sti as0 as K G0 H0 G (upd H a o) σ (ρ.set i (some (true, y))) D := by
  obtain ⟨b, e, hG, ha, oo⟩ := S.r.own i x h1
  rw [h2] at e
  cases e
  have hl : i < ρ.length := (List.getElem?_eq_some_iff.mp h1).1
  have other : ∀ {j : Nat} {z : PV} {c : Addr}, i ≠ j → ρ[j]? = some (some (true, z)) → σ[j]? = some (some (.ref c)) → c ≠ a := fun {j z c} ne q1 q2 e => by
    subst e
    exact ne (S.r.dis i j x z c h1 q1 h2 q2)
  refine ⟨S.pre, S.fr, S.w.mut hG ha, ⟨by rw [List.length_set]; exact S.r.len, fun j z h => ?_, fun j z h => ?_, fun j k z z' c q1 q2 q3 q4 => ?_⟩, fun j z c q1 q2 => ?_, S.st.mut (S.on i x a h1 h2), fun j z c q1 q2 => ?_⟩
  · rcases set_get h with ⟨_, e, _⟩ | ⟨ne, h⟩
    · cases e
    · exact S.r.frz j z h
  · rcases set_get h with ⟨e, e2, _⟩ | ⟨ne, h⟩
    · subst e
      cases e2
      exact ⟨a, h2, hG, ha, ow.r⟩
    · obtain ⟨c, e, g1, g2, oc⟩ := S.r.own j z h
      have := oc.up (G' := G) (H' := upd H a o) (Le.refl G) (upd_ne (other ne h e)) []
      exact ⟨c, e, g1, g2, by simpa using this⟩
  · rcases set_get q1 with ⟨e1, _, _⟩ | ⟨n1, q1⟩
    · rcases set_get q2 with ⟨e2, _, _⟩ | ⟨n2, q2⟩
      · rw [← e1, ← e2]
      · subst e1
        exact S.r.dis i k x z' c h1 q2 q3 q4
    · rcases set_get q2 with ⟨e2, _, _⟩ | ⟨n2, q2⟩
      · subst e2
        exact S.r.dis j i z x c q1 h1 q3 q4
      · exact S.r.dis j k z z' c q1 q2 q3 q4
  · rcases set_get q1 with ⟨e, e2, _⟩ | ⟨ne, q1⟩
    · subst e
      rw [h2] at q2
      cases q2
      cases e2
      exact ow
    · have := (S.pl j z c q1 q2).up (G' := G) (H' := upd H a o) (Le.refl G) (upd_ne (other ne q1 q2)) []
      simpa using this
  · rcases set_get q1 with ⟨e, _, _⟩ | ⟨ne, q1⟩
    · subst e
      rw [h2] at q2
      cases q2
      exact S.on i x a h1 h2
    · exact S.on j z c q1 q2
/-- a shared object is changed -/
theorem Sti.mutS (S : Sti as0 as K G0 H0 G H σ ρ D) {j : Nat} {y : PV} {a : Addr} {o : HO} (h1 : as[j]? = some a) (ow : OwnO as K G (upd H a o) a y) :
    Sti as0 as K G0 H0 G (upd H a o) σ ρ (D.set j y) := by
  have hm : a ∈ as := List.mem_of_getElem? h1
  have hG := S.w.off a hm
  have hj : j < as.length := (List.getElem?_eq_some_iff.mp h1).1
  have ndj : ∀ {k : Nat} {c : Addr}, as[k]? = some c → c = a → k = j := fun {k c} q e => by
    subst e
    exact nodup_get S.w.nd q h1
  refine ⟨S.pre, S.fr, ⟨fun b u h => by rw [upd_ne (ne_of_none h hG)]; exact S.w.sub b u h, S.w.nd, by rw [List.length_set]; exact S.w.len, S.w.off, fun k c z q1 q2 => ?_⟩, ⟨S.r.len, S.r.frz, fun k z h => ?_, S.r.dis⟩, fun k z c q1 q2 => ?_, ?_, S.on⟩
  · by_cases e : c = a
    · have := ndj q1 e
      subst this
      subst e
      rw [List.getElem?_set_self (by rw [← S.w.len]; exact hj)] at q2
      cases q2
      cases y with
      | lst xs => exact ow
      | dct t kvs => exact ow
      | _ => exact absurd ow id
    · rw [List.getElem?_set_ne (fun z => e (by rw [← z] at q1; rw [h1] at q1; exact (Option.some.inj q1).symm))] at q2
      have := (S.w.sh k c z q1 q2).up (G' := G) (H' := upd H a o) (Le.refl G) (upd_ne e) []
      simpa using this
  · obtain ⟨c, e, g1, g2, oc⟩ := S.r.own k z h
    have := oc.up (G' := G) (H' := upd H a o) (Le.refl G) (upd_ne (fun e => g2 (by rw [e]; exact hm))) []
    exact ⟨c, e, g1, g2, by simpa using this⟩
  · obtain ⟨c', e, g1, g2, oc⟩ := S.r.own k z q1
    rw [q2] at e
    cases e
    have := (S.pl k z c q1 q2).up (G' := G) (H' := upd H a o) (Le.refl G) (upd_ne (fun e => g2 (by rw [e]; exact hm))) []
    simpa using this
  · rcases S.fr a hm with z | z
    · refine ⟨S.st.le, S.st.nw, fun b u hb h => ?_, fun b h => ?_⟩
      · rw [upd_ne (fun e => hb (by rw [e]; exact z))]; exact S.st.kp b u hb h
      · by_cases e : b = a
        · rw [e, upd_same]; exact fun z => nomatch z
        · rw [upd_ne e]; exact S.st.sm b h
    · exact S.st.mut z
end
section
variable {T : Tb} {Φ : Fns} {N : List Str} {sc : Scope} {X : Cx} {e a b tg : Expr} {pos p : Pos} {c : CE}
/-! ### name = value -/
theorem asg_v {K : PySem.W.Frag} {i : Nat} {c : CE} {E : Ends} {σ : L2.St} {H : Hp} (h : sS K Φ (.asg false i c) E σ H) : tAsg (tE K Φ c) (gName i) E σ H := by
  obtain ⟨as0, G0, H0, as, G, ρ, D, o, ρ', D', S, ee, f⟩ := h
  obtain ⟨⟨x, D1⟩, e1, ee⟩ := Option.map_eq_some_iff.mp (show (ev Φ c ρ D).map (fun r => (Out.nx, ρ.set i (some (false, r.1)), r.2)) = some (o, ρ', D') from ee)
  cases ee
  exact ⟨as, G, ρ, D, x, D1, S.w, S.r, e1, fun v G' H' st w' t => f as _ G' H' (.same st.le) ((S.adv st w').put i t)⟩
theorem asg_f {K : PySem.W.Frag} {i : Nat} {c : CE} {E : Ends} {σ : L2.St} {H : Hp} (h : sS K Φ (.asg true i c) E σ H) : tAsg (tF K Φ c) (gName i) E σ H := by
  obtain ⟨as0, G0, H0, as, G, ρ, D, o, ρ', D', S, ee, f⟩ := h
  obtain ⟨⟨x, D1⟩, e1, ee⟩ := Option.map_eq_some_iff.mp (show (ev Φ c ρ D).map (fun r => (Out.nx, ρ.set i (some (true, r.1)), r.2)) = some (o, ρ', D') from ee)
  cases ee
  exact ⟨as, G, ρ, D, x, D1, S.w, S.r, e1, fun p G' H' st w' hp hG ow => f as _ G' H' (.same st.le) ((S.adv st w').putO i (S.none0 hp) hG (fun m => S.w.some m hp) ow (S.r.av hp))⟩
/-- a new object becomes shared -/
theorem Sti.share {as0 as : List Addr} {K : PySem.W.Frag} {G0 H0 G H : Hp} {σ : L2.St} {ρ : Envi} {D : DS} (S : Sti as0 as K G0 H0 G H σ ρ D) (i : Nat) {p : Addr} {x : PV} (hp : H0 p = none) (hG : G p = none) (ha : p ∉ as) (ow : OwnO as K G H p x) (av : Av p σ ρ) :
    Sti as0 (as ++ [p]) K G0 H0 G H (σ.set i (some (.ref p))) (ρ.set i (some (false, .shr D.length))) (D ++ [x]) := by
  have le := Le.refl G
  have old : ∀ {a : Addr}, H a = H a := fun {_} => rfl
  refine ⟨?_, fun a h => ?_, ⟨S.w.sub, ?_, by rw [List.length_append, List.length_append, S.w.len]; rfl, fun a h => ?_, fun j a z h1 h2 => ?_⟩, ⟨by rw [List.length_set, List.length_set]; exact S.r.len, fun j y h => ?_, fun j y h => ?_, fun j k y z a h1 h2 h3 h4 => ?_⟩, fun j y a h1 h2 => ?_, S.st, fun j y a h1 h2 => ?_⟩
  · obtain ⟨m, e⟩ := S.pre
    exact ⟨m ++ [p], by rw [e, List.append_assoc]⟩
  · rcases List.mem_append.mp h with h | h
    · exact S.fr a h
    · rw [List.mem_singleton.mp h]; exact .inr hp
  · exact List.nodup_append.mpr ⟨S.w.nd, by simp, fun a h1 b h2 e => ha (by rw [List.mem_singleton.mp h2] at e; rw [← e]; exact h1)⟩
  · rcases List.mem_append.mp h with h | h
    · exact S.w.off a h
    · rw [List.mem_singleton.mp h]; exact hG
  · by_cases hj : j < as.length
    · rw [List.getElem?_append_left hj] at h1
      rw [List.getElem?_append_left (by rw [← S.w.len]; exact hj)] at h2
      exact (S.w.sh j a z h1 h2).up le rfl [p]
    · rw [List.getElem?_append_right (by omega)] at h1
      rw [List.getElem?_append_right (by rw [← S.w.len]; omega), ← S.w.len] at h2
      have e0 : j - as.length = 0 := by
        have := (List.getElem?_eq_some_iff.mp h1).1
        simp at this
        omega
      rw [e0] at h1 h2
      cases h1
      cases h2
      have := ow.up le rfl [p]
      cases x with
      | lst xs => exact this
      | dct t kvs => exact this
      | _ => exact absurd ow id
  · rcases set_get h with ⟨e, e2, hl⟩ | ⟨ne, h⟩
    · subst e
      cases e2
      refine ⟨.ref p, List.getElem?_set_self (by rw [S.r.len]; exact hl), .shr ?_⟩
      rw [← S.w.len, List.getElem?_append_right (Nat.le_refl _), Nat.sub_self]
      rfl
    · rw [List.getElem?_set_ne ne]
      obtain ⟨v, e, t⟩ := S.r.frz j y h
      exact ⟨v, e, t.mono le [p]⟩
  · rcases set_get h with ⟨_, e, _⟩ | ⟨ne, h⟩
    · cases e
    · rw [List.getElem?_set_ne ne]
      obtain ⟨a, e, g1, g2, oo⟩ := S.r.own j y h
      refine ⟨a, e, g1, fun m => ?_, oo.up le rfl [p]⟩
      rcases List.mem_append.mp m with m | m
      · exact g2 m
      · rw [List.mem_singleton.mp m] at e
        exact av j y h e
  · rcases set_get h1 with ⟨_, e, _⟩ | ⟨n1, h1⟩
    · cases e
    · rcases set_get h2 with ⟨_, e, _⟩ | ⟨n2, h2⟩
      · cases e
      · rw [List.getElem?_set_ne n1] at h3
        rw [List.getElem?_set_ne n2] at h4
        exact S.r.dis j k y z a h1 h2 h3 h4
  · rcases set_get h1 with ⟨_, e, _⟩ | ⟨n1, h1⟩
    · cases e
    · rw [List.getElem?_set_ne n1] at h2
      exact (S.pl j y a h1 h2).up le rfl [p]
  · rcases set_get h1 with ⟨_, e, _⟩ | ⟨n1, h1⟩
    · cases e
    · rw [List.getElem?_set_ne n1] at h2
      exact S.on j y a h1 h2
theorem asg_s {K : PySem.W.Frag} {i : Nat} {c : CE} {E : Ends} {σ : L2.St} {H : Hp} (h : sS K Φ (.asgS i c) E σ H) : tAsg (tF K Φ c) (gName i) E σ H := by
  obtain ⟨as0, G0, H0, as, G, ρ, D, o, ρ', D', S, ee, f⟩ := h
  obtain ⟨⟨x, D1⟩, e1, ee⟩ := Option.map_eq_some_iff.mp (show (ev Φ c ρ D).map (fun r => (Out.nx, ρ.set i (some (false, .shr r.2.length)), r.2 ++ [r.1])) = some (o, ρ', D') from ee)
  cases ee
  exact ⟨as, G, ρ, D, x, D1, S.w, S.r, e1, fun p G' H' st w' hp hG ow => f _ _ G' H' ⟨⟨[p], rfl⟩, st.le⟩ ((S.adv st w').share i (S.none0 hp) hG (fun m => S.w.some m hp) ow (S.r.av hp))⟩
section
variable {i : Nat} {x : Str} {pos' : Pos}
theorem ps_nm {te : TE} (g : Gd T Φ N sc X) (hi : N[i]? = some x) (hx : Loc sc x) (he : PE X e te) (hs : swapsWith e (some (.Name x pos')) pos.line X.env = pure false := by rfl) (hf : X.fn x = true ∨ sc.names.lookup x = some .local := by first | exact .inl rfl | exact .inr rfl | assumption) :
    PS X (.Assign [.Name x pos'] e pos) (tAsg te (gName i)) :=
  ps_set (by rw [g.n]; exact g.nd) (by rw [g.n]; exact hi) (by rw [g.sc]; exact hx) he hs (by rw [g.sc]; exact hf)
theorem s_asg (g : Gd T Φ N sc X) (hi : N[i]? = some x) (hx : Loc sc x) (he : PV_ Φ X e c) (hs : swapsWith e (some (.Name x pos')) pos.line X.env = pure false := by rfl) (hf : X.fn x = true ∨ sc.names.lookup x = some .local := by first | exact .inl rfl | exact .inr rfl | assumption) :
    PS_ Φ X (.Assign [.Name x pos'] e pos) (.asg false i c) := ps_imp (ps_nm g hi hx he hs hf) fun _ _ _ h => asg_v h
theorem s_asgF (g : Gd T Φ N sc X) (hi : N[i]? = some x) (hx : Loc sc x) (he : PF_ Φ X e c) (hs : swapsWith e (some (.Name x pos')) pos.line X.env = pure false := by rfl) (hf : X.fn x = true ∨ sc.names.lookup x = some .local := by first | exact .inl rfl | exact .inr rfl | assumption) :
    PS_ Φ X (.Assign [.Name x pos'] e pos) (.asg true i c) := ps_imp (ps_nm g hi hx he hs hf) fun _ _ _ h => asg_f h
theorem s_asgS (g : Gd T Φ N sc X) (hi : N[i]? = some x) (hx : Loc sc x) (he : PF_ Φ X e c) (hs : swapsWith e (some (.Name x pos')) pos.line X.env = pure false := by rfl) (hf : X.fn x = true ∨ sc.names.lookup x = some .local := by first | exact .inl rfl | exact .inr rfl | assumption) :
    PS_ Φ X (.Assign [.Name x pos'] e pos) (.asgS i c) := ps_imp (ps_nm g hi hx he hs hf) fun _ _ _ h => asg_s h
end
/-! ### small statements -/
theorem s_pass : PS_ Φ X (.Pass pos) .pass := ps_imp ps_pass fun E σ H ⟨as0, G0, H0, as, G, ρ, D, o, ρ', D', S, ee, f⟩ => by
  cases ee
  exact f as σ G H (.refl _ _) S
theorem s_brk : PS_ Φ X (.Break pos) .brk := ps_imp ps_break fun E σ H ⟨as0, G0, H0, as, G, ρ, D, o, ρ', D', S, ee, f⟩ => by
  cases ee
  exact f as σ G H (.refl _ _) S
theorem s_cnt : PS_ Φ X (.Continue pos) .cnt := ps_imp ps_continue fun E σ H ⟨as0, G0, H0, as, G, ρ, D, o, ρ', D', S, ee, f⟩ => by
  cases ee
  exact f as σ G H (.refl _ _) S
theorem s_expr (he : PV_ Φ X e c) (hs : swapsWith e none pos.line X.env = pure false := by rfl) : PS_ Φ X (.Expr e pos) (.expr c) := ps_imp (ps_expr he hs) fun E σ H ⟨as0, G0, H0, as, G, ρ, D, o, ρ', D', S, ee, f⟩ => by
  obtain ⟨⟨x, D1⟩, e1, ee⟩ := Option.map_eq_some_iff.mp ee
  cases ee
  exact ⟨as, G, ρ, D, x, D1, S.w, S.r, e1, fun v G' H' st w' t => f as σ G' H' (.same st.le) (S.adv st w')⟩
theorem s_ret (he : PV_ Φ X e c) : PS_ Φ X (.Return (some e) pos) (.ret c) := ps_imp (ps_ret he) fun E σ H ⟨as0, G0, H0, as, G, ρ, D, o, ρ', D', S, ee, f⟩ => by
  obtain ⟨⟨x, D1⟩, e1, ee⟩ := Option.map_eq_some_iff.mp ee
  cases ee
  exact ⟨as, G, ρ, D, x, D1, S.w, S.r, e1, fun v G' H' st w' t => f as σ G' H' (.same st.le) (S.adv st w') v t⟩
theorem s_retN : PS_ Φ X (.Return none pos) .retN := ps_imp ps_retN fun E σ H ⟨as0, G0, H0, as, G, ρ, D, o, ρ', D', S, ee, f⟩ => by
  cases ee
  exact f as σ G H (.refl _ _) S .non .non
/-! ### blocks -/
theorem ss_nil : PSs_ Φ X [] .nil := pss_imp pss_nil fun E σ H ⟨as0, G0, H0, as, G, ρ, D, o, ρ', D', S, ee, f⟩ => by
  have ee' : some (Out.nx, ρ, D) = some (o, ρ', D') := ee
  cases ee'
  exact f as σ G H (.refl _ _) S
theorem ss_cons {st : Stmt} {r : List Stmt} {s : CS} {cs : CSs} (h1 : PS_ Φ X st s) (h2 : PSs_ Φ X r cs) : PSs_ Φ X (st :: r) (.cons s cs) := pss_imp (pss_cons h1 h2) fun E σ H ⟨as0, G0, H0, as, G, ρ, D, o, ρ', D', S, ee, f⟩ => by
  obtain ⟨⟨o1, ρ1, D1⟩, e1, e2⟩ := Option.bind_eq_some_iff.mp (show (ex Φ s ρ D).bind (fun q => match q.1 with | .nx => exs Φ cs q.2.1 q.2.2 | _ => some q) = some (o, ρ', D') from ee)
  refine ⟨as0, G0, H0, as, G, ρ, D, o1, ρ1, D1, S, e1, fun as1 σ1 G1 H1 n1 S1 => ?_⟩
  cases o1 with
  | nx =>
    exact ⟨as0, G0, H0, as1, G1, ρ1, D1, o, ρ', D', S1, e2, fun as2 σ2 G2 H2 n2 S2 => f as2 σ2 G2 H2 (n1.trans n2) S2⟩
  | rt x =>
    cases e2
    exact f as1 σ1 G1 H1 n1 S1
  | bk =>
    cases e2
    exact f as1 σ1 G1 H1 n1 S1
  | ct =>
    cases e2
    exact f as1 σ1 G1 H1 n1 S1
/-- a slot's own object is told from now on -/
theorem Sti.frz1 {as0 as : List Addr} {K : PySem.W.Frag} {G0 H0 G H : Hp} {σ : L2.St} {ρ : Envi} {D : DS} (S : Sti as0 as K G0 H0 G H σ ρ D) (i : Nat) : ∃ G', Le G G' ∧ Sti as0 as K G0 H0 G' H σ (frz1 ρ i) D := by
  unfold MP.frz1
  split
  case h_2 => exact ⟨G, Le.refl G, S⟩
  rename_i x h1
  obtain ⟨a, e, hG, ha, oo⟩ := S.r.own i x h1
  have ow := S.pl i x a h1 e
  obtain ⟨G', l, tw, w', t⟩ := tell_own S.w hG ha ow
  refine ⟨G', l, S.pre, S.fr, w', ⟨by rw [List.length_set]; exact S.r.len, fun j y h => ?_, fun j y h => ?_, fun j k y z c q1 q2 q3 q4 => ?_⟩, fun j y c q1 q2 => ?_, ⟨S.st.le.trans l, fun b hb => ?_, S.st.kp, S.st.sm⟩, fun j y c q1 q2 => ?_⟩
  · rcases set_get h with ⟨e1, e2, _⟩ | ⟨ne, h⟩
    · subst e1
      cases e2
      exact ⟨_, e, t⟩
    · obtain ⟨v, e3, t3⟩ := S.r.frz j y h
      exact ⟨v, e3, t3.up l⟩
  · rcases set_get h with ⟨_, e2, _⟩ | ⟨ne, h⟩
    · cases e2
    · obtain ⟨c, e3, g1, g2, o3⟩ := S.r.own j y h
      refine ⟨c, e3, ?_, g2, by have := o3.up (H' := H) l rfl []; simpa using this⟩
      cases q : G' c with
      | none => rfl
      | some u =>
        rcases tw c (by rw [q]; exact fun z => nomatch z) with z | z
        · exact absurd g1 z
        · subst z
          exact absurd (S.r.dis i j x y c h1 h e e3) ne
  · rcases set_get q1 with ⟨_, e2, _⟩ | ⟨n1, q1⟩
    · cases e2
    · rcases set_get q2 with ⟨_, e2, _⟩ | ⟨n2, q2⟩
      · cases e2
      · exact S.r.dis j k y z c q1 q2 q3 q4
  · rcases set_get q1 with ⟨_, e2, _⟩ | ⟨ne, q1⟩
    · cases e2
    · have := (S.pl j y c q1 q2).up (H' := H) l rfl []
      simpa using this
  · rcases tw b hb with z | z
    · exact S.st.nw b z
    · subst z
      exact .inr (S.on i x b h1 e)
  · rcases set_get q1 with ⟨_, e2, _⟩ | ⟨ne, q1⟩
    · cases e2
    · exact S.on j y c q1 q2
theorem Sti.frzL {as0 as : List Addr} {K : PySem.W.Frag} {G0 H0 H : Hp} {σ : L2.St} {D : DS} : ∀ (is : List Nat) {G : Hp} {ρ : Envi}, Sti as0 as K G0 H0 G H σ ρ D → ∃ G', Le G G' ∧ Sti as0 as K G0 H0 G' H σ (frzL ρ is) D
  | [], G, ρ, S => ⟨G, Le.refl G, S⟩
  | i :: is, G, ρ, S => by
    obtain ⟨G1, l1, S1⟩ := S.frz1 i
    obtain ⟨G2, l2, S2⟩ := S1.frzL is
    exact ⟨G2, l1.trans l2, S2⟩
theorem ss_frz {is : List Nat} {st : List Stmt} {cs : CSs} (h : PSs_ Φ X st cs) : PSs_ Φ X st (.frz is cs) := pss_imp h fun E σ H ⟨as0, G0, H0, as, G, ρ, D, o, ρ', D', S, ee, f⟩ => by
  obtain ⟨G1, l, S1⟩ := S.frzL is
  exact ⟨as0, G0, H0, as, G1, frzL ρ is, D, o, ρ', D', S1, ee, fun as' σ' G' H' n S' => f as' σ' G' H' ((Nxt.same l).trans n) S'⟩
theorem s_if {p q : List Stmt} {cp cq : CSs} (hc : PT_ Φ X e c) (ha : PSs_ Φ X p cp) (hb : PSs_ Φ X q cq) : PS_ Φ X (.If e p q pos) (.ife c cp cq) := ps_imp (ps_if hc ha hb) fun E σ H ⟨as0, G0, H0, as, G, ρ, D, o, ρ', D', S, ee, f⟩ => by
  obtain ⟨⟨x, D1⟩, e1, ee⟩ := Option.bind_eq_some_iff.mp ee
  obtain ⟨z, e2, ee⟩ := Option.bind_eq_some_iff.mp ee
  have ex : x = .bl z := by
    cases x <;> first | (cases e2; rfl) | cases e2
  subst ex
  refine ⟨as, G, ρ, D, z, D1, S.w, S.r, e1, fun G1 H1 st1 w1 => ?_⟩
  cases z with
  | true => exact ⟨as0, G0, H0, as, G1, ρ, D1, o, ρ', D', S.adv st1 w1, ee, fun as' σ' G' H' n S' => f as' σ' G' H' ((Nxt.same st1.le).trans n) S'⟩
  | false => exact ⟨as0, G0, H0, as, G1, ρ, D1, o, ρ', D', S.adv st1 w1, ee, fun as' σ' G' H' n S' => f as' σ' G' H' ((Nxt.same st1.le).trans n) S'⟩
/-! ### loops -/
theorem s_while {q : List Stmt} {cq : CSs} (g : Gd T Φ N sc X) (hc : PT_ Φ X e c) (hb : PSs_ Φ X q cq) : PS_ Φ X (.While e q [] pos) (.whl c cq) := ps_imp (ps_while (by rw [g.xe]; exact PassesOwn.never) hc hb) fun E σ H ⟨as0, G0, H0, as, G, ρ, D, o, ρ', D', S, ee, f⟩ => by
  have ee : whlL (fun ρ D => (ev Φ c ρ D).bind fun r => (blOf r.1).map fun z => (z, r.2)) (fun ρ D => exs Φ cq ρ D) WH ρ D = some (o, ρ', D') := ee
  refine ⟨fun m σ1 H1 => ∃ as1 G1 ρ1 D1, Nxt as G as1 G1 ∧ Sti as0 as1 X.K G0 H0 G1 H1 σ1 ρ1 D1 ∧ whlL (fun ρ D => (ev Φ c ρ D).bind fun r => (blOf r.1).map fun z => (z, r.2)) (fun ρ D => exs Φ cq ρ D) m ρ1 D1 = some (o, ρ', D'), ⟨WH, as, G, ρ, D, .refl _ _, S, ee⟩, ?_⟩
  rintro m σ1 H1 ⟨as1, G1, ρ1, D1, n1, S1, e1⟩
  cases m with
  | zero => cases e1
  | succ m =>
    obtain ⟨⟨z, D2⟩, e2, e3⟩ := Option.bind_eq_some_iff.mp e1
    obtain ⟨⟨x, D3⟩, e4, e5⟩ := Option.bind_eq_some_iff.mp e2
    obtain ⟨z', e6, e7⟩ := Option.map_eq_some_iff.mp e5
    have ex : x = .bl z' := by
      cases x <;> first | (cases e6; rfl) | cases e6
    subst ex
    have q1 : z' = z := congrArg Prod.fst e7
    have q2 : D3 = D2 := congrArg Prod.snd e7
    subst q1 q2
    refine ⟨as1, G1, ρ1, D1, z', D3, S1.w, S1.r, e4, fun G2 H2 st2 w2 => ?_⟩
    have S2 := S1.adv st2 w2
    have n2 := n1.trans (Nxt.same st2.le)
    cases z' with
    | false =>
      have e3' : some (Out.nx, ρ1, D3) = some (o, ρ', D') := e3
      cases e3'
      exact f as1 σ1 G2 H2 n2 S2
    | true =>
      obtain ⟨⟨o4, ρ4, D4⟩, e8, e9⟩ := Option.bind_eq_some_iff.mp (show (exs Φ cq ρ1 D3).bind (fun r => match r.1 with
        | .nx => whlL (fun ρ D => (ev Φ c ρ D).bind fun r => (blOf r.1).map fun z => (z, r.2)) (fun ρ D => exs Φ cq ρ D) m r.2.1 r.2.2
        | .ct => whlL (fun ρ D => (ev Φ c ρ D).bind fun r => (blOf r.1).map fun z => (z, r.2)) (fun ρ D => exs Φ cq ρ D) m r.2.1 r.2.2
        | .bk => some (.nx, r.2)
        | .rt v => some (.rt v, r.2)) = some (o, ρ', D') from e3)
      show if true = true then _ else _
      rw [if_pos rfl]
      refine ⟨fun σ' H' => ∃ as1 G1 ρ1 D1, Nxt as G as1 G1 ∧ Sti as0 as1 X.K G0 H0 G1 H' σ' ρ1 D1 ∧ whlL (fun ρ D => (ev Φ c ρ D).bind fun r => (blOf r.1).map fun z => (z, r.2)) (fun ρ D => exs Φ cq ρ D) m ρ1 D1 = some (o, ρ', D'), fun σ' H' h => ⟨m, Nat.lt_succ_self m, h⟩, ?_⟩
      refine ⟨as0, G0, H0, as1, G2, ρ1, D3, o4, ρ4, D4, S2, e8, fun as5 σ5 G5 H5 n5 S5 => ?_⟩
      have n6 := n2.trans n5
      cases o4 with
      | nx => exact ⟨as5, G5, ρ4, D4, n6, S5, e9⟩
      | ct => exact ⟨as5, G5, ρ4, D4, n6, S5, e9⟩
      | bk =>
        cases e9
        exact f as5 σ5 G5 H5 n6 S5
      | rt v =>
        cases e9
        exact f as5 σ5 G5 H5 n6 S5
/-- the state behind a target's store -/
theorem Sti.bind {as0 as : List Addr} {K : PySem.W.Frag} {G0 H0 G H : Hp} {σ σ' : L2.St} {ρ ρ' : Envi} {D : DS} {pt : Pat} {x : PV} (S : Sti as0 as K G0 H0 G H σ ρ D) (b : bindP pt x ρ = some ρ') (r : Rp as K G H σ' ρ') (s : Same σ σ' pt.slots) : Sti as0 as K G0 H0 G H σ' ρ' D :=
  ⟨S.pre, S.fr, S.w, r, fun j y c q1 q2 => by
    obtain ⟨n, h2⟩ := bindP_own b q1
    rw [s.2 j n] at q2
    exact S.pl j y c h2 q2, S.st, fun j y c q1 q2 => by
    obtain ⟨n, h2⟩ := bindP_own b q1
    rw [s.2 j n] at q2
    exact S.on j y c h2 q2⟩
theorem s_for {q : List Stmt} {cq : CSs} {pt : Pat} {ci : CI} (g : Gd T Φ N sc X) (hi : PI_ Φ X tg e ci) (hp : PP_ X tg pt) (hb : PSs_ Φ X q cq) (hs : ∀ x, foldedSetIterable e X.env x = pure x := by intro _; rfl) : PS_ Φ X (.For tg e q [] pos) (.for_ pt ci cq) :=
  ps_imp (ps_for (by rw [g.xe]; exact PassesOwn.never) g.calm hi hp hb hs) fun E σ H ⟨as0, G0, H0, as, G, ρ, D, o, ρ', D', S, ee, f⟩ => by
  obtain ⟨⟨xs, D1⟩, e1, e2⟩ := Option.bind_eq_some_iff.mp ee
  have e2 : forL (fun x ρ D => (bindP pt x ρ).bind fun ρ1 => exs Φ cq ρ1 D) xs ρ D1 = some (o, ρ', D') := e2
  refine ⟨as, G, ρ, D, xs, D1, S.w, S.r, e1, fun J G1 H1 st1 w1 hz ser => ?_⟩
  refine ⟨fun i m σ2 H2 => m = xs.length - i ∧ i ≤ xs.length ∧ ∃ as2 G2 ρ2 D2, Nxt as G1 as2 G2 ∧ Sti as0 as2 X.K G0 H0 G2 H2 σ2 ρ2 D2 ∧ forL (fun x ρ D => (bindP pt x ρ).bind fun ρ1 => exs Φ cq ρ1 D) (xs.drop i) ρ2 D2 = some (o, ρ', D'),
    ⟨xs.length, by simp, Nat.zero_le _, as, G1, ρ, D1, .refl _ _, S.adv st1 w1, by rw [List.drop_zero]; exact e2⟩, ?_⟩
  rintro i m σ2 H2 ⟨rfl, hi, as2, G2, ρ2, D2, n2, S2, e3⟩
  obtain ⟨⟨more, em⟩, l2⟩ := id n2
  subst em
  obtain ⟨go, stop, yld⟩ := ser more G2 H2 D2 l2 S2.w
  by_cases hlt : i < xs.length
  · rw [drop_cons hlt] at e3
    obtain ⟨⟨o4, ρ4, D4⟩, e5, e6⟩ := Option.bind_eq_some_iff.mp (show ((bindP pt xs[i] ρ2).bind fun ρ1 => exs Φ cq ρ1 D2).bind (fun r => match r.1 with
      | .nx => forL (fun x ρ D => (bindP pt x ρ).bind fun ρ1 => exs Φ cq ρ1 D) (xs.drop (i + 1)) r.2.1 r.2.2
      | .ct => forL (fun x ρ D => (bindP pt x ρ).bind fun ρ1 => exs Φ cq ρ1 D) (xs.drop (i + 1)) r.2.1 r.2.2
      | .bk => some (.nx, r.2)
      | .rt v => some (.rt v, r.2)) = some (o, ρ', D') from e3)
    obtain ⟨ρ3, b1, e7⟩ := Option.bind_eq_some_iff.mp e5
    refine .inr ⟨go i hlt, fun σ' H' => i + 1 ≤ xs.length ∧ ∃ as2 G2 ρ2 D2, Nxt as G1 as2 G2 ∧ Sti as0 as2 X.K G0 H0 G2 H' σ' ρ2 D2 ∧ forL (fun x ρ D => (bindP pt x ρ).bind fun ρ1 => exs Φ cq ρ1 D) (xs.drop (i + 1)) ρ2 D2 = some (o, ρ', D'),
      fun σ' H' h => ⟨xs.length - (i + 1), by omega, rfl, h.1, h.2⟩, fun v H3 hy => ?_⟩
    obtain ⟨G3, st3, w3, t3⟩ := yld i xs[i] v H3 (List.getElem?_eq_getElem hlt) hy
    have S3 := S2.adv st3 w3
    refine ⟨_, G3, D2, ρ2, xs[i], ρ3, w3, S3.r, t3, b1, fun σ4 r4 s4 => ?_⟩
    have S4 := S3.bind b1 r4 s4
    have n4 := n2.trans (Nxt.same st3.le)
    refine ⟨as0, G0, H0, _, G3, ρ3, D2, o4, ρ4, D4, S4, e7, fun as5 σ5 G5 H5 n5 S5 => ?_⟩
    have n6 := n4.trans n5
    cases o4 with
    | nx => exact ⟨hlt, as5, G5, ρ4, D4, n6, S5, e6⟩
    | ct => exact ⟨hlt, as5, G5, ρ4, D4, n6, S5, e6⟩
    | bk =>
      cases e6
      exact f as5 σ5 G5 H5 ((Nxt.same st1.le).trans n6) S5
    | rt v =>
      cases e6
      exact f as5 σ5 G5 H5 ((Nxt.same st1.le).trans n6) S5
  · have : i = xs.length := by omega
    subst this
    rw [List.drop_length] at e3
    have e3' : some (Out.nx, ρ2, D2) = some (o, ρ', D') := e3
    cases e3'
    exact .inl ⟨stop _ (Nat.le_refl _), f _ σ2 G2 H2 ((Nxt.same st1.le).trans n2) S2⟩
end
end MP

/-! MP su: statements that change lists and dicts; several targets. -/
namespace MP
open PySem PySem.Spec PyProof.Rows L2

section
variable {T : Tb} {Φ : Fns} {N : List Str} {sc : Scope} {X : Cx} {e a b tg k : Expr} {pos p : Pos} {c ck : CE}
/-- the slot's own list -/
theorem own_at {as0 as : List Addr} {K : PySem.W.Frag} {G0 H0 G H : Hp} {σ : L2.St} {ρ : Envi} {D : DS} (S : Sti as0 as K G0 H0 G H σ ρ D) {i : Nat} {x : PV} (h : ρ[i]? = some (some (true, x))) : ∃ a, σ[i]? = some (some (.ref a)) ∧ OwnO as K G H a x := by
  obtain ⟨a, e, _, _, _⟩ := S.r.own i x h
  exact ⟨a, e, S.pl i x a h e⟩
theorem chgO_some {f : PV → Option PV} {i : Nat} {ρ ρ' : Envi} {D D' : DS} (h : chgO f i ρ D = some (ρ', D')) : ∃ x y, ρ[i]? = some (some (true, x)) ∧ f x = some y ∧ ρ' = ρ.set i (some (true, y)) ∧ D' = D := by
  unfold chgO at h
  split at h
  · rename_i x hx
    obtain ⟨y, h1, h2⟩ := Option.map_eq_some_iff.mp h
    cases h2
    exact ⟨x, y, hx, h1, rfl, rfl⟩
  · cases h
section
variable {i : Nat} {x : Str} {apos cpos np : Pos}
theorem pv_slot (g : Gd T Φ N sc X) (hi : N[i]? = some x) (hv : Vis sc x) (hd : (x == ("__debug__" : Str)) = false := by decide) (hcd : (x == ("__classdict__" : Str)) = false := by decide) : PE X (.Name x np) (tVar i) :=
  pe_var (i := i) (by rw [g.n]; exact hi) (by rw [g.sc]; exact hv) hd hcd
theorem ev1 {Φ : Fns} {c : CE} {ρ : Envi} {D D1 : DS} {x : PV} (e1 : ev Φ c ρ D = some (x, D1)) : evs Φ (.cons c .nil) ρ D = some ([x], D1) := by simp only [evs, e1, Option.bind_some, Option.map_some]
theorem ev2 {Φ : Fns} {c c2 : CE} {ρ : Envi} {D D0 D1 : DS} {x y : PV} (e0 : ev Φ c ρ D = some (x, D0)) (e1 : ev Φ c2 ρ D0 = some (y, D1)) : evs Φ (.cons c (.cons c2 .nil)) ρ D = some ([x, y], D1) := by simp only [evs, e0, e1, Option.bind_some, Option.map_some]
/-- xs.append(e) -/
theorem s_app (g : Gd T Φ N sc X) (hi : N[i]? = some x) (hv : Vis sc x) (he : PV_ Φ X e c)
    (hbase : attributeBase (.Name x np) "append" X.env (eval (.Name x np) X.env) = eval (.Name x np) X.env := by rfl)
    (hfew : ((backTo cpos (starEach [e] X.env)).all (fun x => !x.1) && (backToKw cpos (keywordEach [] X.env)).all (fun x => x.1.isSome) && decide (([e] : List Expr).length + ([] : List Keyword).length + (if ([] : List Keyword).isEmpty then 0 else 1) < 30)) = true := by rfl)
    (hline : (apos.endLine == cpos.line) = true := by rfl) (hs : starEach [e] X.env = (false, eval e X.env) :: starEach [] X.env := by rfl) (hplain : (backTo cpos (starEach [] X.env)).any (·.1) = false := by rfl)
    (hsw : swapsWith (.Call (.Attribute (.Name x np) "append" apos) [e] [] cpos) none pos.line X.env = pure false := by rfl)
    (hd : (x == ("__debug__" : Str)) = false := by decide) (hcd : (x == ("__classdict__" : Str)) = false := by decide) : PS_ Φ X (.Expr (.Call (.Attribute (.Name x np) "append" apos) [e] [] cpos) pos) (.app i c) := by
  have hA : PA_ Φ X [e] (.cons c .nil) := a_cons he a_nil hs
  refine ps_imp (ps_expr (pe_bm PySem.F.plainAttrs_list PySem.F.slot_list_append PySem.F.type_list_append mt_append (pv_slot g hi hv hd hcd) hA hbase hfew hline hs hplain) hsw) fun E σ H ⟨as0, G0, H0, as, G, ρ, D, o, ρ', D', S, ee, f⟩ => ?_
  obtain ⟨⟨v, D1⟩, e1, ee⟩ := Option.bind_eq_some_iff.mp (show (ev Φ c ρ D).bind (fun r => (chgO (pApp r.1) i ρ r.2).map fun z => (Out.nx, z.1, z.2)) = some (o, ρ', D') from ee)
  obtain ⟨⟨ρ2, D2⟩, e2, ee⟩ := Option.map_eq_some_iff.mp ee
  cases ee
  obtain ⟨y, z, h1, h2, rfl, rfl⟩ := chgO_some e2
  obtain ⟨l, hl, ow⟩ := own_at S h1
  cases y with
  | lst xs =>
    have h2' : (if xs.length < LIM then some (PV.lst (xs ++ [v])) else none) = some z := h2
    split at h2'
    · rename_i hlim
      cases h2'
      obtain ⟨vs, hH, tv⟩ := id ow
      refine ⟨.ref l, hl, .inl ⟨rfl, vs, .of hH⟩, as, G, ρ, D, _, _, S.w, S.r, ev1 e1, fun ws G1 H1 st1 w1 t1 => ?_⟩
      have S1 := S.adv st1 w1
      cases t1 with
      | cons t1 t2 =>
        cases t2
        obtain ⟨vs2, hH2, tv2⟩ := S1.pl i _ l h1 hl
        refine ⟨l, vs2, _, rfl, rfl, hH2, by rw [tv2.len, sizeLine_eq]; have : LIM = 1000000 := rfl; omega, ?_⟩
        exact f as σ G1 _ (.same st1.le) (S1.mutO h1 hl ⟨_, upd_same, tv2.app (.cons t1 .nil)⟩)
    · cases h2'
  | _ => cases h2
/-- xs.extend(e) -/
theorem s_ext (g : Gd T Φ N sc X) (hi : N[i]? = some x) (hv : Vis sc x) (he : PV_ Φ X e c)
    (hbase : attributeBase (.Name x np) "extend" X.env (eval (.Name x np) X.env) = eval (.Name x np) X.env := by rfl)
    (hfew : ((backTo cpos (starEach [e] X.env)).all (fun x => !x.1) && (backToKw cpos (keywordEach [] X.env)).all (fun x => x.1.isSome) && decide (([e] : List Expr).length + ([] : List Keyword).length + (if ([] : List Keyword).isEmpty then 0 else 1) < 30)) = true := by rfl)
    (hline : (apos.endLine == cpos.line) = true := by rfl) (hs : starEach [e] X.env = (false, eval e X.env) :: starEach [] X.env := by rfl) (hplain : (backTo cpos (starEach [] X.env)).any (·.1) = false := by rfl)
    (hsw : swapsWith (.Call (.Attribute (.Name x np) "extend" apos) [e] [] cpos) none pos.line X.env = pure false := by rfl)
    (hd : (x == ("__debug__" : Str)) = false := by decide) (hcd : (x == ("__classdict__" : Str)) = false := by decide) : PS_ Φ X (.Expr (.Call (.Attribute (.Name x np) "extend" apos) [e] [] cpos) pos) (.ext i c) := by
  have hA : PA_ Φ X [e] (.cons c .nil) := a_cons he a_nil hs
  refine ps_imp (ps_expr (pe_bm PySem.F.plainAttrs_list PySem.F.slot_list_extend PySem.F.type_list_extend mt_extend (pv_slot g hi hv hd hcd) hA hbase hfew hline hs hplain) hsw) fun E σ H ⟨as0, G0, H0, as, G, ρ, D, o, ρ', D', S, ee, f⟩ => ?_
  obtain ⟨⟨v, D1⟩, e1, ee⟩ := Option.bind_eq_some_iff.mp (show (ev Φ c ρ D).bind (fun r => (chgO (pExt r.1) i ρ r.2).map fun z => (Out.nx, z.1, z.2)) = some (o, ρ', D') from ee)
  obtain ⟨⟨ρ2, D2⟩, e2, ee⟩ := Option.map_eq_some_iff.mp ee
  cases ee
  obtain ⟨y, z, h1, h2, rfl, rfl⟩ := chgO_some e2
  obtain ⟨l, hl, ow⟩ := own_at S h1
  cases y with
  | lst xs =>
    cases v with
    | lst ys =>
      have h2' : (if xs.length + ys.length ≤ LIM then some (PV.lst (xs ++ ys)) else none) = some z := h2
      split at h2'
      · rename_i hlim
        cases h2'
        obtain ⟨vs, hH, tv⟩ := id ow
        refine ⟨.ref l, hl, .inl ⟨rfl, vs, .of hH⟩, as, G, ρ, D, _, _, S.w, S.r, ev1 e1, fun ws G1 H1 st1 w1 t1 => ?_⟩
        have S1 := S.adv st1 w1
        cases t1 with
        | cons t1 t2 =>
          cases t2
          cases t1 with
          | lst hG ts =>
            obtain ⟨vs2, hH2, tv2⟩ := S1.pl i _ l h1 hl
            refine ⟨l, _, vs2, _, rfl, rfl, hH2, w1.sub _ _ hG, by rw [tv2.len, ts.len]; exact line_lim hlim, ?_⟩
            exact f as σ G1 _ (.same st1.le) (S1.mutO h1 hl ⟨_, upd_same, tv2.app ts⟩)
      · cases h2'
    | _ => cases h2
  | _ => cases h2
/-- xs.insert(k, e) -/
theorem s_ins (g : Gd T Φ N sc X) (hi : N[i]? = some x) (hv : Vis sc x) (hk : PV_ Φ X k ck) (he : PV_ Φ X e c)
    (hbase : attributeBase (.Name x np) "insert" X.env (eval (.Name x np) X.env) = eval (.Name x np) X.env := by rfl)
    (hfew : ((backTo cpos (starEach [k, e] X.env)).all (fun x => !x.1) && (backToKw cpos (keywordEach [] X.env)).all (fun x => x.1.isSome) && decide (([k, e] : List Expr).length + ([] : List Keyword).length + (if ([] : List Keyword).isEmpty then 0 else 1) < 30)) = true := by rfl)
    (hline : (apos.endLine == cpos.line) = true := by rfl) (hs : starEach [k, e] X.env = (false, eval k X.env) :: starEach [e] X.env := by rfl) (hs2 : starEach [e] X.env = (false, eval e X.env) :: starEach [] X.env := by rfl) (hplain : (backTo cpos (starEach [e] X.env)).any (·.1) = false := by rfl)
    (hsw : swapsWith (.Call (.Attribute (.Name x np) "insert" apos) [k, e] [] cpos) none pos.line X.env = pure false := by rfl)
    (hd : (x == ("__debug__" : Str)) = false := by decide) (hcd : (x == ("__classdict__" : Str)) = false := by decide) : PS_ Φ X (.Expr (.Call (.Attribute (.Name x np) "insert" apos) [k, e] [] cpos) pos) (.ins i ck c) := by
  have hA : PA_ Φ X [k, e] (.cons ck (.cons c .nil)) := a_cons hk (a_cons he a_nil hs2) hs
  refine ps_imp (ps_expr (pe_bm PySem.F.plainAttrs_list PySem.F.slot_list_insert PySem.F.type_list_insert mt_insert (pv_slot g hi hv hd hcd) hA hbase hfew hline hs hplain) hsw) fun E σ H ⟨as0, G0, H0, as, G, ρ, D, o, ρ', D', S, ee, f⟩ => ?_
  obtain ⟨⟨q, D0⟩, e0, ee⟩ := Option.bind_eq_some_iff.mp (show (ev Φ ck ρ D).bind (fun q => (ev Φ c ρ q.2).bind fun r => (chgO (pInsAt q.1 r.1) i ρ r.2).map fun z => (Out.nx, z.1, z.2)) = some (o, ρ', D') from ee)
  obtain ⟨⟨v, D1⟩, e1, ee⟩ := Option.bind_eq_some_iff.mp ee
  obtain ⟨⟨ρ2, D2⟩, e2, ee⟩ := Option.map_eq_some_iff.mp ee
  cases ee
  obtain ⟨y, z, h1, h2, rfl, rfl⟩ := chgO_some e2
  obtain ⟨l, hl, ow⟩ := own_at S h1
  cases y with
  | lst xs =>
    cases q with
    | int j =>
      have h2' : (if 0 ≤ j ∧ j ≤ xs.length ∧ xs.length < LIM then some (PV.lst (xs.take j.toNat ++ v :: xs.drop j.toNat)) else none) = some z := h2
      split at h2'
      · rename_i hlim
        cases h2'
        obtain ⟨vs, hH, tv⟩ := id ow
        refine ⟨.ref l, hl, .inl ⟨rfl, vs, .of hH⟩, as, G, ρ, D, [.int j, v], _, S.w, S.r, ev2 e0 e1, fun ws G1 H1 st1 w1 t1 => ?_⟩
        have S1 := S.adv st1 w1
        cases t1 with
        | cons t1 t2 =>
          cases t1
          cases t2 with
          | cons t2 t3 =>
            cases t3
            obtain ⟨vs2, hH2, tv2⟩ := S1.pl i _ l h1 hl
            have hL : LIM = 1000000 := rfl
            refine ⟨l, vs2, j, _, rfl, rfl, hH2, by rw [tv2.len, sizeLine_eq]; omega, hlim.1, by omega, ?_⟩
            refine f as σ G1 _ (.same st1.le) (S1.mutO h1 hl ⟨_, upd_same, ?_⟩)
            rw [List.append_assoc]
            exact (tv2.take _).app (.cons t2 (tv2.drop _))
      · cases h2'
    | _ => cases h2
  | _ => cases h2
theorem ints_tr {as : List Addr} {K : PySem.W.Frag} {G : Hp} {vs : List V} {xs : List PV} {ns : List Int} (t : TrS as K G vs xs) (h : mapO intOf xs = some ns) : vs = ns.map V.int := by
  have := mapO_ints h
  subst this
  exact t.toInts
theorem erase_first {ns : List Int} {n : Int} (h : n ∈ ns) : ∃ j, ns[j]? = some n ∧ (∀ m : Nat, m < j → ns[m]? ≠ some n) ∧ ns.eraseIdx j = ns.erase n := by
  induction ns with
  | nil => cases h
  | cons a r ih =>
    by_cases e : a = n
    · subst e
      exact ⟨0, rfl, fun m hm => absurd hm (Nat.not_lt_zero m), by simp⟩
    · rcases List.mem_cons.mp h with z | z
      · exact absurd z.symm e
      · obtain ⟨j, h1, h2, h3⟩ := ih z
        refine ⟨j + 1, by simpa using h1, fun m hm => ?_, ?_⟩
        · cases m with
          | zero => simpa using e
          | succ m => simpa using h2 m (by omega)
        · rw [List.eraseIdx_cons_succ, h3, List.erase_cons_tail (by simpa using e)]
/-- xs.remove(e), ints -/
theorem s_rem (g : Gd T Φ N sc X) (hi : N[i]? = some x) (hv : Vis sc x) (he : PV_ Φ X e c)
    (hbase : attributeBase (.Name x np) "remove" X.env (eval (.Name x np) X.env) = eval (.Name x np) X.env := by rfl)
    (hfew : ((backTo cpos (starEach [e] X.env)).all (fun x => !x.1) && (backToKw cpos (keywordEach [] X.env)).all (fun x => x.1.isSome) && decide (([e] : List Expr).length + ([] : List Keyword).length + (if ([] : List Keyword).isEmpty then 0 else 1) < 30)) = true := by rfl)
    (hline : (apos.endLine == cpos.line) = true := by rfl) (hs : starEach [e] X.env = (false, eval e X.env) :: starEach [] X.env := by rfl) (hplain : (backTo cpos (starEach [] X.env)).any (·.1) = false := by rfl)
    (hsw : swapsWith (.Call (.Attribute (.Name x np) "remove" apos) [e] [] cpos) none pos.line X.env = pure false := by rfl)
    (hd : (x == ("__debug__" : Str)) = false := by decide) (hcd : (x == ("__classdict__" : Str)) = false := by decide) : PS_ Φ X (.Expr (.Call (.Attribute (.Name x np) "remove" apos) [e] [] cpos) pos) (.rem i c) := by
  have hA : PA_ Φ X [e] (.cons c .nil) := a_cons he a_nil hs
  refine ps_imp (ps_expr (pe_bm PySem.F.plainAttrs_list PySem.F.slot_list_remove PySem.F.type_list_remove mt_remove (pv_slot g hi hv hd hcd) hA hbase hfew hline hs hplain) hsw) fun E σ H ⟨as0, G0, H0, as, G, ρ, D, o, ρ', D', S, ee, f⟩ => ?_
  obtain ⟨⟨v, D1⟩, e1, ee⟩ := Option.bind_eq_some_iff.mp (show (ev Φ c ρ D).bind (fun r => (chgO (pRem r.1) i ρ r.2).map fun z => (Out.nx, z.1, z.2)) = some (o, ρ', D') from ee)
  obtain ⟨⟨ρ2, D2⟩, e2, ee⟩ := Option.map_eq_some_iff.mp ee
  cases ee
  obtain ⟨y, z, h1, h2, rfl, rfl⟩ := chgO_some e2
  obtain ⟨l, hl, ow⟩ := own_at S h1
  cases y with
  | lst xs =>
    cases v with
    | int n =>
      obtain ⟨ns, h3, h4⟩ := Option.bind_eq_some_iff.mp (show (mapO intOf xs).bind (fun ns => if n ∈ ns then some (PV.lst ((ns.erase n).map .int)) else none) = some z from h2)
      split at h4
      · rename_i hmem
        cases h4
        obtain ⟨vs, hH, tv⟩ := id ow
        refine ⟨.ref l, hl, .inl ⟨rfl, vs, .of hH⟩, as, G, ρ, D, _, _, S.w, S.r, ev1 e1, fun ws G1 H1 st1 w1 t1 => ?_⟩
        have S1 := S.adv st1 w1
        cases t1 with
        | cons t1 t2 =>
          cases t2
          cases t1
          obtain ⟨vs2, hH2, tv2⟩ := S1.pl i _ l h1 hl
          have := ints_tr tv2 h3
          subst this
          obtain ⟨j, q1, q2, q3⟩ := erase_first hmem
          refine ⟨l, ns, n, j, rfl, rfl, hH2, q1, q2, ?_⟩
          rw [q3]
          exact f as σ G1 _ (.same st1.le) (S1.mutO h1 hl ⟨_, upd_same, TrS.ints _⟩)
      · cases h4
    | _ => cases h2
  | _ => cases h2
/-- target = xs.pop(), target = xs.pop(0) -/
theorem dropLast_tr {as : List Addr} {K : PySem.W.Frag} {G : Hp} {vs : List V} {xs : List PV} (t : TrS as K G vs xs) : TrS as K G vs.dropLast xs.dropLast := by
  rw [List.dropLast_eq_take, List.dropLast_eq_take, t.len]
  exact t.take _
theorem s_pop {pt : Pat} (g : Gd T Φ N sc X) (hi : N[i]? = some x) (hv : Vis sc x) (hp : PP_ X tg pt)
    (hbase : attributeBase (.Name x np) "pop" X.env (eval (.Name x np) X.env) = eval (.Name x np) X.env := by rfl) (hline : (apos.endLine == cpos.line) = true := by rfl)
    (hs : swapsWithSole [tg] (.Call (.Attribute (.Name x np) "pop" apos) [] [] cpos) pos.line X.env = pure false := by rfl) (hw : swappedStores [tg] (.Call (.Attribute (.Name x np) "pop" apos) [] [] cpos) X.env = pure none := by rfl)
    (h1 : (assignEach [tg] X.env).map (·.2) = [assign tg X.env] := by rfl)
    (hd : (x == ("__debug__" : Str)) = false := by decide) (hcd : (x == ("__classdict__" : Str)) = false := by decide) : PS_ Φ X (.Assign [tg] (.Call (.Attribute (.Name x np) "pop" apos) [] [] cpos) pos) (.pop pt i) := by
  refine ps_imp (ps_asg (pe_bm0 PySem.F.plainAttrs_list PySem.F.slot_list_pop PySem.F.type_list_pop mt_pop (pv_slot g hi hv hd hcd) hbase hline) hp hs hw h1) fun E σ H ⟨as0, G0, H0, as, G, ρ, D, o, ρ', D', S, ee, f⟩ => ?_
  have ee : (match ρ[i]? with
    | some (some (true, .lst xs)) => (xs.getLast?).bind fun y => (bindP pt y (ρ.set i (some (true, .lst xs.dropLast)))).map fun ρ1 => (Out.nx, ρ1, D)
    | _ => none) = some (o, ρ', D') := ee
  split at ee
  · rename_i xs h1
    obtain ⟨y, h2, ee⟩ := Option.bind_eq_some_iff.mp ee
    obtain ⟨ρ1, h3, ee⟩ := Option.map_eq_some_iff.mp ee
    cases ee
    obtain ⟨l, hl, vs, hH, tv⟩ := own_at S h1
    have h4 : xs[xs.length - 1]? = some y := by rw [← List.getLast?_eq_getElem?]; exact h2
    obtain ⟨v, h5, t5⟩ := tv.get h4
    refine ⟨.ref l, hl, .inl ⟨rfl, vs, .of hH⟩, l, vs, v, rfl, rfl, hH, by rw [tv.len]; exact h5, ?_⟩
    have S1 := S.mutO (y := .lst xs.dropLast) (o := .lst vs.dropLast) h1 hl ⟨_, upd_same, dropLast_tr tv⟩
    exact ⟨as, G, _, _, y, _, S1.w, S1.r, t5, h3, fun σ' r' s' => f as σ' G _ (.refl _ _) (S1.bind h3 r' s')⟩
  · cases ee
theorem s_pop0 {pt : Pat} {j : Nat} {zp : Pos} (g : Gd T Φ N sc X) (hi : N[i]? = some x) (hv : Vis sc x) (hp : PP_ X tg pt)
    (hbase : attributeBase (.Name x np) "pop" X.env (eval (.Name x np) X.env) = eval (.Name x np) X.env := by rfl)
    (hfew : ((backTo cpos (starEach [.Constant (.int 0) j zp] X.env)).all (fun x => !x.1) && (backToKw cpos (keywordEach [] X.env)).all (fun x => x.1.isSome) && decide (([.Constant (.int 0) j zp] : List Expr).length + ([] : List Keyword).length + (if ([] : List Keyword).isEmpty then 0 else 1) < 30)) = true := by rfl)
    (hline : (apos.endLine == cpos.line) = true := by rfl) (hst : starEach [.Constant (.int 0) j zp] X.env = (false, eval (.Constant (.int 0) j zp) X.env) :: starEach [] X.env := by rfl) (hplain : (backTo cpos (starEach [] X.env)).any (·.1) = false := by rfl)
    (hs : swapsWithSole [tg] (.Call (.Attribute (.Name x np) "pop" apos) [.Constant (.int 0) j zp] [] cpos) pos.line X.env = pure false := by rfl) (hw : swappedStores [tg] (.Call (.Attribute (.Name x np) "pop" apos) [.Constant (.int 0) j zp] [] cpos) X.env = pure none := by rfl)
    (h1 : (assignEach [tg] X.env).map (·.2) = [assign tg X.env] := by rfl)
    (hd : (x == ("__debug__" : Str)) = false := by decide) (hcd : (x == ("__classdict__" : Str)) = false := by decide) : PS_ Φ X (.Assign [tg] (.Call (.Attribute (.Name x np) "pop" apos) [.Constant (.int 0) j zp] [] cpos) pos) (.pop0 pt i) := by
  refine ps_imp (ps_asg (pe_bm PySem.F.plainAttrs_list PySem.F.slot_list_pop PySem.F.type_list_pop mt_popAt (pv_slot g hi hv hd hcd) (pa_cons (pe_int (i := 0)) pa_nil hst) hbase hfew hline hst hplain) hp hs hw h1) fun E σ H ⟨as0, G0, H0, as, G, ρ, D, o, ρ', D', S, ee, f⟩ => ?_
  have ee : (match ρ[i]? with
    | some (some (true, .lst (y :: xs))) => (bindP pt y (ρ.set i (some (true, .lst xs)))).map fun ρ1 => (Out.nx, ρ1, D)
    | _ => none) = some (o, ρ', D') := ee
  split at ee
  · rename_i y xs h1
    obtain ⟨ρ1, h3, ee⟩ := Option.map_eq_some_iff.mp ee
    cases ee
    obtain ⟨l, hl, vs, hH, tv⟩ := own_at S h1
    cases tv with
    | cons t0 tv =>
      rename_i v ws
      refine ⟨.ref l, hl, .inl ⟨rfl, _, .of hH⟩, l, v :: ws, 0, 0, v, rfl, rfl, hH, by omega, by omega, ?_, rfl, ?_⟩
      · unfold seqIndex?
        simp
      · have S1 := S.mutO (y := .lst xs) (o := .lst ws) h1 hl ⟨_, upd_same, tv⟩
        exact ⟨as, G, _, _, y, _, S1.w, S1.r, t0, h3, fun σ' r' s' => f as σ' G _ (.refl _ _) (S1.bind h3 r' s')⟩
  · cases ee
end
/-- a target pattern = value -/
theorem s_asgP {pt : Pat} (he : PV_ Φ X e c) (hp : PP_ X tg pt) (hs : swapsWithSole [tg] e pos.line X.env = pure false := by rfl) (hw : swappedStores [tg] e X.env = pure none := by rfl)
    (h1 : (assignEach [tg] X.env).map (·.2) = [assign tg X.env] := by rfl) : PS_ Φ X (.Assign [tg] e pos) (.asgP pt c) := ps_imp (ps_asg he hp hs hw h1) fun E σ H ⟨as0, G0, H0, as, G, ρ, D, o, ρ', D', S, ee, f⟩ => by
  obtain ⟨⟨x, D1⟩, e1, ee⟩ := Option.bind_eq_some_iff.mp ee
  obtain ⟨ρ1, e2, ee⟩ := Option.map_eq_some_iff.mp ee
  cases ee
  refine ⟨as, G, ρ, D, x, D1, S.w, S.r, e1, fun v G1 H1 st1 w1 t1 => ?_⟩
  have S1 := S.adv st1 w1
  exact ⟨as, G1, D1, ρ, x, _, w1, S1.r, t1, e2, fun σ' r' s' => f as σ' G1 H1 (.same st1.le) (S1.bind e2 r' s')⟩
/-- name op= e, ints -/
def opIp : Bo → Operator := boT
def rIp (op : Bo) : TIp := fun x y H Q => ∃ i j z, x = .int i ∧ y = .int j ∧ pIp op (.int i) (.int j) = some (.int z) ∧ Q (.int z) H
theorem ip_M (op : Bo) : PIp X (boT op) (rIp op) := by
  intro pins s σ H x y v u Q I rx ry ⟨i, j, z, ex, ey, e, q⟩
  cases op <;> first | (cases e; done) | skip
  · cases e
    exact ip_add pins s σ H x y v u Q I rx ry ⟨i, j, ex, ey, q⟩
  · cases e
    exact ip_sub pins s σ H x y v u Q I rx ry ⟨i, j, ex, ey, q⟩
theorem pIp_ints {op : Bo} {x y z : PV} (h : pIp op x y = some z) : ∃ i j k, x = .int i ∧ y = .int j ∧ z = .int k := by
  unfold pIp at h
  split at h
  · cases h; exact ⟨_, _, _, rfl, rfl, rfl⟩
  · cases h; exact ⟨_, _, _, rfl, rfl, rfl⟩
  · cases h
theorem s_aug {i : Nat} {x : Str} {op : Bo} {o : Operator} {pos' : Pos} (g : Gd T Φ N sc X) (hi : N[i]? = some x) (hx : Loc sc x) (he : PV_ Φ X e c) (ho : o = boT op := by rfl)
    (hf : X.fn x = true ∨ sc.names.lookup x = some .local := by first | exact .inl rfl | exact .inr rfl | assumption) : PS_ Φ X (.AugAssign (.Name x pos') o e pos) (.aug i op c) := by
  subst ho
  refine ps_imp (ps_aug (i := i) (by rw [g.n]; exact g.nd) (by rw [g.n]; exact hi) (by rw [g.sc]; exact hx) he (ip_M op) (by rw [g.sc]; exact hf)) fun E σ H ⟨as0, G0, H0, as, G, ρ, D, o, ρ', D', S, ee, f⟩ => ?_
  obtain ⟨y, e1, ee⟩ := Option.bind_eq_some_iff.mp (show (getS ρ i).bind (fun x => (ev Φ c ρ D).bind fun r => (pIp op x r.1).map fun z => (Out.nx, ρ.set i (some (false, z)), r.2)) = some (o, ρ', D') from ee)
  obtain ⟨⟨w, D1⟩, e2, ee⟩ := Option.bind_eq_some_iff.mp ee
  obtain ⟨z, e3, ee⟩ := Option.map_eq_some_iff.mp ee
  cases ee
  obtain ⟨a, b, k, rfl, ew, rfl⟩ := pIp_ints e3
  have ew : w = .int b := ew
  subst ew
  unfold getS at e1
  split at e1
  · rename_i z' hz
    cases e1
    obtain ⟨v, e5, t⟩ := S.r.frz i _ hz
    cases t
    refine ⟨_, e5, as, G, ρ, D, _, _, S.w, S.r, e2, fun v G1 H1 st1 w1 t1 => ?_⟩
    cases t1
    exact ⟨a, b, k, rfl, rfl, e3, f as _ G1 H1 (.same st1.le) ((S.adv st1 w1).put i (.int k))⟩
  · cases e1
/-- an item stored -/
theorem set_M (hu : X.A.units + 1 < cLine) : PSet X (fun o i v H Q => rSetL o i v H Q ∨ rSetD o i v H Q) := by
  intro pins s σ H o i v ov iv u Q I ro ri rv h
  rcases h with h | h
  · exact set_list pins s σ H o i v ov iv u Q I ro ri rv h
  · exact set_dict hu pins s σ H o i v ov iv u Q I ro ri rv h
/-- the store, by trees: at the address a stands y, y with the item is z -/
theorem put_ok {as : List Addr} {K : PySem.W.Frag} {G H : Hp} {D : DS} (w : Wd as K G H D) {a : Addr} {y kx vx z : PV} {kv v : V} (ow : OwnO as K G H a y) (tk : Tr as K G kv kx) (tv : Tr as K G v vx) (h : pSet y kx vx = some z) :
    ∃ o, OwnO as K G (upd H a o) a z ∧ ∀ Q : Hp → Prop, Q (upd H a o) → (rSetL (.ref a) kv v H Q ∨ rSetD (.ref a) kv v H Q) := by
  have hL : LIM = 1000000 := rfl
  cases y with
  | lst xs =>
    cases kx with
    | int n =>
      obtain ⟨j, h1, h2⟩ := Option.map_eq_some_iff.mp (show (MP.ixN xs.length n).map (fun j => PV.lst (xs.set j vx)) = some z from h)
      subst h2
      cases tk
      obtain ⟨vs, hH, ts⟩ := ow
      refine ⟨.lst (vs.set j v), ⟨_, upd_same, ts.set j tv⟩, fun Q q => .inl ⟨a, vs, n, j, rfl, rfl, hH, by rw [ts.len]; exact h1, q⟩⟩
    | _ => cases h
  | dct t kvs =>
    have h' : (if (isKey t kx && decide (kvs.length < LIM)) = true then some (PV.dct t (dPut kx vx kvs)) else none) = some z := h
    split at h'
    · rename_i hk
      rw [Bool.and_eq_true, decide_eq_true_eq] at hk
      cases h'
      rcases ow with ⟨rfl, ks, hH, ts⟩ | ⟨rfl, ks, hH, ts⟩
      · obtain ⟨kk, rfl⟩ := isKey0 hk.1
        have ek := tk.key
        subst ek
        exact ⟨.dK (putK ks kk v), .inl ⟨rfl, _, upd_same, ts.put kk tv⟩, fun Q q => .inr ⟨a, _, rfl, .inl ⟨ks, kk, hH, rfl, by rw [ts.len, sizeLine_eq]; omega, rfl⟩, q⟩⟩
      · obtain ⟨kk, rfl⟩ := isKeyT hk.1
        cases tk with
        | tup hG tt =>
          have ek := tt.keys
          subst ek
          exact ⟨.dT (putK ks kk v), .inr ⟨rfl, _, upd_same, ts.put kk tv⟩, fun Q q => .inr ⟨a, _, rfl, .inr ⟨ks, kk, _, hH, rfl, w.sub _ _ hG, by rw [ts.len, sizeLine_eq]; omega, rfl⟩, q⟩⟩
    · cases h'
  | _ => cases h
theorem chg_ok {as0 as : List Addr} {K : PySem.W.Frag} {G0 H0 G H : Hp} {σ : L2.St} {ρ ρ' : Envi} {D D' : DS} {f : PV → Option PV} {i : Nat} (S : Sti as0 as K G0 H0 G H σ ρ D) (h : chg f i ρ D = some (ρ', D')) (hf : ∀ x, f (.lck x) = none) :
    ∃ a x y, σ[i]? = some (some (.ref a)) ∧ OwnO as K G H a x ∧ f x = some y ∧ ∀ o, OwnO as K G (upd H a o) a y → Sti as0 as K G0 H0 G (upd H a o) σ ρ' D' := by
  unfold chg at h
  split at h
  · rename_i x hx
    obtain ⟨y, h1, h2⟩ := Option.map_eq_some_iff.mp h
    cases h2
    obtain ⟨a, e, ow⟩ := own_at S hx
    exact ⟨a, x, y, e, ow, h1, fun o ow' => S.mutO hx e ow'⟩
  · rename_i j hx
    obtain ⟨x, h0, h1⟩ := Option.bind_eq_some_iff.mp h
    obtain ⟨y, h2, h3⟩ := Option.map_eq_some_iff.mp h1
    cases h3
    obtain ⟨v, e, t⟩ := S.r.frz i _ hx
    cases t with
    | shr ha =>
      have ow := S.w.sh j _ x ha h0
      refine ⟨_, x, y, e, ?_, h2, fun o ow' => S.mutS ha ow'⟩
      cases x with
      | lck z => rw [hf] at h2; cases h2
      | lst xs => exact ow
      | dct t kvs => exact ow
      | _ => exact absurd ow id
  · cases h
theorem pSet_lck (k v x : PV) : pSet (.lck x) k v = none := rfl
/-- xs[k] = e, d[k] = e -/
theorem s_setI {i : Nat} {x : Str} {np pos' : Pos} (g : Gd T Φ N sc X) (hi : N[i]? = some x) (hv : Vis sc x) (he : PV_ Φ X e c) (hk : PV_ Φ X k ck)
    (ha : ∀ v, assign (.Subscript (.Name x np) k pos') X.env v = (do
      let ov ← holding [v] (eval (.Name x np) X.env)
      let iv ← holding [v, ov] (eval k X.env)
      standAt pos'
      holding [v, ov, iv] (setItem ov iv v)
      release [v, ov, iv] []) := by intro _; rfl)
    (hs : swapsWithSole [.Subscript (.Name x np) k pos'] e pos.line X.env = pure false := by rfl) (hw : swappedStores [.Subscript (.Name x np) k pos'] e X.env = pure none := by rfl)
    (h1 : (assignEach [.Subscript (.Name x np) k pos'] X.env).map (·.2) = [assign (.Subscript (.Name x np) k pos') X.env] := by rfl)
    (hd : (x == ("__debug__" : Str)) = false := by decide) (hcd : (x == ("__classdict__" : Str)) = false := by decide) : PS_ Φ X (.Assign [.Subscript (.Name x np) k pos'] e pos) (.setI i ck c) := by
  refine ps_imp (ps_asg he (pg_sub (pv_slot g hi hv hd hcd) hk (set_M (by have := g.un; omega)) ha) hs hw h1) fun E σ H ⟨as0, G0, H0, as, G, ρ, D, o, ρ', D', S, ee, f⟩ => ?_
  obtain ⟨⟨vx, D1⟩, e1, ee⟩ := Option.bind_eq_some_iff.mp (show (ev Φ c ρ D).bind (fun r => (ev Φ ck ρ r.2).bind fun q => (chg (fun y => pSet y q.1 r.1) i ρ q.2).map fun z => (Out.nx, z.1, z.2)) = some (o, ρ', D') from ee)
  obtain ⟨⟨kx, D2⟩, e2, ee⟩ := Option.bind_eq_some_iff.mp ee
  obtain ⟨⟨ρ2, D3⟩, e3, ee⟩ := Option.map_eq_some_iff.mp ee
  cases ee
  refine ⟨as, G, ρ, D, vx, D1, S.w, S.r, e1, fun v G1 H1 st1 w1 t1 => ?_⟩
  have S1 := S.adv st1 w1
  have slot : ∃ a, σ[i]? = some (some (.ref a)) := by
    unfold chg at e3
    split at e3
    · rename_i y hy
      obtain ⟨a, e, _⟩ := S.r.own i y hy
      exact ⟨a, e⟩
    · rename_i j hy
      obtain ⟨w, e, t⟩ := S.r.frz i _ hy
      cases t
      exact ⟨_, e⟩
    · cases e3
  obtain ⟨a, ea⟩ := slot
  refine ⟨_, ea, as, G1, ρ, D1, kx, D2, w1, S1.r, e2, fun kv G2 H2 st2 w2 t2 => ?_⟩
  have S2 := S1.adv st2 w2
  obtain ⟨a', y, z, ea', ow, hz, fin⟩ := chg_ok S2 e3 (fun x => pSet_lck _ _ x)
  rw [ea] at ea'
  cases ea'
  obtain ⟨o, ow', q⟩ := put_ok w2 ow t2 (t1.up st2.le) hz
  exact q _ (f as σ G2 _ (.same (st1.le.trans st2.le)) (fin o ow'))
/-! ### several targets -/
inductive TrXs (as : List Addr) (K : PySem.W.Frag) (G H : Hp) : List Bool → List V → List PV → List Addr → Prop
  | nil : TrXs as K G H [] [] [] []
  | val {v : V} {x : PV} {os : List Bool} {vs : List V} {xs : List PV} {ps : List Addr} : Tr as K G v x → TrXs as K G H os vs xs ps → TrXs as K G H (false :: os) (v :: vs) (x :: xs) ps
  | own {p : Addr} {x : PV} {os : List Bool} {vs : List V} {xs : List PV} {ps : List Addr} : G p = none → p ∉ as → OwnO as K G H p x → p ∉ ps → TrXs as K G H os vs xs ps → TrXs as K G H (true :: os) (.ref p :: vs) (x :: xs) (p :: ps)
theorem own_up {as : List Addr} {K : PySem.W.Frag} {G H G' H' : Hp} (st : Stp as G H G' H') {p : Addr} {x : PV} (hG : G p = none) (ha : p ∉ as) (ow : OwnO as K G H p x) : G' p = none ∧ OwnO as K G' H' p x := by
  have hs := ow.some
  refine ⟨?_, ?_⟩
  · cases q : G' p with
    | none => rfl
    | some u =>
      rcases st.nw p (by rw [q]; exact fun z => nomatch z) with z | z
      · exact absurd hG z
      · exact absurd z hs
  · cases q : H p with
    | none => exact absurd q hs
    | some u =>
      have := ow.up (G' := G') (H' := H') st.le ((st.kp p u ha q).trans q.symm) []
      simpa using this
theorem TrXs.up {as : List Addr} {K : PySem.W.Frag} {G H G' H' : Hp} (st : Stp as G H G' H') : ∀ {os : List Bool} {vs : List V} {xs : List PV} {ps : List Addr}, TrXs as K G H os vs xs ps → TrXs as K G' H' os vs xs ps
  | _, _, _, _, .nil => .nil
  | _, _, _, _, .val t r => .val (t.up st.le) (TrXs.up st r)
  | _, _, _, _, .own hG ha ow n r => .own (own_up st hG ha ow).1 ha (own_up st hG ha ow).2 n (TrXs.up st r)
theorem TrXs.some {as : List Addr} {K : PySem.W.Frag} {G H : Hp} : ∀ {os : List Bool} {vs : List V} {xs : List PV} {ps : List Addr}, TrXs as K G H os vs xs ps → ∀ p ∈ ps, H p ≠ none
  | _, _, _, _, .nil, _, h => absurd h (by simp)
  | _, _, _, _, .val _ r, p, h => TrXs.some r p h
  | _, _, _, _, .own _ _ ow _ r, p, h => by
    rcases List.mem_cons.mp h with e | h
    · rw [e]; exact ow.some
    · exact TrXs.some r p h
theorem TrXs.len {as : List Addr} {K : PySem.W.Frag} {G H : Hp} : ∀ {os : List Bool} {vs : List V} {xs : List PV} {ps : List Addr}, TrXs as K G H os vs xs ps → vs.length = xs.length
  | _, _, _, _, .nil => rfl
  | _, _, _, _, .val _ r => congrArg Nat.succ (TrXs.len r)
  | _, _, _, _, .own _ _ _ _ r => congrArg Nat.succ (TrXs.len r)
def tX (K : PySem.W.Frag) (Φ : Fns) (os : List Bool) (c : CEs) : TA := fun σ H Q => ∃ as G ρ D xs D', Wd as K G H D ∧ Rp as K G H σ ρ ∧ evs Φ c ρ D = some (xs, D') ∧ ∀ vs ps G' H', Stp as G H G' H' → Wd as K G' H' D' → TrXs as K G' H' os vs xs ps → (∀ p ∈ ps, H p = none) → Q vs H'
abbrev PX_ (Φ : Fns) (X : Cx) (e : List Expr) (os : List Bool) (c : CEs) : Prop := PA X e (tX X.K Φ os c)
theorem x_nil : PX_ Φ X [] [] .nil := pa_imp pa_nil fun σ H Q ⟨as, G, ρ, D, y, D', w, r, ee, f⟩ => by
  cases ee
  exact f [] [] G H (Stp.refl _ _ _) w .nil (fun p h => absurd h (by simp))
theorem x_val {es : List Expr} {os : List Bool} {c : CE} {cs : CEs} (ha : PV_ Φ X e c) (hr : PX_ Φ X es os cs) (hs : starEach (e :: es) X.env = (false, eval e X.env) :: starEach es X.env := by rfl) : PX_ Φ X (e :: es) (false :: os) (.cons c cs) :=
  pa_imp (pa_cons ha hr hs) fun σ H Q ⟨as, G, ρ, D, y, D', w, r, ee, f⟩ => by
    obtain ⟨⟨x, D1⟩, e1, ee⟩ := Option.bind_eq_some_iff.mp ee
    obtain ⟨⟨xs, D2⟩, e2, ee⟩ := Option.map_eq_some_iff.mp ee
    cases ee
    exact ⟨as, G, ρ, D, x, D1, w, r, e1, fun v1 G1 H1 st1 w1 t1 => ⟨as, G1, ρ, D1, xs, _, w1, r.up st1, e2, fun v2 ps G2 H2 st2 w2 t2 hn => f _ ps G2 H2 (st1.trans st2) w2 (.val (t1.up st2.le) t2) fun p hp => none_back st1 (hn p hp)⟩⟩
theorem x_own {es : List Expr} {os : List Bool} {c : CE} {cs : CEs} (ha : PF_ Φ X e c) (hr : PX_ Φ X es os cs) (hs : starEach (e :: es) X.env = (false, eval e X.env) :: starEach es X.env := by rfl) : PX_ Φ X (e :: es) (true :: os) (.cons c cs) :=
  pa_imp (pa_cons ha hr hs) fun σ H Q ⟨as, G, ρ, D, y, D', w, r, ee, f⟩ => by
    obtain ⟨⟨x, D1⟩, e1, ee⟩ := Option.bind_eq_some_iff.mp ee
    obtain ⟨⟨xs, D2⟩, e2, ee⟩ := Option.map_eq_some_iff.mp ee
    cases ee
    refine ⟨as, G, ρ, D, x, D1, w, r, e1, fun p1 G1 H1 st1 w1 hp1 hG1 ow1 => ⟨as, G1, ρ, D1, xs, _, w1, r.up st1, e2, fun v2 ps G2 H2 st2 w2 t2 hn => ?_⟩⟩
    have ha1 : p1 ∉ as := fun m => w.some m hp1
    obtain ⟨g2, o2⟩ := own_up st2 hG1 ha1 ow1
    refine f _ (p1 :: ps) G2 H2 (st1.trans st2) w2 (.own g2 ha1 o2 (fun m => ow1.some (hn p1 m)) t2) fun p hp => ?_
    rcases List.mem_cons.mp hp with e | hp
    · rw [e]; exact hp1
    · exact none_back st1 (hn p hp)
def setN (σ : L2.St) : List Nat → List V → L2.St
  | i :: is, v :: vs => setN (σ.set i (some v)) is vs
  | _, _ => σ
def nms : List Nat → List Tg
  | [] => []
  | i :: r => .nm i :: nms r
theorem Av.set {p : Addr} {σ : L2.St} {ρ : Envi} (av : Av p σ ρ) (i : Nat) {v : V} {o : Bool} {x : PV} (h : o = true → v ≠ .ref p) : Av p (σ.set i (some v)) (ρ.set i (some (o, x))) := fun j y h1 h2 => by
  rcases set_get h1 with ⟨e, e2, hl⟩ | ⟨ne, h1⟩
  · subst e
    cases e2
    rcases set_get h2 with ⟨_, e3, _⟩ | ⟨ne, _⟩
    · cases e3
      exact h rfl rfl
    · exact ne rfl
  · rw [List.getElem?_set_ne ne] at h2
    exact av j y h1 h2
/-- the values stored in their slots -/
theorem Sti.putN {as0 as : List Addr} {K : PySem.W.Frag} {G0 H0 G H : Hp} {D : DS} : ∀ {is : List Nat} {os : List Bool} {vs : List V} {xs : List PV} {ps : List Addr} {σ : L2.St} {ρ ρ' : Envi} {D' : DS}, Sti as0 as K G0 H0 G H σ ρ D → TrXs as K G H os vs xs ps → (∀ p ∈ ps, Av p σ ρ ∧ H0 p = none) →
    storeT Φ (nms is) os xs ρ D = some (ρ', D') → D' = D ∧ Sti as0 as K G0 H0 G H (setN σ is vs) ρ' D
  | [], _, _, _, _, σ, ρ, ρ', D', S, .nil, _, h => by
    have h' : some (ρ, D) = some (ρ', D') := h
    cases h'
    exact ⟨rfl, S⟩
  | [], _, _, _, _, σ, ρ, ρ', D', S, .val _ _, _, h => by cases h
  | [], _, _, _, _, σ, ρ, ρ', D', S, .own _ _ _ _ _, _, h => by cases h
  | _ :: _, _, _, _, _, σ, ρ, ρ', D', S, .nil, _, h => by cases h
  | i :: is, _, _, _, _, σ, ρ, ρ', D', S, .val (v := v) (x := x) (os := os) (xs := xs) t r, ha, h => by
    have h' : storeT Φ (nms is) os xs (ρ.set i (some (false, x))) D = some (ρ', D') := h
    have r2 := Sti.putN (is := is) (σ := σ.set i (some v)) (ρ := ρ.set i (some (false, x))) (S.put i t) r (fun p hp => ⟨(ha p hp).1.set i (o := false) (x := x) (fun z => absurd z (by decide)), (ha p hp).2⟩) h'
    exact r2
  | i :: is, _, _, _, _, σ, ρ, ρ', D', S, .own (p := p) (x := x) (os := os) (xs := xs) hG hm ow n r, ha, h => by
    have h' : storeT Φ (nms is) os xs (ρ.set i (some (true, x))) D = some (ρ', D') := h
    have hp := ha p List.mem_cons_self
    have r2 := Sti.putN (is := is) (σ := σ.set i (some (.ref p))) (ρ := ρ.set i (some (true, x))) (S.putO i hp.2 hG hm ow hp.1) r (fun q hq => ⟨(ha q (List.mem_cons_of_mem _ hq)).1.set i (fun _ z => n (by have e := V.ref.inj z; rw [e]; exact hq)), (ha q (List.mem_cons_of_mem _ hq)).2⟩) h'
    exact r2
theorem par_ok {K : PySem.W.Frag} {is : List Nat} {os : List Bool} {cs : CEs} {E : Ends} {σ : L2.St} {H : Hp} {R : List V → Hp → Prop} (h : sS K Φ (.par (nms is) os cs) E σ H)
    (hR : ∀ as0 as as' G0 H0 G1 H1 ρ xs vs ps D1, Sti as0 as K G0 H0 G1 H1 σ ρ D1 → TrXs as K G1 H1 os vs xs ps → vs.length = cs.len → (∀ p ∈ ps, Av p σ ρ ∧ H0 p = none) → (∀ G2 H2, Le G1 G2 → Sti as0 as K G0 H0 G2 H2 σ ρ D1 → TrXs as K G2 H2 os vs xs ps → E.nx (setN σ is vs) H2) → as' = as → R vs H1) : tX K Φ os cs σ H R := by
  obtain ⟨as0, G0, H0, as, G, ρ, D, o, ρ', D', S, ee, f⟩ := h
  obtain ⟨⟨xs, D1⟩, e1, ee⟩ := Option.bind_eq_some_iff.mp (show (evs Φ cs ρ D).bind (fun r => (storeT Φ (nms is) os r.1 ρ r.2).map fun q => (Out.nx, q.1, q.2)) = some (o, ρ', D') from ee)
  obtain ⟨⟨ρ2, D2⟩, e2, ee⟩ := Option.map_eq_some_iff.mp ee
  cases ee
  refine ⟨as, G, ρ, D, xs, D1, S.w, S.r, e1, fun vs ps G1 H1 st1 w1 t1 hn => ?_⟩
  have S1 := S.adv st1 w1
  have ha : ∀ p ∈ ps, Av p σ ρ ∧ H0 p = none := fun p hp => ⟨S.r.av (hn p hp), S.none0 (hn p hp)⟩
  refine hR as0 as as G0 H0 G1 H1 ρ xs vs ps D1 S1 t1 (by rw [t1.len, evs_len e1]) ha (fun G2 H2 l S2 t2 => ?_) rfl
  obtain ⟨e3, S3⟩ := Sti.putN S2 t2 ha e2
  subst e3
  exact f as _ G2 H2 (.same (st1.le.trans l)) S3
section
variable {i j l : Nat} {x y z : Str} {px py pz pt pt2 : Pos} {kt k2 : Nat} {d : Expr} {cs : CEs} {os : List Bool}
theorem s_par2 (g : Gd T Φ N sc X) (hi : N[i]? = some x) (hj : N[j]? = some y) (hx : sc.names.lookup x = some .local) (hy : sc.names.lookup y = some .local) (ha : PX_ Φ X [a, b] os cs)
    (hw : swappedStores [.Tuple [.Name x px, .Name y py] kt pt] (.Tuple [a, b] k2 pt2) X.env = pure (some [x, y]))
    (hij : i ≠ j := by decide) (hl : cs.len = 2 := by rfl) (hs : swapsWithSole [.Tuple [.Name x px, .Name y py] kt pt] (.Tuple [a, b] k2 pt2) pos.line X.env = pure false := by rfl) :
    PS_ Φ X (.Assign [.Tuple [.Name x px, .Name y py] kt pt] (.Tuple [a, b] k2 pt2) pos) (.par (nms [i, j]) os cs) :=
  ps_imp (ps_par g.calm (by rw [g.n]; exact g.nd) (by rw [g.n]; exact hi) (by rw [g.n]; exact hj) hij (by rw [g.sc]; exact hx) (by rw [g.sc]; exact hy) ha hw hs) fun E σ H h => by
    refine par_ok h fun as0 as as' G0 H0 G1 H1 ρ xs vs ps D1 S t hlen hav fin _ => ?_
    rw [hl] at hlen
    match vs, hlen with
    | [v, w], _ => exact ⟨v, w, rfl, fin G1 H1 (Le.refl _) S t⟩
theorem s_par3 (g : Gd T Φ N sc X) (hi : N[i]? = some x) (hj : N[j]? = some y) (hl' : N[l]? = some z) (hx : sc.names.lookup x = some .local) (hy : sc.names.lookup y = some .local) (hz : sc.names.lookup z = some .local) (ha : PX_ Φ X [a, b, d] os cs)
    (hw : swappedStores [.Tuple [.Name x px, .Name y py, .Name z pz] kt pt] (.Tuple [a, b, d] k2 pt2) X.env = pure (some [x, y, z]))
    (hij : i ≠ j := by decide) (hil : i ≠ l := by decide) (hjl : j ≠ l := by decide) (hl : cs.len = 3 := by rfl) (hs : swapsWithSole [.Tuple [.Name x px, .Name y py, .Name z pz] kt pt] (.Tuple [a, b, d] k2 pt2) pos.line X.env = pure false := by rfl) :
    PS_ Φ X (.Assign [.Tuple [.Name x px, .Name y py, .Name z pz] kt pt] (.Tuple [a, b, d] k2 pt2) pos) (.par (nms [i, j, l]) os cs) :=
  ps_imp (ps_par3 g.calm (by rw [g.n]; exact g.nd) (by rw [g.n]; exact hi) (by rw [g.n]; exact hj) (by rw [g.n]; exact hl') hij hil hjl (by rw [g.sc]; exact hx) (by rw [g.sc]; exact hy) (by rw [g.sc]; exact hz) ha hw hs) fun E σ H h => by
    refine par_ok h fun as0 as as' G0 H0 G1 H1 ρ xs vs ps D1 S t hlen hav fin _ => ?_
    rw [hl] at hlen
    match vs, hlen with
    | [v, w, u], _ => exact ⟨v, w, u, rfl, fin G1 H1 (Le.refl _) S t⟩
/-! the tuple built, then taken apart -/
def gNames : List Nat → TGs
  | [] => gNil
  | i :: r => gCons (gName i) (gNames r)
abbrev PN_ (X : Cx) (es : List Expr) (is : List Nat) : Prop := PGs X es (gNames is)
theorem n_nil : PN_ X [] [] := pgs_nil
theorem n_cons {es : List Expr} {is : List Nat} (g : Gd T Φ N sc X) (hi : N[i]? = some x) (hx : Loc sc x) (h2 : PN_ X es is) (hf : X.fn x = true ∨ sc.names.lookup x = some .local := by first | exact .inl rfl | exact .inr rfl | assumption)
    (hs : (assignEach (.Name x px :: es) X.env).map (·.2) = assign (.Name x px) X.env :: (assignEach es X.env).map (·.2) := by rfl) : PN_ X (.Name x px :: es) (i :: is) :=
  pgs_cons (pg_name (by rw [g.n]; exact g.nd) (by rw [g.n]; exact hi) (by rw [g.sc]; exact hx) (by rw [g.sc]; exact hf)) h2 hs
theorem gNames_ok : ∀ {is : List Nat} {vs : List V} {σ : L2.St} {H : Hp} {Q : L2.St → Hp → Prop}, vs.length = is.length → Q (setN σ is vs) H → gNames is vs σ H Q
  | [], [], σ, H, Q, _, q => ⟨rfl, q⟩
  | [], _ :: _, _, _, _, h, _ => by cases h
  | _ :: _, [], _, _, _, h, _ => by cases h
  | i :: is, v :: vs, σ, H, Q, h, q => ⟨v, vs, rfl, gNames_ok (Nat.succ.inj h) q⟩
theorem s_parN {es ts : List Expr} {is : List Nat} (g : Gd T Φ N sc X) (ht : PN_ X ts is) (ha : PX_ Φ X es os cs)
    (hlen : cs.len = is.length := by rfl) (hlim : cs.len ≤ LIM := by decide) (hn : (assignEach ts X.env).length = is.length := by rfl) (hst : (assignEach ts X.env).findIdx? (·.1) = none := by rfl)
    (hs : swapsWithSole [.Tuple ts kt pt] (.Tuple es k2 pt2) pos.line X.env = pure false := by rfl) (hw : swappedStores [.Tuple ts kt pt] (.Tuple es k2 pt2) X.env = pure none := by rfl)
    (h1 : (assignEach [.Tuple ts kt pt] X.env).map (·.2) = [assign (.Tuple ts kt pt) X.env] := by rfl) :
    PS_ Φ X (.Assign [.Tuple ts kt pt] (.Tuple es k2 pt2) pos) (.par (nms is) os cs) :=
  ps_imp (ps_asg (pe_tup ha) (pg_tup (n := is.length) g.calm ht hn hst) hs hw h1) fun E σ H h => by
    refine par_ok h fun as0 as as' G0 H0 G1 H1 ρ xs vs ps D1 S t hl2 hav fin _ => ?_
    refine ⟨by rw [hl2]; exact line_lim hlim, fun p hp => ?_⟩
    have st2 : Stp as G1 H1 G1 (upd H1 p (.tup vs)) := Stp.own hp
    refine ⟨p, vs, rfl, .of upd_same, by rw [hl2, hlen], gNames_ok (by rw [hl2, hlen]) (fin G1 _ (Le.refl _) (S.adv st2 (S.w.ownp hp)) (t.up st2))⟩
end
/-! ### name = [..] on one line -/
section
variable {i : Nat} {y : Str} {py spos : Pos} {elt iter : Expr} {ifs : List Expr} {scope : Scope} {own : List (Str × Nat)} {ce : CE} {pt : Pat} {ci : CI} {ct : CEs}
theorem s_lc1 (g : Gd T Φ N sc X) (hi0 : N[i]? = some y) (hyl : sc.names.lookup y = some .local)
    (hb : blkC N sc scope own = true) (hi : PJ_ Φ X tg iter ci) (hsl : ∀ i ∈ pt.slots, i ∈ own.map (·.2))
    (hp : ∀ (s : Shared) (H : Hp) (C : Addr) (cl : List (Str × Addr)) (fp : List Addr), PP_ (X.blk s H scope (compEnvC scope cl C X.env) fp) tg pt)
    (ht : ∀ (s : Shared) (H : Hp) (C : Addr) (cl : List (Str × Addr)) (fp : List Addr), PTs_ Φ (X.blk s H scope (compEnvC scope cl C X.env) fp) ifs ct)
    (he : ∀ (s : Shared) (H : Hp) (C : Addr) (cl : List (Str × Addr)) (fp : List Addr), PV_ Φ (X.blk s H scope (compEnvC scope cl C X.env) fp) elt ce)
    (hk : X.env.scope.kind = .function) (hl : (py.line == pos.line) = true := by rfl)
    (hna : (scope.names.any fun (n, k) => n == y && (k == .local || k == .cell)) = false := by decide +kernel) (hs : ∀ x, foldedSetIterable iter X.env x = pure x := by intro _; rfl) :
    PS X (.Assign [.Name y py] (.ListComp elt [⟨tg, iter, ifs, 0⟩] scope pos) spos) (tAsg (tF X.K Φ (.lc1 (own.map (·.2)) ce pt ci ct)) (gName i)) := by
  refine ps_imp (ps_setLc (i := i) (wi := tJ X.K Φ ci) (g := tP X.K pt) (tt := tTs X.K Φ ct) (te := tE X.K Φ ce) g.calm (by rw [g.n]; exact g.nd) (by rw [g.n]; exact hi0) (by rw [g.sc]; exact hyl)
    (sw_true hk (by rw [g.sc]; exact hyl) hl hna) hi (by rw [g.n, g.sc]; exact blkOk_by hb) hp ht he hs) fun E σ H h => lc1_imp hsl h
theorem s_lc2 {tg2 iter2 : Expr} {ifs2 : List Expr} {pt2 : Pat} {ci2 : CI} {ct2 : CEs} {own2 : List Nat} (g : Gd T Φ N sc X) (hi0 : N[i]? = some y) (hyl : sc.names.lookup y = some .local)
    (hb : blkC N sc scope own = true) (hi : PJ_ Φ X tg iter ci) (hsl : ∀ i ∈ pt.slots, i ∈ own.map (·.2)) (hsl2 : ∀ i ∈ pt2.slots, i ∈ own2) (ho2 : ∀ i ∈ own2, i ∈ own.map (·.2))
    (hp : ∀ (s : Shared) (H : Hp) (C : Addr) (cl : List (Str × Addr)) (fp : List Addr), PP_ (X.blk s H scope (compEnvC scope cl C X.env) fp) tg pt)
    (ht : ∀ (s : Shared) (H : Hp) (C : Addr) (cl : List (Str × Addr)) (fp : List Addr), PTs_ Φ (X.blk s H scope (compEnvC scope cl C X.env) fp) ifs ct)
    (hi2 : ∀ (s : Shared) (H : Hp) (C : Addr) (cl : List (Str × Addr)) (fp : List Addr), PI_ Φ (X.blk s H scope (compEnvC scope cl C X.env) fp) tg2 iter2 ci2)
    (hp2 : ∀ (s : Shared) (H : Hp) (C : Addr) (cl : List (Str × Addr)) (fp : List Addr), PP_ (X.blk s H scope (compEnvC scope cl C X.env) fp) tg2 pt2)
    (ht2 : ∀ (s : Shared) (H : Hp) (C : Addr) (cl : List (Str × Addr)) (fp : List Addr), PTs_ Φ (X.blk s H scope (compEnvC scope cl C X.env) fp) ifs2 ct2)
    (he : ∀ (s : Shared) (H : Hp) (C : Addr) (cl : List (Str × Addr)) (fp : List Addr), PV_ Φ (X.blk s H scope (compEnvC scope cl C X.env) fp) elt ce)
    (hk : X.env.scope.kind = .function) (hl : (py.line == pos.line) = true := by rfl)
    (hna : (scope.names.any fun (n, k) => n == y && (k == .local || k == .cell)) = false := by decide +kernel) (hs : ∀ x, foldedSetIterable iter X.env x = pure x := by intro _; rfl) (hs1 : ∀ env x, foldedSetIterable iter2 env x = pure x := by intro _ _; rfl) :
    PS X (.Assign [.Name y py] (.ListComp elt [⟨tg, iter, ifs, 0⟩, ⟨tg2, iter2, ifs2, 0⟩] scope pos) spos) (tAsg (tF X.K Φ (.lc2 (own.map (·.2)) ce pt ci ct own2 pt2 ci2 ct2)) (gName i)) := by
  refine ps_imp (ps_setLc2 (i := i) (wi := tJ X.K Φ ci) (g := tP X.K pt) (tt := tTs X.K Φ ct) (wi1 := tI X.K Φ ci2) (g1 := tP X.K pt2) (tt1 := tTs X.K Φ ct2) (te := tE X.K Φ ce) (vs1 := own2) g.calm (by rw [g.n]; exact g.nd) (by rw [g.n]; exact hi0) (by rw [g.sc]; exact hyl)
    (sw_true hk (by rw [g.sc]; exact hyl) hl hna) hi (by rw [g.n, g.sc]; exact blkOk_by hb) ho2 hp ht hi2 hp2 ht2 he hs hs1) fun E σ H h => lc2_imp hsl hsl2 h
/-- .. kept by the slot; told at once -/
theorem s_ofF {st : Stmt} {i : Nat} {c : CE} (h : PS X st (tAsg (tF X.K Φ c) (gName i))) : PS_ Φ X st (.asg true i c) := ps_imp h fun _ _ _ h => asg_f h
theorem s_ofS {st : Stmt} {i : Nat} {c : CE} (h : PS X st (tAsg (tF X.K Φ c) (gName i))) : PS_ Φ X st (.asgS i c) := ps_imp h fun _ _ _ h => asg_s h
theorem asg_told {K : PySem.W.Frag} {i : Nat} {c : CE} {E : Ends} {σ : L2.St} {H : Hp} (h : sS K Φ (.asg false i c) E σ H) : tAsg (tF K Φ c) (gName i) E σ H := by
  obtain ⟨as0, G0, H0, as, G, ρ, D, o, ρ', D', S, ee, f⟩ := h
  obtain ⟨⟨x, D1⟩, e1, ee⟩ := Option.map_eq_some_iff.mp (show (ev Φ c ρ D).map (fun r => (Out.nx, ρ.set i (some (false, r.1)), r.2)) = some (o, ρ', D') from ee)
  cases ee
  refine ⟨as, G, ρ, D, x, D1, S.w, S.r, e1, fun p G' H' st w' hp hG ow => ?_⟩
  obtain ⟨G2, l, tw, w2, t⟩ := tell_own w' hG (fun m => S.w.some m hp) ow
  have st2 : Stp as G H G2 H' := ⟨st.le.trans l, fun b hb => by
    rcases tw b hb with z | z
    · exact st.nw b z
    · subst z; exact .inr hp, st.kp, st.sm⟩
  exact f as _ G2 H' (.same st2.le) ((S.adv st2 w2).put i t)
theorem s_ofV {st : Stmt} {i : Nat} {c : CE} (h : PS X st (tAsg (tF X.K Φ c) (gName i))) : PS_ Φ X st (.asg false i c) := ps_imp h fun _ _ _ h => asg_told h
end
end
end MP

/-! MP fn: every def keeps its evaluator's promise. -/
namespace MP
open PySem PySem.Spec PyProof.Rows L2

section
variable {as : List Addr} {K : PySem.W.Frag} {G H : Hp}
theorem noShr_shr {n j : Nat} : noShr n (.shr j) = false := by cases n <;> rfl
theorem noShr_lck {n : Nat} {x : PV} : noShr n (.lck x) = false := by cases n <;> rfl
mutual
theorem Tr.less {more : List Addr} : ∀ {n : Nat} {v : V} {x : PV}, Tr (as ++ more) K G v x → noShr n x = true → Tr as K G v x
  | _, _, _, .non, _ => .non
  | _, _, _, .bl b, _ => .bl b
  | _, _, _, .int i, _ => .int i
  | _, _, _, .str s, _ => .str s
  | 0, _, _, .tup _ _, h => by cases h
  | 0, _, _, .lst _ _, h => by cases h
  | 0, _, _, .dK _ _, h => by cases h
  | 0, _, _, .dT _ _, h => by cases h
  | n + 1, _, _, .tup (xs := xs) g t, h => .tup g (TrS.less t (show xs.all (noShr n) = true from h))
  | n + 1, _, _, .lst (xs := xs) g t, h => .lst g (TrS.less t (show xs.all (noShr n) = true from h))
  | n + 1, _, _, .dK (kvs := kvs) g t, h => .dK g (TrK.less t (show (kvs.all fun p => noShr n p.1 && noShr n p.2) = true from h))
  | n + 1, _, _, .dT (kvs := kvs) g t, h => .dT g (TrT.less t (show (kvs.all fun p => noShr n p.1 && noShr n p.2) = true from h))
  | _, _, _, .shr _, h => by rw [noShr_shr] at h; cases h
  | _, _, _, .scr g, _ => .scr g
theorem TrS.less {more : List Addr} : ∀ {n : Nat} {v : List V} {x : List PV}, TrS (as ++ more) K G v x → x.all (noShr n) = true → TrS as K G v x
  | _, _, _, .nil, _ => .nil
  | n, _, _, .cons h t, s => by
    rw [List.all_cons, Bool.and_eq_true] at s
    exact .cons (Tr.less h s.1) (TrS.less t s.2)
theorem TrK.less {more : List Addr} : ∀ {n : Nat} {v : List (Key × V)} {x : List (PV × PV)}, TrK (as ++ more) K G v x → (x.all fun p => noShr n p.1 && noShr n p.2) = true → TrK as K G v x
  | _, _, _, .nil, _ => .nil
  | n, _, _, .cons h t, s => by
    rw [List.all_cons, Bool.and_eq_true, Bool.and_eq_true] at s
    exact .cons (Tr.less h s.1.2) (TrK.less t s.2)
theorem TrT.less {more : List Addr} : ∀ {n : Nat} {v : List (List Key × V)} {x : List (PV × PV)}, TrT (as ++ more) K G v x → (x.all fun p => noShr n p.1 && noShr n p.2) = true → TrT as K G v x
  | _, _, _, .nil, _ => .nil
  | n, _, _, .cons h t, s => by
    rw [List.all_cons, Bool.and_eq_true, Bool.and_eq_true] at s
    exact .cons (Tr.less h s.1.2) (TrT.less t s.2)
end
theorem OwnS.less {more : List Addr} {a : Addr} {x : PV} (h : OwnS (as ++ more) K G H a x) (hn : noShr DEP x = true) : OwnS as K G H a x := by
  have e : DEP = 19 + 1 := rfl
  rw [e] at hn
  cases x with
  | lck y => rw [noShr_lck] at hn; cases hn
  | lst xs =>
    obtain ⟨vs, h1, h2⟩ := h
    exact ⟨vs, h1, h2.less (show xs.all (noShr 19) = true from hn)⟩
  | dct t kvs =>
    rcases h with ⟨e, ks, h1, h2⟩ | ⟨e, ks, h1, h2⟩
    · exact .inl ⟨e, ks, h1, h2.less (show (kvs.all fun p => noShr 19 p.1 && noShr 19 p.2) = true from hn)⟩
    · exact .inr ⟨e, ks, h1, h2.less (show (kvs.all fun p => noShr 19 p.1 && noShr 19 p.2) = true from hn)⟩
  | _ => exact absurd h id
theorem Wd.less {more : List Addr} {D D0 : DS} (w : Wd (as ++ more) K G H D) (hl : as.length = D0.length) (hn : (D.take D0.length).all (noShr DEP) = true) : Wd as K G H (D.take D0.length) where
  sub := w.sub
  nd := (List.nodup_append.mp w.nd).1
  len := by
    have := w.len
    rw [List.length_append] at this
    rw [List.length_take]
    omega
  off := fun a h => w.off a (List.mem_append_left _ h)
  sh := fun j a x h1 h2 => by
    have hj : j < as.length := (List.getElem?_eq_some_iff.mp h1).1
    have h3 : D[j]? = Option.some x := by
      rw [List.getElem?_take] at h2
      split at h2
      · exact h2
      · cases h2
    exact (w.sh j a x (by rw [List.getElem?_append_left hj]; exact h1) h3).less (List.all_eq_true.mp hn x (List.mem_of_getElem? h2))
end
/-- a def of the text, and its core -/
structure DefOk (T : Tb) (defs : List Def) (K : PySem.W.Frag) (mg : Str → Option Value) (g : Nat) (x : Str) (m : Nat) : Prop where
  ex : ∃ (f : Addr) (fd : FuncData) (ps N : List Str) (qual : Str) (params : Arguments) (body : List Stmt) (scope : Scope) (kws : List (Str × V)) (cs : CSs),
    mg x = some (.ref f) ∧ FunD K x qual params body scope [] kws f fd ∧ Binds K fd ps [] ∧ FnScope N ps scope ∧ ps.length = m ∧ defs[g]? = some ⟨N.length, m, cs⟩ ∧ ∀ (Φ : Fns) (X : Cx), Gd T Φ N scope X → (∀ x, X.fn x = true) → PSs_ Φ X body cs
def Alls (T : Tb) (defs : List Def) (P : Program) (w : World) (K : PySem.W.Frag) (mg : Str → Option Value) (base : Heap) (n : Nat) : Prop :=
  ∀ (g : Nat) (x : Str) (m : Nat), T.fns[g]? = some (x, m) → ∃ (f : Addr) (fd : FuncData) (ps : List Str), mg x = some (.ref f) ∧ PySem.W.keepIn K (.ref f) = true ∧ Binds K fd ps [] ∧ FnOk P w K mg base CX0 n f fd ps (spOf K (sem defs n g) m)
theorem start_get {N : List Str} {vs : List V} {i : Nat} {v : V} (h : vs[i]? = some v) : (L2.start N vs)[i]? = some (some v) := by
  unfold L2.start
  have hl : i < vs.length := (List.getElem?_eq_some_iff.mp h).1
  rw [List.getElem?_append_left (by simpa using hl), List.getElem?_map, h]
  rfl
theorem run_ok {T : Tb} {Φ : Fns} {K : PySem.W.Frag} {N ps : List Str} {cs : CSs} {H : Hp} {Q : VK} {vs : List V} (hN : ps.length ≤ N.length) {as : List Addr} {G : Hp} {D D' : DS} {xs : List PV} {r : PV} (w : Wd as K G H D) (t : TrS as K G vs xs) (hl : vs.length = ps.length)
    (e : (Def.mk N.length ps.length cs).run Φ xs D = some (r, D')) (f : ∀ v G' H', Stp as G H G' H' → Wd as K G' H' D' → Tr as K G' v r → Q v H') : sSs K Φ cs { nx := fun _ H' => Q .non H', rt := Q } (L2.start N vs) H := by
  have hx : xs.length = ps.length := by rw [← t.len]; exact hl
  unfold Def.run at e
  rw [if_pos hx] at e
  obtain ⟨⟨o, ρ', D1⟩, e1, e⟩ := Option.bind_eq_some_iff.mp e
  obtain ⟨x, e2, e⟩ := Option.bind_eq_some_iff.mp e
  have none_own : ∀ {i : Nat} {y : PV}, (xs.map (fun x => some (false, x)) ++ List.replicate (N.length - ps.length) (none : Option (Bool × PV)))[i]? ≠ some (some (true, y)) := fun {i y} h => by
    have hm := List.mem_of_getElem? h
    rcases List.mem_append.mp hm with hm | hm
    · obtain ⟨z, _, e⟩ := List.mem_map.mp hm
      cases e
    · cases (List.mem_replicate.mp hm).2
  refine ⟨as, G, H, as, G, _, D, o, ρ', D1, ⟨⟨[], by simp⟩, fun a h => .inl h, w, ⟨?_, fun i y h => ?_, fun i y h => absurd h none_own, fun i j y z a h _ _ _ => absurd h none_own⟩, fun i y a h _ => absurd h none_own, Stp.refl _ _ _, fun i y a h _ => absurd h none_own⟩, e1, fun as' σ' G' H' n S => ?_⟩
  · unfold L2.start
    simp only [List.length_append, List.length_map, List.length_replicate]
    rw [t.len, hx]
  · have hi : i < xs.length := by
      by_cases hi : i < xs.length
      · exact hi
      · rw [List.getElem?_append_right (by simpa using hi)] at h
        have := List.mem_of_getElem? h
        cases (List.mem_replicate.mp this).2
    rw [List.getElem?_append_left (by simpa using hi), List.getElem?_map] at h
    obtain ⟨z, hz, ez⟩ := Option.map_eq_some_iff.mp h
    cases ez
    obtain ⟨v, hv, tv⟩ := t.get hz
    exact ⟨v, start_get hv, tv⟩
  · obtain ⟨⟨more, em⟩, l⟩ := n
    subst em
    have fin : ∀ v, Tr (as ++ more) K G' v x → Q v H' := fun v tv => by
      have e : (if D1.length = D.length then some (x, D1) else if (noShr DEP x && (D1.take D.length).all (noShr DEP)) = true then some (x, D1.take D.length) else none) = some (r, D') := e
      split at e
      · rename_i hlen
        cases e
        have : more = [] := by
          have h1 := S.w.len
          have h2 := w.len
          rw [List.length_append] at h1
          exact List.length_eq_zero_iff.mp (by omega)
        subst this
        have w' := S.w
        rw [List.append_nil] at w' tv
        exact f v G' H' S.st w' tv
      · split at e
        · rename_i hn
          rw [Bool.and_eq_true] at hn
          cases e
          exact f v G' H' S.st (S.w.less w.len hn.2) (tv.less hn.1)
        · cases e
    cases o with
    | nx =>
      cases e2
      exact fin .non .non
    | rt y =>
      cases e2
      exact fin
    | bk => cases e2
    | ct => cases e2
theorem all_fn {T : Tb} {defs : List Def} {P : Program} {w : World} {K : PySem.W.Frag} {mg : Str → Option Value} {base : Heap}
    (hd : ∀ (g : Nat) (x : Str) (m : Nat), T.fns[g]? = some (x, m) → DefOk T defs K mg g x m) (hfr : ∀ (j : Nat) (x : Str), T.fr[j]? = some x → mg x = none)
    (hcs : ∀ (j : Nat) (x s : Str), T.cs[j]? = some (x, s) → ∃ t, mg x = some (.str s t)) : ∀ n, Alls T defs P w K mg base n
  | 0 => fun g x m h => by
    obtain ⟨f, fd, ps, N, qual, params, body, scope, kws, cs, h1, F, b, S, hm, _, _⟩ := (hd g x m h).ex
    exact ⟨f, fd, ps, h1, F.kp, b, ⟨fun vs H Q E q => by rw [q.1, hm], fun A outer s H args us vs Q E hr e0 hb hv ⟨_, as, G, D, xs, r, D', _, _, z, _⟩ => by cases z⟩⟩
  | n + 1 => fun g x m h => by
    have ih := all_fn hd hfr hcs n (P := P) (w := w) (base := base)
    obtain ⟨f, fd, ps, N, qual, params, body, scope, kws, cs, h1, F, b, S, hm, e, hb⟩ := (hd g x m h).ex
    refine ⟨f, fd, ps, h1, F.kp, b, F.ok S (fun vs H Q E q => by rw [q.1, hm]) fun cdv A outer s H vs Q E hr ⟨hlen, as, G, D, xs, r, D', wd, t, er, fin⟩ => ⟨sSs K (sem defs n) cs, PSs.nox (hb _ _ ?_ fun _ => rfl), ?_⟩⟩
    · exact ⟨rfl, rfl, S.nd, rfl, rfl, by have := hr.un; show (A.deeper _).units + 65 < cLine; omega, fun g' x' m' h' => by
        obtain ⟨f', fd', ps', q1, q2, q3, q4⟩ := ih g' x' m' h'
        exact ⟨n, f', fd', ps', q1, q2, q3, hr, q4⟩, hfr, hcs⟩
    · have er' : (defs[g]?).bind (fun d => d.run (sem defs n) xs D) = some (r, D') := er
      rw [e] at er'
      subst hm
      have hpl : ps.length ≤ N.length := by have := congrArg List.length S.pre; rw [List.length_take] at this; omega
      exact run_ok (T := T) hpl wd t hlen er' fin
end MP

/-! MP me: isinstance, slices, d.get, displays of dicts, stores with an operator. -/
namespace MP
open PySem PySem.Spec PyProof.Rows L2

/-! ### isinstance -/
def tyS : Ty → String
  | .tint => "int" | .tbool => "bool" | .ttup => "tuple" | .tstr => "str" | .tlst => "list" | .tdct => "dict"
def tyN : PV → String
  | .non => "NoneType" | .bl _ => "bool" | .int _ => "int" | .str _ => "str" | .tup _ => "tuple" | .lst _ => "list" | .dct _ _ => "dict" | _ => ""
theorem kit_M {K : PySem.W.Frag} {t : Ty} {x : PV} {b : Bool} (h : pIs t x = some b) : PySem.W.kitOne K (.type (tyN x)) (.type (tyS t)) = some b := by
  cases t <;> cases x <;> first | (cases h; done) | (cases h; exact kit_ty (by dsimp only [tyN, tyS]; decide +kernel))
section
variable {X : Cx}
theorem kit_tr {pins : List (Addr × Obj)} {s : Shared} {σ : L2.St} {H : Hp} {as : List Addr} {G : Hp} {D : DS} {v : V} {u : Value} {x : PV} {t : Ty} {b : Bool} (I : Inv X pins σ H s) (w : Wd as X.K G H D) (r : TrR as X.K G H v x) (ru : RelV v u) (h : pIs t x = some b) :
    ∃ P : Heap → Prop, PySem.W.KitX X.K u (.type (tyN x)) P ∧ P s.heap ∧ u ≠ .builtin "__main__.__loader__#opaque" := by
  cases x with
  | non => have := r.non; subst this; cases (show u = Value.none from ru); exact ⟨_, PySem.W.kitx_none, True.intro, fun z => nomatch z⟩
  | bl y => have := r.bl; subst this; cases (show u = Value.bool y from ru); exact ⟨_, PySem.W.kitx_bool, True.intro, fun z => nomatch z⟩
  | int i => have := r.int; subst this; obtain ⟨t, q⟩ := (show ∃ t, u = Value.int i t from ru); cases q; exact ⟨_, PySem.W.kitx_int, True.intro, fun z => nomatch z⟩
  | str y => have := r.str; subst this; obtain ⟨t, q⟩ := (show ∃ t, u = Value.str y t from ru); cases q; exact ⟨_, PySem.W.kitx_str, True.intro, fun z => nomatch z⟩
  | tup xs =>
    obtain ⟨a, vs, rfl, h1, _, _⟩ := r.tup w
    cases (show u = Value.ref a from ru)
    obtain ⟨_, _, _, o, h1, h2, _⟩ := (show ObjOk X.prog X.w H s.heap a (.tup vs) from I.hok a _ h1)
    exact ⟨_, PySem.W.kitx_tuple, ⟨o, h1, h2⟩, fun z => nomatch z⟩
  | lst xs =>
    obtain ⟨a, vs, rfl, h1, _⟩ := r.lst w
    cases (show u = Value.ref a from ru)
    obtain ⟨_, _, n, _, h1⟩ := (show ObjOk X.prog X.w H s.heap a (.lst vs) from I.hok a _ h1)
    exact ⟨_, PySem.W.kitx_list, ⟨_, h1, rfl⟩, fun z => nomatch z⟩
  | dct n kvs =>
    rcases r.dct w with ⟨_, a, ks, rfl, h1, _⟩ | ⟨_, a, ks, rfl, h1, _⟩
    · cases (show u = Value.ref a from ru)
      obtain ⟨_, _, vs, _, o, es, ep, h1, h2, _⟩ := (show ObjOk X.prog X.w H s.heap a (.dK ks) from h1.ok I.hok)
      exact ⟨_, PySem.W.kitx_dict, ⟨o, h1, h2.1⟩, fun z => nomatch z⟩
    · cases (show u = Value.ref a from ru)
      obtain ⟨_, _, xs, _, o, es, ep, h1, h2, _⟩ := (show ObjOk X.prog X.w H s.heap a (.dT ks) from h1.ok I.hok)
      exact ⟨_, PySem.W.kitx_dict, ⟨o, h1, h2.1⟩, fun z => nomatch z⟩
  | shr j => cases t <;> cases h
  | scr j => cases t <;> cases h
  | lck j => cases t <;> cases h
def rIsiM (K : PySem.W.Frag) (t : Ty) : List V → Hp → VK → Prop := fun vs H Q => ∃ as G D v x b, vs = [v, .ty (tyS t)] ∧ Wd as K G H D ∧ TrR as K G H v x ∧ pIs t x = some b ∧ Q (.bl b) H
theorem call_isiM (t : Ty) : CallR X (.builtin "isinstance") (rIsiM X.K t) := by
  intro pins s σ H xs us Q I r ⟨as, G, D, v, x, b, e, w, tr, hb, q⟩
  subst e
  obtain ⟨u1, u2, rfl, r1, r2⟩ := vals2 r
  cases (show u2 = Value.type (tyS t) from r2)
  obtain ⟨P, Z, p, hx⟩ := kit_tr I w tr r1 hb
  exact PySem.W.kia_one Z I.kIn p (kit_M hb) hx fun tk => ⟨.bl b, H, I.tok tk, rfl, q⟩
end
section
variable {T : Tb} {Φ : Fns} {N : List Str} {sc : Scope} {X : Cx} {e a b tg k : Expr} {pos p p2 : Pos} {c ck ca cb : CE} {j j2 : Nat}
theorem v_isi {t : Ty} {y : Str} (g : Gd T Φ N sc X) (hg : sc.names.lookup ("isinstance" : Str) = some .globalImplicit) (hm : T.fr[j]? = some ("isinstance" : Str)) (hg2 : sc.names.lookup y = some .globalImplicit) (hm2 : T.fr[j2]? = some y) (hv : bootBuiltins y = some (.type (tyS t)))
    (ha : PO_ Φ X a ca) (hn : y ≠ "__name__" := by decide) (hd : (y == ("__debug__" : Str)) = false := by decide)
    (he : starEach [a, .Name y p2] X.env = (false, eval a X.env) :: starEach [.Name y p2] X.env := by rfl) (he2 : starEach [.Name y p2] X.env = (false, eval (.Name y p2) X.env) :: starEach [] X.env := by rfl) (hpl : (backTo pos (starEach [.Name y p2] X.env)).any (·.1) = false := by rfl) :
    PV_ Φ X (.Call (.Name "isinstance" p) [a, .Name y p2] [] pos) (.isi t ca) :=
  pe_imp (pe_callB (call_isiM t) (gl_of g hg) (g.fr j _ hm) boot_isinstance (pa_cons ha (pa_cons (pe_bltn (v := .ty (tyS t)) (gl_of g hg2) (g.fr j2 y hm2) hv rfl hn hd) pa_nil he2) he) (by decide) (by decide) he hpl) fun σ H Q ⟨as, G, ρ, D, y, D', w, r, ee, f⟩ => by
    obtain ⟨⟨x, D1⟩, e1, ee⟩ := Option.bind_eq_some_iff.mp ee
    obtain ⟨z, e2, ee⟩ := Option.map_eq_some_iff.mp ee
    cases ee
    exact ⟨as, G, ρ, D, x, _, w, r, e1, fun v G' H' st w' t1 => ⟨as, G', _, v, x, z, rfl, w', t1.r, e2, f _ G' H' st w' (.bl z)⟩⟩
/-! ### slices -/
def tPt (K : PySem.W.Frag) (Φ : Fns) (c : CEs) : TO := fun σ H Q => ∃ as G ρ D x D', Wd as K G H D ∧ Rp as K G H σ ρ ∧ evo Φ c ρ D = some (x, D') ∧ ∀ G' H', Stp as G H G' H' → Wd as K G' H' D' → Q x H'
abbrev PPt_ (Φ : Fns) (X : Cx) (e : Option Expr) (c : CEs) : Prop := PO X e (tPt X.K Φ c)
theorem po_imp {e : Option Expr} {t u : TO} (h : PO X e t) (i : ∀ σ H Q, u σ H Q → t σ H Q) : PO X e u := ⟨fun pins s σ H Q I q => h.run pins s σ H Q I (i _ _ _ q)⟩
theorem pt_none : PPt_ Φ X none .nil := po_imp po_none fun σ H Q ⟨as, G, ρ, D, y, D', w, r, ee, f⟩ => by
  have ee' : some (none, D) = some (y, D') := ee
  cases ee'
  exact f G H (Stp.refl _ _ _) w
theorem pt_some (h : PV_ Φ X e c) : PPt_ Φ X (some e) (.cons c .nil) := po_imp (po_some h) fun σ H Q ⟨as, G, ρ, D, y, D', w, r, ee, f⟩ => by
  obtain ⟨⟨x, D1⟩, e1, ee⟩ := Option.bind_eq_some_iff.mp (show (ev Φ c ρ D).bind (fun r => (intOf r.1).map fun i => (some i, r.2)) = some (y, D') from ee)
  obtain ⟨i, e2, ee⟩ := Option.map_eq_some_iff.mp ee
  cases ee
  have ex : x = .int i := by
    cases x <;> first | (cases e2; rfl) | cases e2
  subst ex
  refine ⟨as, G, ρ, D, _, _, w, r, e1, fun v G' H' st w' t => ?_⟩
  cases t
  exact ⟨i, rfl, f G' H' st w'⟩
theorem cutN_eq (n d : Nat) (o : Option Int) : cutN n d o = HT.sIx n d o := by
  cases o with
  | none => rfl
  | some i => simp only [cutN, HT.sIx]
theorem cutL_eq (xs : List V) (lo hi : Option Int) : cutL xs lo hi = cutV xs lo hi := by
  unfold cutL cutV
  rw [cutN_eq, cutN_eq]
def rSlM (K : PySem.W.Frag) : V → Option Int → Option Int → Hp → VK → Prop := fun x lo hi H Q => ∃ as G D px z, Wd as K G H D ∧ TrR as K G H x px ∧ pCut px lo hi = some z ∧ Fin_ as K G H D z Q
theorem sl_M : SlR X (rSlM X.K) := by
  intro pins s σ H x v vl vu lo hi sl Q I rx hs pl pu ⟨as, G, D, px, z, w, tx, e, f⟩
  cases px <;> try (cases e; done)
  case lst xs =>
    cases e
    obtain ⟨a, vs, rfl, h1, t1⟩ := tx.lst w
    refine sl_list pins s σ H _ v vl vu lo hi sl Q I rx hs pl pu ⟨a, vs, rfl, .of h1, fun p hp => ?_⟩
    rw [← cutL_eq]
    exact f.new w hp (.lst upd_same ((t1.cut lo hi).up (le_new (w.free hp))))
  case tup xs =>
    cases e
    obtain ⟨a, vs, rfl, h1, g1, t1⟩ := tx.tup w
    refine sl_tupA pins s σ H _ v vl vu lo hi sl Q I rx hs pl pu ⟨a, vs, rfl, .of h1, fun hw => ?_, fun _ p hp => ?_⟩
    · have e : cutL xs lo hi = xs := by
        unfold cutL
        rw [cutN_eq, cutN_eq, ← t1.len, hw.1, hw.2]
        rw [t1.len]
        simp
      rw [e] at f
      exact f.same w (.tup g1 t1)
    · rw [← cutL_eq]
      exact f.new w hp (.tup upd_same ((t1.cut lo hi).up (le_new (w.free hp))))
  case str y =>
    have e' : (if y.length ≤ LIM then some (PV.str ⟨(cutL y.cps.toList lo hi).toArray⟩) else none) = some z := e
    split at e'
    · rename_i hl
      cases e'
      have := tx.str
      subst this
      refine sl_str pins s σ H _ v vl vu lo hi sl Q I rx hs pl pu ⟨y, rfl, line_lim hl, ?_⟩
      have e2 : cutS y lo hi = ⟨(cutL y.cps.toList lo hi).toArray⟩ := by
        unfold cutS cutL
        rw [cutN_eq, cutN_eq]
        simp [Str.length]
      rw [e2]
      exact f.same w (.str _)
    · cases e'
theorem v_cut {lo hi : Option Expr} {cl cu : CEs} (ha : PO_ Φ X a ca) (hl : PPt_ Φ X lo cl) (hu : PPt_ Φ X hi cu) : PV_ Φ X (.Subscript a (.Slice lo hi none p2) pos) (.cut ca cl cu) :=
  pe_imp (pe_slice sl_M ha hl hu) fun σ H Q ⟨as, G, ρ, D, y, D', w, r, ee, f⟩ => by
    obtain ⟨⟨x, D1⟩, e1, ee⟩ := Option.bind_eq_some_iff.mp ee
    obtain ⟨⟨l, D2⟩, e2, ee⟩ := Option.bind_eq_some_iff.mp ee
    obtain ⟨⟨h, D3⟩, e3, ee⟩ := Option.bind_eq_some_iff.mp ee
    obtain ⟨z, e4, ee⟩ := Option.map_eq_some_iff.mp ee
    cases ee
    exact ⟨as, G, ρ, D, x, D1, w, r, e1, fun v1 G1 H1 st1 w1 t1 => ⟨as, G1, ρ, D1, l, D2, w1, r.up st1, e2, fun G2 H2 st2 w2 => ⟨as, G2, ρ, D2, h, _, w2, (r.up st1).up st2, e3, fun G3 H3 st3 w3 =>
      ⟨as, G3, _, x, _, w3, ((t1.up st2).up st3).r, e4, fun v G' H' st w' t => f v G' H' (((st1.trans st2).trans st3).trans st) w' t⟩⟩⟩⟩
/-- xs[::-1] of a list -/
theorem v_rev {q1 q2 q3 : Pos} {kk : Nat} (ha : PO_ Φ X a ca) (hl : True := True.intro) : PV_ Φ X (.Subscript a (.Slice none none (some (.UnaryOp .USub (.Constant (.int 1) kk q1) q2)) q3) pos) (.rev ca) :=
  pe_imp (pe_orT (pe_revL ha) (pe_revT ha)) fun σ H Q ⟨as, G, ρ, D, y, D', w, r, ee, f⟩ => by
    obtain ⟨⟨x, D1⟩, e1, ee⟩ := Option.bind_eq_some_iff.mp ee
    obtain ⟨z, e4, ee⟩ := Option.map_eq_some_iff.mp ee
    cases ee
    cases x with
    | lst xs =>
      cases e4
      refine .inl ⟨as, G, ρ, D, _, _, w, r, e1, fun v1 G1 H1 st1 w1 t1 => ?_⟩
      obtain ⟨l, vs, rfl, h1, t2⟩ := t1.r.lst w1
      exact ⟨l, vs, rfl, .of h1, fun p hp => f _ _ _ (st1.trans (Stp.new hp (w1.free hp))) (w1.new hp) (.lst upd_same (t2.rev.up (le_new (w1.free hp))))⟩
    | tup xs =>
      cases e4
      refine .inr ⟨as, G, ρ, D, _, _, w, r, e1, fun v1 G1 H1 st1 w1 t1 => ?_⟩
      obtain ⟨l, vs, rfl, h1, g1, t2⟩ := t1.r.tup w1
      exact ⟨l, vs, rfl, .of h1, fun p hp => f _ _ _ (st1.trans (Stp.new hp (w1.free hp))) (w1.new hp) (.tup upd_same (t2.rev.up (le_new (w1.free hp))))⟩
    | _ => cases e4
/-! ### d.get -/
theorem isD_of {as : List Addr} {K : PySem.W.Frag} {G H : Hp} {D : DS} (w : Wd as K G H D) {v : V} {t : Nat} {kvs : List (PV × PV)} (h : TrR as K G H v (.dct t kvs)) : ∃ a, v = .ref a ∧ IsD H a := by
  rcases h.dct w with ⟨_, a, ks, rfl, h1, _⟩ | ⟨_, a, ks, rfl, h1, _⟩
  · exact ⟨a, rfl, .inl ⟨ks, h1⟩⟩
  · exact ⟨a, rfl, .inr ⟨ks, h1⟩⟩
theorem Stp.isD {as : List Addr} {K : PySem.W.Frag} {G H G' H' : Hp} {D : DS} : True := True.intro
/-- d.get(k, x): d a tree or a slot's own -/
theorem v_get2 {f : Expr} {cf : CE} {apos cpos : Pos} (g : Gd T Φ N sc X) (ha : PO_ Φ X a ca) (hk : PV_ Φ X k ck) (hf : PV_ Φ X f cf) (m : M2 X a "get" apos k f cpos) : PV_ Φ X (.Call (.Attribute a "get" apos) [k, f] [] cpos) (.met .get2 ca (.cons ck (.cons cf .nil))) :=
  pe_imp (pe_dget2 (by have := g.un; omega) ha hk hf m) fun σ H Q ⟨as, G, ρ, D, y, D', w, r, ee, fin⟩ => by
    obtain ⟨⟨x, D1⟩, e1, ee⟩ := Option.bind_eq_some_iff.mp ee
    obtain ⟨⟨xs, D2⟩, e2, ee⟩ := Option.bind_eq_some_iff.mp ee
    obtain ⟨z, e4, ee⟩ := Option.map_eq_some_iff.mp ee
    cases ee
    obtain ⟨⟨kx, D3⟩, e5, e6⟩ := Option.bind_eq_some_iff.mp (show (ev Φ ck ρ D1).bind (fun r => (evs Φ (.cons cf .nil) ρ r.2).map fun q => (r.1 :: q.1, q.2)) = some (xs, _) from e2)
    obtain ⟨⟨ys, D4⟩, e7, e8⟩ := Option.map_eq_some_iff.mp e6
    cases e8
    obtain ⟨⟨fx, D5⟩, e9, e10⟩ := Option.bind_eq_some_iff.mp (show (ev Φ cf ρ D3).bind (fun r => (evs Φ .nil ρ r.2).map fun q => (r.1 :: q.1, q.2)) = some (ys, _) from e7)
    obtain ⟨⟨zs, D6⟩, e11, e12⟩ := Option.map_eq_some_iff.mp e10
    have e11 : some (([] : List PV), D5) = some (zs, D6) := e11
    cases e11
    cases e12
    cases x with
    | dct t kvs =>
      have e4' : (if isKey t kx then some ((dGet kx kvs).getD fx) else none) = some _ := e4
      split at e4'
      · rename_i hkey
        cases e4'
        refine ⟨as, G, ρ, D, _, D1, w, r, e1, fun v1 G1 H1 st1 w1 t1 => ?_⟩
        obtain ⟨p, rfl, hd⟩ := isD_of w1 t1.r
        refine ⟨p, rfl, hd, as, G1, ρ, D1, kx, D3, w1, r.up st1, e5, fun v2 G2 H2 st2 w2 t2 => ⟨as, G2, ρ, D3, fx, _, w2, (r.up st1).up st2, e9, fun v3 G3 H3 st3 w3 t3 => ?_⟩⟩
        obtain ⟨q, o, eq, g', ho⟩ := dget_of w3 ((t1.up st2).up st3).r (.inl (t2.up st3.le)) hkey
        cases eq
        refine ⟨o, g', ?_⟩
        have st := (st1.trans st2).trans st3
        rcases ho with ⟨h1, h2⟩ | ⟨vv, zz, h1, h2, h3⟩
        · subst h1
          rw [h2] at fin
          exact fin _ G3 H3 st w3 t3
        · subst h1
          rw [h2] at fin
          exact fin _ G3 H3 st w3 h3
      · cases e4'
    | _ => cases e4
end
end MP

/-! set(a list of ints), with the table's order. -/
namespace L2
open PySem PySem.Spec PyProof.Rows
section
variable {P : Program} {w : World} {A : Around} {E : Value → Shared → Prop} {s : Shared}
/-- set(a list of ints), its table known (the tuple's is in the layer) -/
theorem set_of_list {l : Addr} {items : Array Value} (ns : List Int) {Q : Value → Shared → Prop} (hh : A.handled = none) (hl : s.heap.IsList l items) (hit : IntsAre items.toList ns) (hb : ns.length + 1 < scanBound)
    (h : ∀ (h' : Heap) (tk c : Nat), SetR w h' s.heap.objs.size (fun j => decide (j ∈ ns)) c → c ≤ ns.length → (∀ b o, s.heap.get? b = some o → h'.get? b = some o) → Q (.ref s.heap.objs.size) { s with heap := h', toks := tk }) :
    wpAny (model P w) A (call (.type "set") [.ref l]) Q E s := by
  have hisz : items.size = ns.length := by
    have q := IntsAre.length hit
    rw [Array.length_toList] at q
    exact q
  obtain ⟨c, tl, hmro⟩ := F.called_set.mro
  have hmade := F.called_set.made
  have hsub := F.called_set.sub
  refine wpAny_call (codeAny_of_tree ?_)
  show wpAny _ _ (callAny (.type "set") _) _ _ _
  refine wpAny_pure ⟨Code.quiet_builtin _ (by decide +kernel), codeAny_builtin F.entry_type_call ?_⟩
  rw [Around.under_plain (weight_type_call_type "set" [.ref l] []) rfl]
  have h1 := F.called_set.notType
  have h2 := F.called_set.canCreate
  have hct := F.typeCall_set_1 (.ref l)
  repeat (any_goals (first | assumption | wp_step))

  refine codeAny_mono (code_set_led1 (.ref l) (E := E) (Q₁ := fun obj s₁ => obj = .ref s.heap.objs.size ∧ s₁ = { s with heap := s.heap.push { cls := .type "set", dict := none, data := .set #[] 0 (.fresh 0 0 (!w.params.followText "set-order")) } }) ⟨rfl, rfl⟩) fun r s₁ hr => ?_
  cases r with
  | error e => exact hr
  | ok fl =>
    cases fl with
    | ret obj =>
      obtain ⟨rfl, rfl⟩ := hr
      have hS : (s.heap.push { cls := .type "set", dict := none, data := .set #[] 0 (.fresh 0 0 (!w.params.followText "set-order")) }).get? s.heap.objs.size = some { cls := .type "set", dict := none, data := .set #[] 0 (.fresh 0 0 (!w.params.followText "set-order")) } := Heap.get?_push_size _ rfl
      have hT : Shared.TypeIs { s with heap := s.heap.push { cls := .type "set", dict := none, data := .set #[] 0 (.fresh 0 0 (!w.params.followText "set-order")) } } (.ref s.heap.objs.size) "set" := ⟨_, hS, rfl⟩
      have hli := F.called_set.init.lookup
      have hbi := F.called_set.init.bind (.ref s.heap.objs.size)
      repeat (any_goals (first | assumption | wp_step))

      refine codeAny_mono (codeAny_call_builtin (R := wants (fun r s₂ => r = .none ∧ ∃ h' tk c, s₂ = { s with heap := h', toks := tk } ∧ SetR w h' s.heap.objs.size (fun j => decide (j ∈ ns)) c ∧ c ≤ ns.length ∧
          (∀ b o, s.heap.get? b = some o → h'.get? b = some o)) E) F.called_set.init.plain F.entry_set_init (check_set_init_1 hT ?_)) fun r₂ s₂ hr₂ => ?_
      · obtain ⟨ol, hol, hcl, nl, hdl⟩ := hl
        obtain ⟨ocls, odict, odata, oslots⟩ := ol
        simp only at hcl hdl
        subst hcl; subst hdl
        have hol' : (s.heap.push { cls := .type "set", dict := none, data := .set #[] 0 (.fresh 0 0 (!w.params.followText "set-order")) }).get? l = some { cls := .type "list", dict := odict, data := .seq items nl, slots := oslots } := Heap.get?_push_of_some _ hol
        have hsls := F.sub_list_set
        have hslf := F.sub_list_frozenset
        have hne : (Value.type "list" == Value.type "dict") = false := by decide
        have hl1 : (s.heap.push { cls := .type "set", dict := none, data := .set #[] 0 (.fresh 0 0 (!w.params.followText "set-order")) }).IsList l items := ⟨_, hol', rfl, nl, rfl⟩
        unfold Builtin.«set.__init__» noKeywords Builtin.Frozenset.updateFrom
        generalize hPI : pyIter = PI
        wp_walk
        subst hPI

        refine wpAny_pyIter_list hl1 ?_
        refine wpAny_bind (wpAny_runValue ?_)
        have hlS : l < s.heap.objs.size := Heap.lt_size hol
        have hh3 : A.in1.in1.in1.handled = none := by simp [hh]
        have hz1 : (s.heap.push { cls := .type "set", dict := none, data := .set #[] 0 (.fresh 0 0 (!w.params.followText "set-order")) }).objs.size = s.heap.objs.size + 1 := Heap.size_push ..
        have hneI : l ≠ (s.heap.push { cls := .type "set", dict := none, data := .set #[] 0 (.fresh 0 0 (!w.params.followText "set-order")) }).objs.size := by
          rw [Heap.size_push]; exact Nat.ne_of_lt (Nat.lt_succ_of_lt hlS)
        have hSf : s.heap.objs.size ∉ [(s.heap.push { cls := .type "set", dict := none, data := .set #[] 0 (.fresh 0 0 (!w.params.followText "set-order")) }).objs.size, l] := by
          rw [Heap.size_push]; simp only [List.mem_cons, List.mem_singleton, List.not_mem_nil, or_false, not_or]
          exact ⟨Nat.ne_of_lt (Nat.lt_succ_self _), Nat.ne_of_gt hlS⟩
        have hval : ∀ (i : Nat) (v : Value), items[i]? = some v → ∃ k t, ns[i]? = some k ∧ v = .int k t := fun i v hv => by
          have hi : i < ns.length := by rw [← hisz]; exact (Array.getElem?_eq_some_iff.mp hv).1
          obtain ⟨t, e⟩ := PyProof.Rows.IntsAre.int_at hit i v (by rw [Array.getElem?_toList]; exact hv)
          refine ⟨ns[i], t, List.getElem?_eq_getElem hi, ?_⟩
          rw [e, List.getD_eq_getElem?_getD, List.getElem?_eq_getElem hi] <;> rfl
        refine set_update_ints ((Walks.list hh3 _ l hneI items).toS) s.heap.objs.size
          hSf ns hisz hb hval (items.size - 0) 0 _ (by omega) (Nat.zero_le _)
          ⟨⟨_, Heap.get?_push_size _ rfl, rfl, rfl⟩, (hl1.push _)⟩ ?hS0 ?hR
        case hS0 =>
          have hget : ((s.heap.push { cls := .type "set", dict := none, data := .set #[] 0 (.fresh 0 0 (!w.params.followText "set-order")) }).push { cls := .type "list_iterator", data := .fields #[.ref l, .int 0 0] }).get? s.heap.objs.size
              = some { cls := .type "set", dict := none, data := .set #[] 0 (.fresh 0 0 (!w.params.followText "set-order")) } := Heap.get?_push_of_some _ hS
          exact ⟨0, Nat.le_refl 0, setR_new_at hget⟩
        case hR =>
          intro s' c' hm hc' hS'
          obtain ⟨h', g2, d', tk', os'⟩ := s'
          have eg : g2 = s.gens := hm.gens
          have ed : d' = s.drawn := hm.drawn
          have eo : os' = s.os := hm.os
          subst eg; subst ed; subst eo
          show wpAny _ _ _ _ _ _
          refine wpAny_pure ?_
          show wpAny _ _ (ret Value.none) _ _ _
          rw [hisz] at hc'
          refine wpAny_pure ⟨rfl, h', tk', c', rfl, hS', hc', fun b o e => ?_⟩
          have hb0 : b < s.heap.objs.size := Heap.lt_size e
          have hb1 : b ≠ s.heap.objs.size := Nat.ne_of_lt hb0
          have hb2 : b ≠ (s.heap.push { cls := .type "set", dict := none, data := .set #[] 0 (.fresh 0 0 (!w.params.followText "set-order")) }).objs.size := by
            rw [Heap.size_push]; exact Nat.ne_of_lt (Nat.lt_succ_of_lt hb0)
          exact hm.heap b o (by simp only [List.mem_cons, List.mem_singleton, List.not_mem_nil, or_false, not_or]; exact ⟨hb1, hb2⟩) (Heap.get?_push_of_some _ (Heap.get?_push_of_some _ e))

      · cases r₂ with
        | error e => exact hr₂
        | ok fl₂ =>
          cases fl₂ with
          | ret r =>
            obtain ⟨rfl, h', tk, c', rfl, hS', hc', hk'⟩ := hr₂
            repeat (any_goals (first | assumption | wp_step))
            exact h _ _ _ hS' hc' hk'
          | _ => exact hr₂.elim
    | _ => exact hr.elim

end
end L2

/-! MP set: sorted(set(..)) of ints. -/
namespace MP
open PySem PySem.Spec PyProof.Rows L2
theorem sorted_uniq : ∀ {xs ys : List Int}, xs.Pairwise (· < ·) → ys.Pairwise (· < ·) → (∀ k, k ∈ xs ↔ k ∈ ys) → xs = ys
  | [], [], _, _, _ => rfl
  | [], y :: ys, _, _, h => absurd ((h y).mpr List.mem_cons_self) (by simp)
  | x :: xs, [], _, _, h => absurd ((h x).mp List.mem_cons_self) (by simp)
  | x :: xs, y :: ys, hx, hy, h => by
    obtain ⟨x1, x2⟩ := List.pairwise_cons.mp hx
    obtain ⟨y1, y2⟩ := List.pairwise_cons.mp hy
    have e : x = y := by
      rcases List.mem_cons.mp ((h x).mp List.mem_cons_self) with e | m
      · exact e
      · rcases List.mem_cons.mp ((h y).mpr List.mem_cons_self) with e | m2
        · exact e.symm
        · have := y1 x m
          have := x1 y m2
          omega
    subst e
    rw [sorted_uniq x2 y2 fun k => ⟨fun m => by
      rcases List.mem_cons.mp ((h k).mp (List.mem_cons_of_mem _ m)) with e | m2
      · subst e; exact absurd (x1 k m) (Int.lt_irrefl _)
      · exact m2, fun m => by
      rcases List.mem_cons.mp ((h k).mpr (List.mem_cons_of_mem _ m)) with e | m2
      · subst e; exact absurd (y1 k m) (Int.lt_irrefl _)
      · exact m2⟩]
theorem insU_mem {x k : Int} : ∀ {r : List Int}, k ∈ insU x r ↔ k = x ∨ k ∈ r
  | [] => by simp [insU]
  | y :: r => by
    unfold insU
    split
    · simp
    · split
      · rename_i e; subst e; simp
      · rw [List.mem_cons, insU_mem, List.mem_cons]
        constructor
        · rintro (h | h | h)
          · exact .inr (.inl h)
          · exact .inl h
          · exact .inr (.inr h)
        · rintro (h | h | h)
          · exact .inr (.inl h)
          · exact .inl h
          · exact .inr (.inr h)
theorem insU_lt {x : Int} : ∀ {r : List Int}, r.Pairwise (· < ·) → (insU x r).Pairwise (· < ·)
  | [], _ => by simp [insU]
  | y :: r, h => by
    obtain ⟨h1, h2⟩ := List.pairwise_cons.mp h
    unfold insU
    split
    · rename_i hl
      refine List.pairwise_cons.mpr ⟨fun z hz => ?_, h⟩
      rcases List.mem_cons.mp hz with e | hz
      · rw [e]; exact hl
      · have := h1 z hz; omega
    · split
      · exact h
      · rename_i h3 h4
        refine List.pairwise_cons.mpr ⟨fun z hz => ?_, insU_lt h2⟩
        rcases insU_mem.mp hz with e | hz
        · rw [e]; omega
        · exact h1 z hz
theorem sset_mem {k : Int} : ∀ {ns : List Int}, k ∈ sset ns ↔ k ∈ ns
  | [] => by simp [sset]
  | n :: r => by
    show k ∈ insU n (sset r) ↔ _
    rw [insU_mem, sset_mem, List.mem_cons]
theorem sset_lt : ∀ ns : List Int, (sset ns).Pairwise (· < ·)
  | [] => List.Pairwise.nil
  | _ :: r => insU_lt (sset_lt r)
section
variable {T : Tb} {Φ : Fns} {N : List Str} {sc : Scope} {X : Cx} {a : Expr} {pos p p2 q : Pos} {ca : CE} {j j2 : Nat}
/-- the set, then what is done with it -/
theorem set_of {pins : List (Addr × Obj)} {s : Shared} {σ : L2.St} {H : Hp} {as : List Addr} {G : Hp} {D : DS} {v : V} {u : Value} {x : PV} {xs : List PV} {ns : List Int} {E : Value → Shared → Prop} {Q : Value → Shared → Prop} (hc : X.calm = true) (I : Inv X pins σ H s) (w : Wd as X.K G H D) (r : TrR as X.K G H v x) (ru : RelV v u)
    (e1 : seqOf x = some xs) (e2 : mapO intOf xs = some ns) (hb : ns.length ≤ 4000)
    (h : ∀ (h' : Heap) (tk c : Nat), SetR X.w h' s.heap.objs.size (fun j => decide (j ∈ ns)) c → Inv X pins σ H { s with heap := h', toks := tk } → Q (.ref s.heap.objs.size) { s with heap := h', toks := tk }) :
    wpAny (model X.prog X.w) X.A (call (.type "set") [u]) Q E s := by
  obtain ⟨l, vs, rfl, h1, t1⟩ := r.seq w e1
  have := ints_tr t1 e2
  subst this
  cases ru
  rcases h1 with h1 | ⟨h1, _, _⟩
  · obtain ⟨its, rv, pl, hz⟩ := I.list (.of h1)
    exact set_of_list (P := X.prog) ns (I.ok.hd hc) pl.isList (by simpa using rv.ints) (by unfold scanBound; omega) fun h' tk c hS _ hk => h h' tk c hS (I.kept hk)
  · obtain ⟨its, rv, pl, hz⟩ := I.tuple (.of h1)
    exact call_set_tupI (P := X.prog) ns (I.ok.hd hc) pl (by simpa using rv.ints) (by unfold scanBound; omega) fun h' tk c hS _ hk => h h' tk c hS (I.kept hk)
theorem f_sset (g : Gd T Φ N sc X) (hg : sc.names.lookup ("sorted" : Str) = some .globalImplicit) (hm : T.fr[j]? = some ("sorted" : Str)) (hg2 : sc.names.lookup ("set" : Str) = some .globalImplicit) (hm2 : T.fr[j2]? = some ("set" : Str)) (ha : PO_ Φ X a ca)
    (na : starEach [a] X.env = (false, eval a X.env) :: starEach [] X.env := by rfl) : PF_ Φ X (.Call (.Name "sorted" p) [.Call (.Name "set" p2) [a] [] q] [] pos) (.bi .sortedSet (.cons ca .nil)) := by
  refine ⟨fun pins s σ H Q I ⟨as, G, ρ, D, y, D', w, r, ee, f⟩ => ?_⟩
  obtain ⟨⟨ws, D1⟩, e1, ee⟩ := Option.bind_eq_some_iff.mp ee
  obtain ⟨ys, e2, ee⟩ := Option.bind_eq_some_iff.mp ee
  obtain ⟨z, e3, ee⟩ := Option.map_eq_some_iff.mp ee
  cases ee
  obtain ⟨⟨x, D2⟩, e4, e5⟩ := Option.bind_eq_some_iff.mp (show (ev Φ ca ρ D).bind (fun r => (evs Φ .nil ρ r.2).map fun q => (r.1 :: q.1, q.2)) = some (ws, _) from e1)
  obtain ⟨⟨zs, D3⟩, e6, e7⟩ := Option.map_eq_some_iff.mp e5
  have e6 : some (([] : List PV), D2) = some (zs, D3) := e6
  cases e6
  cases e7
  obtain ⟨x', e8, e9⟩ := Option.bind_eq_some_iff.mp (show (opd _ x).bind (fun y => (mapO (opd _) []).bind fun ys => some (y :: ys)) = some ys from e2)
  have e9 : some [x'] = some ys := e9
  cases e9
  obtain ⟨xs, e10, e11⟩ := Option.bind_eq_some_iff.mp (show (seqOf x').bind (fun xs => (mapO intOf xs).bind fun ns => if ns.length ≤ 4000 ∧ (sset ns).length < 64 then some (PV.lst ((sset ns).map .int)) else none) = some y from e3)
  obtain ⟨ns, e12, e13⟩ := Option.bind_eq_some_iff.mp e11
  split at e13
  case isFalse => cases e13
  rename_i hlim
  cases e13
  refine Call_ (ld_blt I (gl_of g hg) (g.fr j _ hm) (show bootBuiltins "sorted" = some (.builtin "sorted") by decide +kernel) ?_)
  refine PyProof.Rows.callWith_builtin1 (PyProof.Rows.args_cons ?_ rfl) rfl rfl
  refine Call_ (ld_blt I (gl_of g hg2) (g.fr j2 _ hm2) PyProof.Rows.boot_set ?_)
  refine PyProof.Rows.callWith_type1 (PyProof.Rows.args_cons (thn (ha.run pins s σ H (fun v H1 => ∃ G1, Stp as G H G1 H1 ∧ Wd as X.K G1 H1 _ ∧ TrO as X.K G1 H1 v x) I ⟨as, G, ρ, D, x, _, w, r, e4, fun v G1 H1 st w1 t => ⟨G1, st, w1, t⟩⟩) fun v s1 ⟨x1, H1, I1, r1, G1, st1, w1, t1⟩ => PyProof.Rows.args_nil ?_) na) na rfl
  refine set_of g.calm I1 w1 (t1.opd w1 e8) r1 e10 e12 hlim.1 fun h' tk c hS I2 => ?_
  refine PyProof.Rows.args_nil ?_
  have hc : c = (sset ns).length := by
    obtain ⟨o, es, ep, t, ho, hex, hd, hg, hnd, hmm, hb, hf, hn, hr, hl⟩ := hS
    have p1 : (es.toList.map keyOf).Perm (sset ns) := by
      refine (List.perm_ext_iff_of_nodup hnd ((sset_lt ns).imp fun {a b} h e => absurd h (by rw [e]; exact Int.lt_irrefl _))).mpr fun k => ?_
      rw [sset_mem, ← hmm k]
      exact decide_eq_true_iff
    have := p1.length_eq
    rw [List.length_map, Array.length_toList] at this
    omega
  refine sorted_set (P := X.prog) hS (I2.ok.hd g.calm) (by omega) fun s' p out c' ns' k gg oo hp hgg hi hs hmm hl => ?_
  have en : ns' = sset ns := sorted_uniq hs (sset_lt ns) fun k => by rw [hmm k, sset_mem]; exact decide_eq_true_iff
  subst en
  have hlen : ((sset ns).map V.int).length ≤ sizeLine := by rw [List.length_map, sizeLine_eq]; omega
  have hn : H1 p = none := I2.hok.fresh hp
  have J : Inv X pins σ (upd H1 p (.lst ((sset ns).map V.int))) { s1 with heap := s'.heap, gens := s'.gens, drawn := s'.drawn, toks := s'.toks } :=
    Inv.call (s := { s1 with heap := h', toks := tk }) (ch := []) I2 (Un.laid k hp hn) (I2.hok.laid k hp ⟨hlen, out.toList, c', vals_of_ints hi, hgg⟩) (by rw [gg]; exact I2.bare) (fun _ z => nomatch z)
  have e : s' = { s1 with heap := s'.heap, gens := s'.gens, drawn := s'.drawn, toks := s'.toks } := by
    cases s'
    cases s1
    cases oo
    rfl
  rw [e]
  exact ⟨.ref p, _, J, rfl, f p G1 _ (st1.trans (Stp.own hn)) (w1.ownp hn) (none_back st1 hn) (w1.free hn) ⟨_, upd_same, TrS.ints _⟩⟩
end
end MP

/-! MP mf: displays of dicts, stores with an operator. -/
namespace MP
open PySem PySem.Spec PyProof.Rows L2

section
variable {T : Tb} {Φ : Fns} {N : List Str} {sc : Scope} {X : Cx} {e a b tg k : Expr} {pos p p2 : Pos} {c ck ca cb : CE} {j j2 : Nat}
/-! ### {k: v, ..} -/
def trsOf (K : PySem.W.Frag) (Φ : Fns) : CPs → List (TE × TE)
  | .nil => []
  | .cons k v r => (tE K Φ k, tE K Φ v) :: trsOf K Φ r
abbrev PD_ (Φ : Fns) (X : Cx) (pos : Pos) (ks : List (Option Expr)) (vs : List Expr) (c : CPs) : Prop := PPs X pos ks vs (trsOf X.K Φ c)
theorem d_nil : PD_ Φ X pos [] [] .nil := pps_nil
theorem d_cons {ks : List (Option Expr)} {vs : List Expr} {cs : CPs} (hk : PV_ Φ X k ck) (hv : PV_ Φ X e c) (hr : PD_ Φ X pos ks vs cs) : PD_ Φ X pos (some k :: ks) (e :: vs) (.cons ck c cs) := pps_cons hk hv hr
def CPs.len : CPs → Nat
  | .nil => 0
  | .cons _ _ r => r.len + 1
theorem pairs_ok {K : PySem.W.Frag} : ∀ {cs : CPs} {as : List Addr} {G H : Hp} {ρ : Envi} {D D' : DS} {kvs : List (PV × PV)} {σ : L2.St} {Q : List (V × V) → Hp → Prop}, Wd as K G H D → Rp as K G H σ ρ → evd Φ cs ρ D = some (kvs, D') → (kvs.all fun p => isKey 0 p.1) = true →
    (∀ (ks : List (Key × V)) (G' H' : Hp), Stp as G H G' H' → Wd as K G' H' D' → TrK as K G' ks kvs → ks.length = cs.len → Q (ks.map fun kv => (kV kv.1, kv.2)) H') → tPairs (trsOf K Φ cs) σ H Q
  | .nil, as, G, H, ρ, D, D', kvs, σ, Q, w, r, e, _, f => by
    have e' : some (([] : List (PV × PV)), D) = some (kvs, D') := e
    cases e'
    exact f [] G H (Stp.refl _ _ _) w .nil rfl
  | .cons ck cv cs, as, G, H, ρ, D, D', kvs, σ, Q, w, r, e, hk, f => by
    obtain ⟨⟨kx, D1⟩, e1, e⟩ := Option.bind_eq_some_iff.mp (show (ev Φ ck ρ D).bind (fun x => (ev Φ cv ρ x.2).bind fun q => (evd Φ cs ρ q.2).map fun z => ((x.1, q.1) :: z.1, z.2)) = some (kvs, D') from e)
    obtain ⟨⟨vx, D2⟩, e2, e⟩ := Option.bind_eq_some_iff.mp e
    obtain ⟨⟨r2, D3⟩, e3, e⟩ := Option.map_eq_some_iff.mp e
    cases e
    rw [List.all_cons, Bool.and_eq_true] at hk
    refine ⟨as, G, ρ, D, kx, D1, w, r, e1, fun kv G1 H1 st1 w1 t1 => ⟨as, G1, ρ, D1, vx, D2, w1, r.up st1, e2, fun v G2 H2 st2 w2 t2 => ?_⟩⟩
    refine pairs_ok w2 ((r.up st1).up st2) e3 hk.2 fun ks G' H' st w' t hl => ?_
    obtain ⟨kk, ek⟩ := isKey0 hk.1
    have ek : kx = kPV kk := ek
    subst ek
    have := t1.key
    subst this
    exact f ((kk, v) :: ks) G' H' ((st1.trans st2).trans st) w' (.cons (t2.up st.le) t) (by rw [List.length_cons, hl]; rfl)
theorem f_dsp {ks : List (Option Expr)} {vs : List Expr} {cs : CPs} (h : PD_ Φ X pos ks vs cs) (hall : ks.all (·.isSome) = true := by rfl) (hl : ks.length = vs.length := by rfl) (h0 : ks ≠ [] := by exact fun z => nomatch z) (h15 : ks.length ≤ 15 := by decide) (hcl : cs.len ≤ 15 := by decide) :
    PF_ Φ X (.Dict ks vs pos) (.dsp 0 cs) :=
  pe_imp (pe_disp h hall hl h0 h15) fun σ H Q ⟨as, G, ρ, D, y, D', w, r, ee, f⟩ => by
    obtain ⟨⟨kvs, D1⟩, e1, ee⟩ := Option.bind_eq_some_iff.mp ee
    split at ee
    case isFalse => cases ee
    rename_i hk
    cases ee
    intro p hp
    have st0 : Stp as G H G (upd H p (.dK [])) := Stp.own hp
    have hna : p ∉ as := w.offp hp
    refine pairs_ok (w.ownp hp) (r.up st0) e1 hk fun ks' G' H' st w' t hl' => ?_
    have hH' : H' p = some (.dK []) := st.kp _ _ hna upd_same
    have hG' : G' p = none := by
      cases q : G' p with
      | none => rfl
      | some o =>
        rcases st.nw p (by rw [q]; exact fun z => nomatch z) with z | z
        · exact absurd (w.free hp) z
        · rw [upd_same] at z; cases z
    refine ⟨hH', ks', rfl, by rw [hl']; exact hcl, ?_⟩
    exact f p G' _ ((st0.trans st).mut hp) (w'.mut hG' hna) hp hG' (.inl ⟨rfl, _, upd_same, TrK.merge .nil t⟩)
theorem f_dnewK : PF_ Φ X (.Dict [] [] pos) (.dsp 0 .nil) :=
  pe_imp pe_dnewK fun σ H Q ⟨as, G, ρ, D, y, D', w, r, ee, f⟩ => by
    cases ee
    exact fun p hp => f p G _ (Stp.own hp) (w.ownp hp) hp (w.free hp) (.inl ⟨rfl, _, upd_same, .nil⟩)
theorem f_dnewT : PF_ Φ X (.Dict [] [] pos) (.dsp 1 .nil) :=
  pe_imp pe_dnewT fun σ H Q ⟨as, G, ρ, D, y, D', w, r, ee, f⟩ => by
    cases ee
    exact fun p hp => f p G _ (Stp.own hp) (w.ownp hp) hp (w.free hp) (.inr ⟨rfl, _, upd_same, .nil⟩)
/-! ### xs[k] op= e -/
def rGetM (K : PySem.W.Frag) : V → V → Hp → VK → Prop := fun x y H Q => ∃ as G D px py z, Wd as K G H D ∧ TrR as K G H x px ∧ isLD px = true ∧ TrR as K G H y py ∧ pIdx px py = some z ∧ ∀ v, Tr as K G v z → Q v H
theorem get_M (hu : X.A.units + 65 < cLine) : PGet X (rGetM X.K) := by
  intro pins s σ H o i ov iv Q I ro ri ⟨as, G, D, px, py, z, w, to, hld, ti, e, q⟩
  cases px with
  | lst xs =>
    cases py with
    | int n =>
      obtain ⟨jj, e1, e2⟩ := Option.bind_eq_some_iff.mp (show (MP.ixN xs.length n).bind (fun j => xs[j]?) = some z from e)
      obtain ⟨p, vs, rfl, h1, t1⟩ := to.lst w
      have := ti.int
      subst this
      cases ro
      obtain ⟨t, rfl⟩ := ri
      obtain ⟨vj, g1, g2⟩ := t1.get e2
      obtain ⟨its, r, pl, hz⟩ := I.list (.of h1)
      have he : atI vs n = some vj := by
        unfold atI
        rw [t1.len, ← ixN_eq, e1]
        exact g1
      obtain ⟨j, q1, q2, q3, q4, q5⟩ := atI_get he
      obtain ⟨w', ew, rw'⟩ := r.get q2
      have hl := r.length
      have hn := line63
      have fin : EP X pins σ Q w' s := ⟨vj, H, I, rw', q vj g2⟩
      by_cases h0 : 0 ≤ n
      · have hj : n.toNat = j := by
          rw [seqIndex_of h0 q5] at q1
          exact Option.some.inj q1
        exact wpAny_getItem_list pl.isList h0 (by omega) (by rw [hj]; simpa using ew) fin
      · have hj : (n + (its.toArray.size : Int)).toNat = j := by
          rw [seqIndex_neg (by omega) q4] at q1
          rw [List.size_toArray, ← hl]
          exact Option.some.inj q1
        exact wpAny_getItem_list_neg pl.isList (by omega) (by rw [List.size_toArray] <;> omega) (by omega) (by rw [hj]; simpa using ew) fin
    | _ => cases e
  | dct t kvs =>
    have e' : (if isKey t py then dGet py kvs else none) = some z := e
    split at e'
    · rename_i hk
      obtain ⟨p, oo, rfl, g, ho⟩ := dget_of w to ti hk
      rcases ho with ⟨h1, h2⟩ | ⟨vv, zz, h1, h2, h3⟩
      · rw [h2] at e'; cases e'
      · rw [h2] at e'
        cases e'
        subst h1
        cases ro
        exact d_getItem (by omega) I g ri fun w' s' I' rw' => ⟨vv, H, I', rw', q vv h3⟩
    · cases e'
  | _ => cases hld
theorem slot_of {as0 as : List Addr} {K : PySem.W.Frag} {G0 H0 G H : Hp} {σ : L2.St} {ρ ρ' : Envi} {D D' D0 : DS} {f : PV → Option PV} {i : Nat} (S : Sti as0 as K G0 H0 G H σ ρ D0) (h : chg f i ρ D = some (ρ', D')) :
    ∃ a x, σ[i]? = some (some (.ref a)) ∧ borS ρ i = some x ∧ TrO as K G H (.ref a) x := by
  unfold chg at h
  split at h
  · rename_i y hy
    obtain ⟨a, e, hG, ha, ow⟩ := S.r.own i y hy
    exact ⟨a, y, e, by unfold borS; rw [hy], .inr ⟨a, rfl, hG, ha, ow⟩⟩
  · rename_i jj hy
    obtain ⟨w, e, t⟩ := S.r.frz i _ hy
    cases t with
    | shr hq => exact ⟨_, _, e, by unfold borS; rw [hy], .inl (.shr hq)⟩
  · cases h
theorem s_augI {i : Nat} {x : Str} {np tpos : Pos} {op : Bo} {o : Operator} (g : Gd T Φ N sc X) (hi : N[i]? = some x) (hv : Vis sc x) (hk : PV_ Φ X k ck) (he : PV_ Φ X e c) (ho : o = boT op := by rfl)
    (ha : ∀ ov iv new, augStore k ov iv new = (do holding [new, ov, iv] (setItem ov iv new); release [new, ov, iv] []; pure .next) := by intros; rfl)
    (hd : (x == ("__debug__" : Str)) = false := by decide) (hcd : (x == ("__classdict__" : Str)) = false := by decide) : PS_ Φ X (.AugAssign (.Subscript (.Name x np) k tpos) o e pos) (.augI i ck op c) := by
  subst ho
  refine ps_imp (ps_augS (pv_slot g hi hv hd hcd) hk (get_M g.un) he (ip_M op) (set_M (by have := g.un; omega)) ha) fun E σ H ⟨as0, G0, H0, as, G, ρ, D, o, ρ', D', S, ee, f⟩ => ?_
  obtain ⟨⟨kx, D1⟩, e1, ee⟩ := Option.bind_eq_some_iff.mp (show (ev Φ ck ρ D).bind (fun q => (borS ρ i).bind fun c' => (opd q.2 c').bind fun o => (if isLD o then pIdx o q.1 else none).bind fun old => (ev Φ c ρ q.2).bind fun r => (pIp op old r.1).bind fun z =>
      (chg (fun y => pSet y q.1 z) i ρ r.2).map fun t => (Out.nx, t.1, t.2)) = some (o, ρ', D') from ee)
  obtain ⟨cx, e2, ee⟩ := Option.bind_eq_some_iff.mp ee
  obtain ⟨ox, e3, ee⟩ := Option.bind_eq_some_iff.mp ee
  obtain ⟨old, e4', ee⟩ := Option.bind_eq_some_iff.mp ee
  obtain ⟨hld, e4⟩ : isLD ox = true ∧ pIdx ox kx = some old := by
    have e : (if isLD ox = true then pIdx ox kx else none) = some old := e4'
    split at e
    · exact ⟨by assumption, e⟩
    · cases e
  obtain ⟨⟨vx, D2⟩, e5, ee⟩ := Option.bind_eq_some_iff.mp ee
  obtain ⟨z, e6, ee⟩ := Option.bind_eq_some_iff.mp ee
  obtain ⟨⟨ρ2, D3⟩, e7, ee⟩ := Option.map_eq_some_iff.mp ee
  cases ee
  obtain ⟨q, cx', ea, eb, tq⟩ := slot_of S e7
  rw [e2] at eb
  cases eb
  obtain ⟨m, n, kk, rfl, rfl', rfl⟩ := pIp_ints e6
  have rfl' : vx = .int n := rfl'
  subst rfl'
  refine ⟨_, ea, as, G, ρ, D, kx, D1, S.w, S.r, e1, fun kv G1 H1 st1 w1 t1 => ?_⟩
  have S1 := S.adv st1 w1
  refine ⟨as, G1, D1, ox, kx, .int m, w1, (tq.up st1).opd w1 e3, hld, .inl t1, e4, fun v0 t0 => ?_⟩
  cases t0
  refine ⟨as, G1, ρ, D1, .int n, D2, w1, S1.r, e5, fun v2 G2 H2 st2 w2 t2 => ?_⟩
  cases t2
  have S2 := S1.adv st2 w2
  refine ⟨m, n, kk, rfl, rfl, e6, ?_⟩
  obtain ⟨a', y, z', ea', ow, hz, fin⟩ := chg_ok S2 e7 (fun x => pSet_lck _ _ x)
  rw [ea] at ea'
  cases ea'
  obtain ⟨o, ow', q⟩ := put_ok w2 ow (t1.up st2.le) (.int kk) hz
  exact q _ (f as σ G2 _ (.same (st1.le.trans st2.le)) (fin o ow'))
end
end MP

/-! MP go: the rules as the printer takes them. -/
namespace MP
open PySem PySem.Spec PyProof.Rows L2

def visB (sc : Scope) (x : Str) : Bool := match sc.names.lookup x with
  | some .local => true
  | some .cell => true
  | some .free => true
  | _ => false
def locB (sc : Scope) (x : Str) : Bool := match sc.names.lookup x with
  | some .local => true
  | some .cell => true
  | _ => false
def isLoc (sc : Scope) (x : Str) : Bool := match sc.names.lookup x with
  | some .local => true
  | _ => false
def isGlo (sc : Scope) (x : Str) : Bool := match sc.names.lookup x with
  | some .globalImplicit => true
  | _ => false
def okN (x : Str) : Bool := !(x == ("__debug__" : Str)) && !(x == ("__classdict__" : Str)) && !decide (x = "__name__")
theorem vis_of {sc : Scope} {x : Str} (h : visB sc x = true) : Vis sc x := by
  unfold visB at h
  split at h
  · exact .inl (by assumption)
  · exact .inr (.inl (by assumption))
  · exact .inr (.inr (by assumption))
  · cases h
theorem loc_of {sc : Scope} {x : Str} (h : locB sc x = true) : Loc sc x := by
  unfold locB at h
  split at h
  · exact .inl (by assumption)
  · exact .inr (by assumption)
  · cases h
theorem isLoc_of {sc : Scope} {x : Str} (h : isLoc sc x = true) : sc.names.lookup x = some .local := by
  unfold isLoc at h
  split at h
  · assumption
  · cases h
theorem isGlo_of {sc : Scope} {x : Str} (h : isGlo sc x = true) : sc.names.lookup x = some .globalImplicit := by
  unfold isGlo at h
  split at h
  · assumption
  · cases h
theorem okN_of {x : Str} (h : okN x = true) : (x == ("__debug__" : Str)) = false ∧ (x == ("__classdict__" : Str)) = false ∧ x ≠ "__name__" := by
  unfold okN at h
  simp only [Bool.and_eq_true, Bool.not_eq_true', decide_eq_false_iff_not] at h
  exact ⟨h.1.1, h.1.2, h.2⟩
def varB (N : List Str) (sc : Scope) (i : Nat) (x : Str) : Bool := decide (N[i]? = some x) && visB sc x && okN x
def stoB (N : List Str) (sc : Scope) (i : Nat) (x : Str) : Bool := decide (N[i]? = some x) && locB sc x
def lstB (N : List Str) (sc : Scope) (i : Nat) (x : Str) : Bool := decide (N[i]? = some x) && isLoc sc x
def gloB (T : Tb) (sc : Scope) (j : Nat) (x : Str) : Bool := decide (T.fr[j]? = some x) && isGlo sc x && okN x
def fnB (T : Tb) (sc : Scope) (j m : Nat) (x : Str) : Bool := decide (T.fns[j]? = some (x, m)) && isGlo sc x && okN x
def cstB (T : Tb) (sc : Scope) (j : Nat) (x s : Str) : Bool := decide (T.cs[j]? = some (x, s)) && isGlo sc x && okN x
section
variable {T : Tb} {Φ : Fns} {N : List Str} {sc : Scope} {X : Cx} {e a b tg k f : Expr} {es : List Expr} {pos p p2 q np : Pos} {c ck ca cb cf : CE} {cs : CEs} {i j j2 : Nat} {x y : Str}
theorem varB_of (h : varB N sc i x = true) : N[i]? = some x ∧ Vis sc x ∧ (x == ("__debug__" : Str)) = false ∧ (x == ("__classdict__" : Str)) = false := by
  unfold varB at h
  simp only [Bool.and_eq_true, decide_eq_true_eq] at h
  exact ⟨h.1.1, vis_of h.1.2, (okN_of h.2).1, (okN_of h.2).2.1⟩
theorem stoB_of (h : stoB N sc i x = true) : N[i]? = some x ∧ Loc sc x := by
  unfold stoB at h
  simp only [Bool.and_eq_true, decide_eq_true_eq] at h
  exact ⟨h.1, loc_of h.2⟩
theorem lstB_of (h : lstB N sc i x = true) : N[i]? = some x ∧ sc.names.lookup x = some .local := by
  unfold lstB at h
  simp only [Bool.and_eq_true, decide_eq_true_eq] at h
  exact ⟨h.1, isLoc_of h.2⟩
theorem gloB_of (h : gloB T sc j x = true) : T.fr[j]? = some x ∧ sc.names.lookup x = some .globalImplicit ∧ (x == ("__debug__" : Str)) = false ∧ x ≠ "__name__" := by
  unfold gloB at h
  simp only [Bool.and_eq_true, decide_eq_true_eq] at h
  exact ⟨h.1.1, isGlo_of h.1.2, (okN_of h.2).1, (okN_of h.2).2.2⟩
theorem fnB_of {m : Nat} (h : fnB T sc j m x = true) : T.fns[j]? = some (x, m) ∧ sc.names.lookup x = some .globalImplicit ∧ (x == ("__debug__" : Str)) = false := by
  unfold fnB at h
  simp only [Bool.and_eq_true, decide_eq_true_eq] at h
  exact ⟨h.1.1, isGlo_of h.1.2, (okN_of h.2).1⟩
theorem cstB_of {s : Str} (h : cstB T sc j x s = true) : T.cs[j]? = some (x, s) ∧ sc.names.lookup x = some .globalImplicit ∧ (x == ("__debug__" : Str)) = false := by
  unfold cstB at h
  simp only [Bool.and_eq_true, decide_eq_true_eq] at h
  exact ⟨h.1.1, isGlo_of h.1.2, (okN_of h.2).1⟩
theorem gv (g : Gd T Φ N sc X) (h : varB N sc i x = true := by decide +kernel) : PV_ Φ X (.Name x pos) (.var i) := let ⟨h1, h2, h3, h4⟩ := varB_of h; v_var g h1 h2 h3 h4
theorem gb (g : Gd T Φ N sc X) (h : varB N sc i x = true := by decide +kernel) : PO_ Φ X (.Name x pos) (.bor i) := let ⟨h1, h2, h3, h4⟩ := varB_of h; o_bor g h1 h2 h3 h4
theorem gc {s : Str} (g : Gd T Φ N sc X) (j : Nat) (h : cstB T sc j x s = true := by decide +kernel) : PV_ Φ X (.Name x pos) (.cst x s) := let ⟨h1, h2, h3⟩ := cstB_of h; v_cst g h1 h2 h3
/-- one operand as a list -/
theorem b1 (ha : PO_ Φ X e c) (hs : starEach [e] X.env = (false, eval e X.env) :: starEach [] X.env := by rfl) : PB_ Φ X [e] (.cons c .nil) := b_cons ha b_nil hs
theorem g_len (g : Gd T Φ N sc X) (j : Nat) (ha : PO_ Φ X e c) (h : gloB T sc j "len" = true := by decide +kernel) (he : starEach [e] X.env = (false, eval e X.env) :: starEach [] X.env := by rfl) : PV_ Φ X (.Call (.Name "len" p) [e] [] pos) (.bi .len (.cons c .nil)) :=
  let ⟨h1, h2, h3, h4⟩ := gloB_of h; v_biB g bi_len h2 h1 (by decide +kernel) (b1 ha he) h4 h3 he rfl
theorem g_abs (g : Gd T Φ N sc X) (j : Nat) (ha : PO_ Φ X e c) (h : gloB T sc j "abs" = true := by decide +kernel) (he : starEach [e] X.env = (false, eval e X.env) :: starEach [] X.env := by rfl) : PV_ Φ X (.Call (.Name "abs" p) [e] [] pos) (.bi .abs (.cons c .nil)) :=
  let ⟨h1, h2, h3, h4⟩ := gloB_of h; v_biB g bi_abs h2 h1 (by decide +kernel) (b1 ha he) h4 h3 he rfl
theorem g_all (g : Gd T Φ N sc X) (j : Nat) (ha : PO_ Φ X e c) (h : gloB T sc j "all" = true := by decide +kernel) (he : starEach [e] X.env = (false, eval e X.env) :: starEach [] X.env := by rfl) : PV_ Φ X (.Call (.Name "all" p) [e] [] pos) (.bi .all (.cons c .nil)) :=
  let ⟨h1, h2, h3, h4⟩ := gloB_of h; v_biB g (bi_all g.calm) h2 h1 (by decide +kernel) (b1 ha he) h4 h3 he rfl
theorem g_any (g : Gd T Φ N sc X) (j : Nat) (ha : PO_ Φ X e c) (h : gloB T sc j "any" = true := by decide +kernel) (he : starEach [e] X.env = (false, eval e X.env) :: starEach [] X.env := by rfl) : PV_ Φ X (.Call (.Name "any" p) [e] [] pos) (.bi .any (.cons c .nil)) :=
  let ⟨h1, h2, h3, h4⟩ := gloB_of h; v_biB g (bi_any g.calm) h2 h1 (by decide +kernel) (b1 ha he) h4 h3 he rfl
theorem g_sum (g : Gd T Φ N sc X) (j : Nat) (ha : PO_ Φ X e c) (h : gloB T sc j "sum" = true := by decide +kernel) (he : starEach [e] X.env = (false, eval e X.env) :: starEach [] X.env := by rfl) : PV_ Φ X (.Call (.Name "sum" p) [e] [] pos) (.bi .sum (.cons c .nil)) :=
  let ⟨h1, h2, h3, h4⟩ := gloB_of h; v_biB g (bi_sum g.calm) h2 h1 (by decide +kernel) (b1 ha he) h4 h3 he rfl
theorem g_min (g : Gd T Φ N sc X) (j : Nat) (ha : PO_ Φ X e c) (h : gloB T sc j "min" = true := by decide +kernel) (he : starEach [e] X.env = (false, eval e X.env) :: starEach [] X.env := by rfl) : PV_ Φ X (.Call (.Name "min" p) [e] [] pos) (.bi .min (.cons c .nil)) :=
  let ⟨h1, h2, h3, h4⟩ := gloB_of h; v_biB g (bi_min g.un g.calm) h2 h1 (by decide +kernel) (b1 ha he) h4 h3 he rfl
theorem g_max (g : Gd T Φ N sc X) (j : Nat) (ha : PO_ Φ X e c) (h : gloB T sc j "max" = true := by decide +kernel) (he : starEach [e] X.env = (false, eval e X.env) :: starEach [] X.env := by rfl) : PV_ Φ X (.Call (.Name "max" p) [e] [] pos) (.bi .max (.cons c .nil)) :=
  let ⟨h1, h2, h3, h4⟩ := gloB_of h; v_biB g (bi_max g.un g.calm) h2 h1 (by decide +kernel) (b1 ha he) h4 h3 he rfl
theorem g_min2 (g : Gd T Φ N sc X) (j : Nat) (ha : PO_ Φ X a ca) (hb : PO_ Φ X b cb) (h : gloB T sc j "min" = true := by decide +kernel) (he : starEach [a, b] X.env = (false, eval a X.env) :: starEach [b] X.env := by rfl) (he2 : starEach [b] X.env = (false, eval b X.env) :: starEach [] X.env := by rfl) (hpl : (backTo pos (starEach [b] X.env)).any (·.1) = false := by rfl) :
    PV_ Φ X (.Call (.Name "min" p) [a, b] [] pos) (.bi .min (.cons ca (.cons cb .nil))) :=
  let ⟨h1, h2, h3, h4⟩ := gloB_of h; v_biB g (bi_min g.un g.calm) h2 h1 (by decide +kernel) (b_cons ha (b1 hb he2) he) h4 h3 he hpl
theorem g_max2 (g : Gd T Φ N sc X) (j : Nat) (ha : PO_ Φ X a ca) (hb : PO_ Φ X b cb) (h : gloB T sc j "max" = true := by decide +kernel) (he : starEach [a, b] X.env = (false, eval a X.env) :: starEach [b] X.env := by rfl) (he2 : starEach [b] X.env = (false, eval b X.env) :: starEach [] X.env := by rfl) (hpl : (backTo pos (starEach [b] X.env)).any (·.1) = false := by rfl) :
    PV_ Φ X (.Call (.Name "max" p) [a, b] [] pos) (.bi .max (.cons ca (.cons cb .nil))) :=
  let ⟨h1, h2, h3, h4⟩ := gloB_of h; v_biB g (bi_max g.un g.calm) h2 h1 (by decide +kernel) (b_cons ha (b1 hb he2) he) h4 h3 he hpl
theorem g_int (g : Gd T Φ N sc X) (j : Nat) (ha : PO_ Φ X e c) (h : gloB T sc j "int" = true := by decide +kernel) (he : starEach [e] X.env = (false, eval e X.env) :: starEach [] X.env := by rfl) : PV_ Φ X (.Call (.Name "int" p) [e] [] pos) (.bi .int (.cons c .nil)) :=
  let ⟨h1, h2, h3, h4⟩ := gloB_of h; v_biT g bi_int h2 h1 (by decide +kernel) (b1 ha he) h4 h3 he rfl
theorem g_tuple (g : Gd T Φ N sc X) (j : Nat) (ha : PO_ Φ X e c) (h : gloB T sc j "tuple" = true := by decide +kernel) (he : starEach [e] X.env = (false, eval e X.env) :: starEach [] X.env := by rfl) : PV_ Φ X (.Call (.Name "tuple" p) [e] [] pos) (.bi .tuple (.cons c .nil)) :=
  let ⟨h1, h2, h3, h4⟩ := gloB_of h; v_biT g bi_tuple h2 h1 (by decide +kernel) (b1 ha he) h4 h3 he rfl
theorem g_list (g : Gd T Φ N sc X) (j : Nat) (ha : PO_ Φ X e c) (h : gloB T sc j "list" = true := by decide +kernel) (he : starEach [e] X.env = (false, eval e X.env) :: starEach [] X.env := by rfl) : PF_ Φ X (.Call (.Name "list" p) [e] [] pos) (.bi .list (.cons c .nil)) :=
  let ⟨h1, h2, h3, h4⟩ := gloB_of h; f_biT g (bi_list g.calm) h2 h1 (by decide +kernel) (b1 ha he) h4 h3 he rfl
theorem g_dict (g : Gd T Φ N sc X) (j : Nat) (ha : PO_ Φ X e c) (h : gloB T sc j "dict" = true := by decide +kernel) (he : starEach [e] X.env = (false, eval e X.env) :: starEach [] X.env := by rfl) : PF_ Φ X (.Call (.Name "dict" p) [e] [] pos) (.bi .dict (.cons c .nil)) :=
  let ⟨h1, h2, h3, h4⟩ := gloB_of h; f_biT g (bi_dict g.calm) h2 h1 (by decide +kernel) (b1 ha he) h4 h3 he rfl
theorem g_sorted (g : Gd T Φ N sc X) (j : Nat) (ha : PO_ Φ X e c) (h : gloB T sc j "sorted" = true := by decide +kernel) (he : starEach [e] X.env = (false, eval e X.env) :: starEach [] X.env := by rfl) : PF_ Φ X (.Call (.Name "sorted" p) [e] [] pos) (.bi .sorted (.cons c .nil)) :=
  let ⟨h1, h2, h3, h4⟩ := gloB_of h; f_biB g (bi_sorted g.un g.calm) h2 h1 (by decide +kernel) (b1 ha he) h4 h3 he rfl
theorem g_sset (g : Gd T Φ N sc X) (j j2 : Nat) (ha : PO_ Φ X a ca) (h : gloB T sc j "sorted" = true := by decide +kernel) (h' : gloB T sc j2 "set" = true := by decide +kernel) (na : starEach [a] X.env = (false, eval a X.env) :: starEach [] X.env := by rfl) :
    PF_ Φ X (.Call (.Name "sorted" p) [.Call (.Name "set" p2) [a] [] q] [] pos) (.bi .sortedSet (.cons ca .nil)) :=
  let ⟨h1, h2, _, _⟩ := gloB_of h; let ⟨k1, k2, _, _⟩ := gloB_of h'; f_sset g h2 h1 k2 k1 ha na
theorem g_isi (t : Ty) (g : Gd T Φ N sc X) (j j2 : Nat) (ha : PO_ Φ X a ca) (hy : y = Str.ofString (tyS t) := by rfl) (h : gloB T sc j "isinstance" = true := by decide +kernel) (h' : gloB T sc j2 y = true := by decide +kernel)
    (he : starEach [a, .Name y p2] X.env = (false, eval a X.env) :: starEach [.Name y p2] X.env := by rfl) : PV_ Φ X (.Call (.Name "isinstance" p) [a, .Name y p2] [] pos) (.isi t ca) := by
  obtain ⟨h1, h2, h3, h4⟩ := gloB_of h
  obtain ⟨k1, k2, k3, k4⟩ := gloB_of h'
  have hv : bootBuiltins y = some (.type (tyS t)) := by
    subst hy
    cases t <;> decide +kernel
  exact v_isi g h2 h1 k2 k1 hv ha k4 k3 he rfl rfl
theorem g_call {m : Nat} (g : Gd T Φ N sc X) (i : Nat) (ha : PA_ Φ X (e :: es) cs) (hl : cs.len = m := by rfl) (h : fnB T sc i m x = true := by decide +kernel)
    (he : starEach (e :: es) X.env = (false, eval e X.env) :: starEach es X.env := by rfl) (hpl : (backTo pos (starEach es X.env)).any (·.1) = false := by rfl) : PV_ Φ X (.Call (.Name x p) (e :: es) [] pos) (.call i cs) :=
  let ⟨h1, h2, h3⟩ := fnB_of h; v_call g h1 h2 ha hl h3 he hpl
theorem g_get2 {apos cpos : Pos} (g : Gd T Φ N sc X) (ha : PO_ Φ X a ca) (hk : PV_ Φ X k ck) (hf : PV_ Φ X f cf)
    (base : attributeBase a "get" X.env (eval a X.env) = eval a X.env := by rfl)
    (few : ((backTo cpos (starEach [k, f] X.env)).all (fun x => !x.1) && (backToKw cpos (keywordEach [] X.env)).all (fun x => x.1.isSome) && decide (([k, f] : List Expr).length + ([] : List Keyword).length + (if ([] : List Keyword).isEmpty then 0 else 1) < 30)) = true := by rfl)
    (line : (apos.endLine == cpos.line) = true := by rfl) (trees : backTo cpos (starEach [k, f] X.env) = [(false, eval k X.env), (false, eval f X.env)] := by rfl) :
    PV_ Φ X (.Call (.Attribute a "get" apos) [k, f] [] cpos) (.met .get2 ca (.cons ck (.cons cf .nil))) := v_get2 g ha hk hf ⟨base, few, line, trees⟩
theorem gi1 (g : Gd T Φ N sc X) (j : Nat) (ha : PV_ Φ X a ca) (h : gloB T sc j "range" = true := by decide +kernel) (hs : starEach [a] X.env = [(false, eval a X.env)] := by rfl) : PI_ Φ X tg (.Call (.Name "range" p) [a] [] pos) (.rng1 ca) :=
  let ⟨h1, h2, _, _⟩ := gloB_of h; i_rng1 g h2 h1 ha hs
theorem gi2 (g : Gd T Φ N sc X) (j : Nat) (ha : PV_ Φ X a ca) (hb : PV_ Φ X b cb) (h : gloB T sc j "range" = true := by decide +kernel) (hs : starEach [a, b] X.env = [(false, eval a X.env), (false, eval b X.env)] := by rfl) (hs2 : starEach [b] X.env = [(false, eval b X.env)] := by rfl) :
    PI_ Φ X tg (.Call (.Name "range" p) [a, b] [] pos) (.rng2 ca cb) :=
  let ⟨h1, h2, _, _⟩ := gloB_of h; i_rng2 g h2 h1 ha hb hs hs2
/-- a name as a target; fn: every name's cell is its own -/
theorem gp (g : Gd T Φ N sc X) (h : stoB N sc i x = true := by decide +kernel) (hf : X.fn x = true ∨ isLoc sc x = true := by first | exact .inr (by decide +kernel) | exact .inl (by rfl)) : PP_ X (.Name x pos) (.nm i) :=
  let ⟨h1, h2⟩ := stoB_of h; p_nm g h1 h2 (hf.imp id isLoc_of)
/-! the order of the stores leans on the scope alone -/
def dE (sc : Scope) : Env := { scope := sc, locals := 0, globals := 0, cells := [] }
theorem sws_dE {ts : List Expr} {v : Expr} {env : Env} (h : env.scope = sc) : swappedStores ts v env = swappedStores ts v (dE sc) := by
  cases env
  cases h
  unfold swappedStores Env.blockKind Env.kindOf
  rfl
theorem sw_dE {v : Expr} {t : Option Expr} {l : Nat} {env : Env} (h : env.scope = sc) : swapsWith v t l env = swapsWith v t l (dE sc) := by
  cases env
  cases h
  unfold swapsWith Env.blockKind Env.kindOf
  rfl
theorem gs_asg (g : Gd T Φ N sc X) (hF : ∀ x, X.fn x = true) (he : PV_ Φ X e c) (h : stoB N sc i x = true := by decide +kernel) (hs : swapsWith e (some (.Name x np)) pos.line X.env = pure false := by rfl) : PS_ Φ X (.Assign [.Name x np] e pos) (.asg false i c) :=
  let ⟨h1, h2⟩ := stoB_of h; s_asg g h1 h2 he hs (.inl (hF x))
theorem gs_asgF (g : Gd T Φ N sc X) (hF : ∀ x, X.fn x = true) (he : PF_ Φ X e c) (h : stoB N sc i x = true := by decide +kernel) (hs : swapsWith e (some (.Name x np)) pos.line X.env = pure false := by rfl) : PS_ Φ X (.Assign [.Name x np] e pos) (.asg true i c) :=
  let ⟨h1, h2⟩ := stoB_of h; s_asgF g h1 h2 he hs (.inl (hF x))
theorem gs_asgS (g : Gd T Φ N sc X) (hF : ∀ x, X.fn x = true) (he : PF_ Φ X e c) (h : stoB N sc i x = true := by decide +kernel) (hs : swapsWith e (some (.Name x np)) pos.line X.env = pure false := by rfl) : PS_ Φ X (.Assign [.Name x np] e pos) (.asgS i c) :=
  let ⟨h1, h2⟩ := stoB_of h; s_asgS g h1 h2 he hs (.inl (hF x))
theorem gs_aug {op : Bo} {o : Operator} (g : Gd T Φ N sc X) (hF : ∀ x, X.fn x = true) (he : PV_ Φ X e c) (h : stoB N sc i x = true := by decide +kernel) (ho : o = boT op := by rfl) : PS_ Φ X (.AugAssign (.Name x np) o e pos) (.aug i op c) :=
  let ⟨h1, h2⟩ := stoB_of h; s_aug g h1 h2 he ho (.inl (hF x))
theorem gs_app {apos cpos : Pos} (g : Gd T Φ N sc X) (he : PV_ Φ X e c) (h : varB N sc i x = true := by decide +kernel)
    (hbase : attributeBase (.Name x np) "append" X.env (eval (.Name x np) X.env) = eval (.Name x np) X.env := by rfl)
    (hfew : ((backTo cpos (starEach [e] X.env)).all (fun x => !x.1) && (backToKw cpos (keywordEach [] X.env)).all (fun x => x.1.isSome) && decide (([e] : List Expr).length + ([] : List Keyword).length + (if ([] : List Keyword).isEmpty then 0 else 1) < 30)) = true := by rfl)
    (hline : (apos.endLine == cpos.line) = true := by rfl) (hs : starEach [e] X.env = (false, eval e X.env) :: starEach [] X.env := by rfl) : PS_ Φ X (.Expr (.Call (.Attribute (.Name x np) "append" apos) [e] [] cpos) pos) (.app i c) :=
  let ⟨h1, h2, h3, h4⟩ := varB_of h; s_app g h1 h2 he hbase hfew hline hs rfl rfl h3 h4
theorem gs_augI {tpos : Pos} {op : Bo} {o : Operator} (g : Gd T Φ N sc X) (hk : PV_ Φ X k ck) (he : PV_ Φ X e c) (h : varB N sc i x = true := by decide +kernel) (ho : o = boT op := by rfl)
    (ha : ∀ ov iv new, augStore k ov iv new = (do holding [new, ov, iv] (setItem ov iv new); release [new, ov, iv] []; pure .next) := by intros; rfl) : PS_ Φ X (.AugAssign (.Subscript (.Name x np) k tpos) o e pos) (.augI i ck op c) :=
  let ⟨h1, h2, h3, h4⟩ := varB_of h; s_augI g h1 h2 hk he ho ha h3 h4
theorem gs_setI {pos' : Pos} (g : Gd T Φ N sc X) (he : PV_ Φ X e c) (hk : PV_ Φ X k ck) (h : varB N sc i x = true := by decide +kernel)
    (ha : ∀ v, assign (.Subscript (.Name x np) k pos') X.env v = (do
      let ov ← holding [v] (eval (.Name x np) X.env)
      let iv ← holding [v, ov] (eval k X.env)
      standAt pos'
      holding [v, ov, iv] (setItem ov iv v)
      release [v, ov, iv] []) := by intro _; rfl)
    (hs : swapsWithSole [.Subscript (.Name x np) k pos'] e pos.line X.env = pure false := by rfl) (hw : swappedStores [.Subscript (.Name x np) k pos'] e X.env = pure none := by rfl)
    (ht : (assignEach [.Subscript (.Name x np) k pos'] X.env).map (·.2) = [assign (.Subscript (.Name x np) k pos') X.env] := by rfl) : PS_ Φ X (.Assign [.Subscript (.Name x np) k pos'] e pos) (.setI i ck c) :=
  let ⟨h1, h2, h3, h4⟩ := varB_of h; s_setI g h1 h2 he hk ha hs hw ht h3 h4
section
variable {d : Expr} {px py pz pt pt2 : Pos} {kt k2 l : Nat} {z : Str} {os : List Bool}
theorem gs_par2 (g : Gd T Φ N sc X) (ha : PX_ Φ X [a, b] os cs) (h1 : lstB N sc i x = true := by decide +kernel) (h2 : lstB N sc j y = true := by decide +kernel) (hij : i ≠ j := by decide) (hl : cs.len = 2 := by rfl)
    (hw : swappedStores [.Tuple [.Name x px, .Name y py] kt pt] (.Tuple [a, b] k2 pt2) (dE sc) = pure (some [x, y]) := by rfl)
    (hs : swapsWithSole [.Tuple [.Name x px, .Name y py] kt pt] (.Tuple [a, b] k2 pt2) pos.line X.env = pure false := by rfl) :
    PS_ Φ X (.Assign [.Tuple [.Name x px, .Name y py] kt pt] (.Tuple [a, b] k2 pt2) pos) (.par (nms [i, j]) os cs) :=
  let ⟨p1, p2⟩ := lstB_of h1; let ⟨q1, q2⟩ := lstB_of h2; s_par2 g p1 q1 p2 q2 ha (by rw [sws_dE g.sc]; exact hw) hij hl hs
theorem gs_par3 (g : Gd T Φ N sc X) (ha : PX_ Φ X [a, b, d] os cs) (h1 : lstB N sc i x = true := by decide +kernel) (h2 : lstB N sc j y = true := by decide +kernel) (h3 : lstB N sc l z = true := by decide +kernel) (hij : i ≠ j := by decide) (hil : i ≠ l := by decide) (hjl : j ≠ l := by decide) (hl : cs.len = 3 := by rfl)
    (hw : swappedStores [.Tuple [.Name x px, .Name y py, .Name z pz] kt pt] (.Tuple [a, b, d] k2 pt2) (dE sc) = pure (some [x, y, z]) := by rfl)
    (hs : swapsWithSole [.Tuple [.Name x px, .Name y py, .Name z pz] kt pt] (.Tuple [a, b, d] k2 pt2) pos.line X.env = pure false := by rfl) :
    PS_ Φ X (.Assign [.Tuple [.Name x px, .Name y py, .Name z pz] kt pt] (.Tuple [a, b, d] k2 pt2) pos) (.par (nms [i, j, l]) os cs) :=
  let ⟨p1, p2⟩ := lstB_of h1; let ⟨q1, q2⟩ := lstB_of h2; let ⟨r1, r2⟩ := lstB_of h3; s_par3 g p1 q1 r1 p2 q2 r2 ha (by rw [sws_dE g.sc]; exact hw) hij hil hjl hl hs
theorem gn {ts : List Expr} {is : List Nat} (g : Gd T Φ N sc X) (hF : ∀ x, X.fn x = true) (h2 : PN_ X ts is) (h : stoB N sc i x = true := by decide +kernel)
    (hs : (assignEach (.Name x px :: ts) X.env).map (·.2) = assign (.Name x px) X.env :: (assignEach ts X.env).map (·.2) := by rfl) : PN_ X (.Name x px :: ts) (i :: is) :=
  let ⟨h3, h4⟩ := stoB_of h; n_cons g h3 h4 h2 (.inl (hF x)) hs
theorem gs_parN {ts es : List Expr} {is : List Nat} (g : Gd T Φ N sc X) (ht : PN_ X ts is) (ha : PX_ Φ X es os cs)
    (hlen : cs.len = is.length := by rfl) (hlim : cs.len ≤ LIM := by decide) (hn : (assignEach ts X.env).length = is.length := by rfl) (hst : (assignEach ts X.env).findIdx? (·.1) = none := by rfl)
    (hs : swapsWithSole [.Tuple ts kt pt] (.Tuple es k2 pt2) pos.line X.env = pure false := by rfl) (hw : swappedStores [.Tuple ts kt pt] (.Tuple es k2 pt2) (dE sc) = pure none := by rfl)
    (h1 : (assignEach [.Tuple ts kt pt] X.env).map (·.2) = [assign (.Tuple ts kt pt) X.env] := by rfl) :
    PS_ Φ X (.Assign [.Tuple ts kt pt] (.Tuple es k2 pt2) pos) (.par (nms is) os cs) := s_parN g ht ha hlen hlim hn hst hs (by rw [sws_dE g.sc]; exact hw) h1
end
section
variable {py spos : Pos} {elt iter : Expr} {ifs : List Expr} {scope : Scope} {own : List (Str × Nat)} {ce : CE} {pt : Pat} {ci : CI} {ct : CEs}
/-- a comprehension of one clause, as an expression -/
theorem g_lc1 (own : List (Str × Nat)) (g : Gd T Φ N sc X) (hi : PJ_ Φ X tg iter ci)
    (hp : ∀ (s : Shared) (H : Hp) (C : Addr) (cl : List (Str × Addr)) (fp : List Addr), PP_ (X.blk s H scope (compEnvC scope cl C X.env) fp) tg pt)
    (ht : ∀ (s : Shared) (H : Hp) (C : Addr) (cl : List (Str × Addr)) (fp : List Addr), PTs_ Φ (X.blk s H scope (compEnvC scope cl C X.env) fp) ifs ct)
    (he : ∀ (s : Shared) (H : Hp) (C : Addr) (cl : List (Str × Addr)) (fp : List Addr), PV_ Φ (X.blk s H scope (compEnvC scope cl C X.env) fp) elt ce)
    (hb : blkC N sc scope own = true := by decide +kernel) (hsl : (pt.slots.all fun i => (own.map (·.2)).contains i) = true := by rfl) (hs : ∀ x, foldedSetIterable iter X.env x = pure x := by intro _; rfl) :
    PF_ Φ X (.ListComp elt [⟨tg, iter, ifs, 0⟩] scope pos) (.lc1 (own.map (·.2)) ce pt ci ct) :=
  f_lc1 g hb hi (fun i hi => by have := List.all_eq_true.mp hsl i hi; simpa using this) hp ht he hs
theorem g_lc1S (own : List (Str × Nat)) (g : Gd T Φ N sc X) (hi : PJ_ Φ X tg iter ci)
    (hp : ∀ (s : Shared) (H : Hp) (C : Addr) (cl : List (Str × Addr)) (fp : List Addr), PP_ (X.blk s H scope (compEnvC scope cl C X.env) fp) tg pt)
    (ht : ∀ (s : Shared) (H : Hp) (C : Addr) (cl : List (Str × Addr)) (fp : List Addr), PTs_ Φ (X.blk s H scope (compEnvC scope cl C X.env) fp) ifs ct)
    (he : ∀ (s : Shared) (H : Hp) (C : Addr) (cl : List (Str × Addr)) (fp : List Addr), PV_ Φ (X.blk s H scope (compEnvC scope cl C X.env) fp) elt ce)
    (h : lstB N sc i y = true := by decide +kernel) (hb : blkC N sc scope own = true := by decide +kernel) (hsl : (pt.slots.all fun i => (own.map (·.2)).contains i) = true := by rfl) (hk : sc.kind = .function := by rfl) (hl : (py.line == pos.line) = true := by rfl)
    (hna : (scope.names.any fun (n, k) => n == y && (k == .local || k == .cell)) = false := by decide +kernel) (hs : ∀ x, foldedSetIterable iter X.env x = pure x := by intro _; rfl) :
    PS X (.Assign [.Name y py] (.ListComp elt [⟨tg, iter, ifs, 0⟩] scope pos) spos) (tAsg (tF X.K Φ (.lc1 (own.map (·.2)) ce pt ci ct)) (gName i)) :=
  let ⟨h1, h2⟩ := lstB_of h; s_lc1 g h1 h2 hb hi (fun i hi => by have := List.all_eq_true.mp hsl i hi; simpa using this) hp ht he (by rw [g.sc]; exact hk) hl hna hs
theorem g_lc2 {tg2 iter2 : Expr} {ifs2 : List Expr} {pt2 : Pat} {ci2 : CI} {ct2 : CEs} (own : List (Str × Nat)) (own2 : List Nat) (g : Gd T Φ N sc X) (hi : PJ_ Φ X tg iter ci)
    (hp : ∀ (s : Shared) (H : Hp) (C : Addr) (cl : List (Str × Addr)) (fp : List Addr), PP_ (X.blk s H scope (compEnvC scope cl C X.env) fp) tg pt)
    (ht : ∀ (s : Shared) (H : Hp) (C : Addr) (cl : List (Str × Addr)) (fp : List Addr), PTs_ Φ (X.blk s H scope (compEnvC scope cl C X.env) fp) ifs ct)
    (hi2 : ∀ (s : Shared) (H : Hp) (C : Addr) (cl : List (Str × Addr)) (fp : List Addr), PI_ Φ (X.blk s H scope (compEnvC scope cl C X.env) fp) tg2 iter2 ci2)
    (hp2 : ∀ (s : Shared) (H : Hp) (C : Addr) (cl : List (Str × Addr)) (fp : List Addr), PP_ (X.blk s H scope (compEnvC scope cl C X.env) fp) tg2 pt2)
    (ht2 : ∀ (s : Shared) (H : Hp) (C : Addr) (cl : List (Str × Addr)) (fp : List Addr), PTs_ Φ (X.blk s H scope (compEnvC scope cl C X.env) fp) ifs2 ct2)
    (he : ∀ (s : Shared) (H : Hp) (C : Addr) (cl : List (Str × Addr)) (fp : List Addr), PV_ Φ (X.blk s H scope (compEnvC scope cl C X.env) fp) elt ce)
    (hb : blkC N sc scope own = true := by decide +kernel) (hsl : (pt.slots.all fun i => (own.map (·.2)).contains i) = true := by rfl) (hsl2 : (pt2.slots.all fun i => own2.contains i) = true := by rfl) (ho2 : (own2.all fun i => (own.map (·.2)).contains i) = true := by rfl)
    (hs : ∀ x, foldedSetIterable iter X.env x = pure x := by intro _; rfl) (hs1 : ∀ env x, foldedSetIterable iter2 env x = pure x := by intro _ _; rfl) :
    PF_ Φ X (.ListComp elt [⟨tg, iter, ifs, 0⟩, ⟨tg2, iter2, ifs2, 0⟩] scope pos) (.lc2 (own.map (·.2)) ce pt ci ct own2 pt2 ci2 ct2) :=
  f_lc2 g hb hi (fun i hi => by have := List.all_eq_true.mp hsl i hi; simpa using this) (fun i hi => by have := List.all_eq_true.mp hsl2 i hi; simpa using this) (fun i hi => by have := List.all_eq_true.mp ho2 i hi; simpa using this) hp ht hi2 hp2 ht2 he hs hs1
theorem g_lc2S {tg2 iter2 : Expr} {ifs2 : List Expr} {pt2 : Pat} {ci2 : CI} {ct2 : CEs} (own : List (Str × Nat)) (own2 : List Nat) (g : Gd T Φ N sc X) (hi : PJ_ Φ X tg iter ci)
    (hp : ∀ (s : Shared) (H : Hp) (C : Addr) (cl : List (Str × Addr)) (fp : List Addr), PP_ (X.blk s H scope (compEnvC scope cl C X.env) fp) tg pt)
    (ht : ∀ (s : Shared) (H : Hp) (C : Addr) (cl : List (Str × Addr)) (fp : List Addr), PTs_ Φ (X.blk s H scope (compEnvC scope cl C X.env) fp) ifs ct)
    (hi2 : ∀ (s : Shared) (H : Hp) (C : Addr) (cl : List (Str × Addr)) (fp : List Addr), PI_ Φ (X.blk s H scope (compEnvC scope cl C X.env) fp) tg2 iter2 ci2)
    (hp2 : ∀ (s : Shared) (H : Hp) (C : Addr) (cl : List (Str × Addr)) (fp : List Addr), PP_ (X.blk s H scope (compEnvC scope cl C X.env) fp) tg2 pt2)
    (ht2 : ∀ (s : Shared) (H : Hp) (C : Addr) (cl : List (Str × Addr)) (fp : List Addr), PTs_ Φ (X.blk s H scope (compEnvC scope cl C X.env) fp) ifs2 ct2)
    (he : ∀ (s : Shared) (H : Hp) (C : Addr) (cl : List (Str × Addr)) (fp : List Addr), PV_ Φ (X.blk s H scope (compEnvC scope cl C X.env) fp) elt ce)
    (h : lstB N sc i y = true := by decide +kernel) (hb : blkC N sc scope own = true := by decide +kernel) (hsl : (pt.slots.all fun i => (own.map (·.2)).contains i) = true := by rfl) (hsl2 : (pt2.slots.all fun i => own2.contains i) = true := by rfl) (ho2 : (own2.all fun i => (own.map (·.2)).contains i) = true := by rfl)
    (hk : sc.kind = .function := by rfl) (hl : (py.line == pos.line) = true := by rfl) (hna : (scope.names.any fun (n, k) => n == y && (k == .local || k == .cell)) = false := by decide +kernel)
    (hs : ∀ x, foldedSetIterable iter X.env x = pure x := by intro _; rfl) (hs1 : ∀ env x, foldedSetIterable iter2 env x = pure x := by intro _ _; rfl) :
    PS X (.Assign [.Name y py] (.ListComp elt [⟨tg, iter, ifs, 0⟩, ⟨tg2, iter2, ifs2, 0⟩] scope pos) spos) (tAsg (tF X.K Φ (.lc2 (own.map (·.2)) ce pt ci ct own2 pt2 ci2 ct2)) (gName i)) :=
  let ⟨h1, h2⟩ := lstB_of h
  s_lc2 g h1 h2 hb hi (fun i hi => by have := List.all_eq_true.mp hsl i hi; simpa using this) (fun i hi => by have := List.all_eq_true.mp hsl2 i hi; simpa using this) (fun i hi => by have := List.all_eq_true.mp ho2 i hi; simpa using this) hp ht hi2 hp2 ht2 he (by rw [g.sc]; exact hk) hl hna hs hs1
end
end
end MP

/-! MP ky: comprehensions over a dict's keys: the dict is locked meanwhile. -/
namespace MP
open PySem PySem.Spec PyProof.Rows L2
def LkK (σ : L2.St) (H : Hp) (i : Nat) : Prop := ∃ a od ks, σ[i]? = some (some (.ref a)) ∧ H a = some (.frz od (.dK ks))
def tJK (K : PySem.W.Frag) (Φ : Fns) (i : Nat) : TI := fun σ H R => LkK σ H i ∧ tJ K Φ (.keys i) σ H R
def reP (G : Hp) (a : Addr) (o : HO) : Hp := fun b => if b = a then (G a).map (fun _ => o) else G b
theorem reP_ne {G : Hp} {a b : Addr} {o : HO} (h : b ≠ a) : reP G a o b = G b := if_neg h
theorem reP_eq {G : Hp} {a : Addr} {o : HO} : reP G a o a = (G a).map fun _ => o := if_pos rfl
theorem kPV_tr {as : List Addr} {K : PySem.W.Frag} {G : Hp} (k : Key) : Tr as K G (kV k) (kPV k) := by
  cases k with
  | inl i => exact .int i
  | inr s => exact .str s
theorem trK_get {as : List Addr} {K : PySem.W.Frag} {G : Hp} : ∀ {ks : List (Key × V)} {kvs : List (PV × PV)}, TrK as K G ks kvs → kvs.map (·.1) = ks.map fun p => kPV p.1
  | _, _, .nil => rfl
  | _, _, .cons _ t => by rw [List.map_cons, List.map_cons, trK_get t]
section
variable {as : List Addr} {K : PySem.W.Frag} {G H G' H' : Hp} {D D' : DS} {a : Addr} {ks : List (Key × V)} {od : Obj} {σ : L2.St} {ρ : Envi}
/-- what G tells of a: nothing, or the dict -/
def Ga (G : Hp) (a : Addr) (o : HO) : Prop := G a = none ∨ G a = some o
theorem le_lock (h : Ga G a (.dK ks)) : Le G (reP G a (.frz od (.dK ks))) where
  pl := fun b o h1 h2 h3 hb => by
    have : b ≠ a := fun e => by
      subst e
      rcases h with h | h
      · rw [h] at hb; cases hb
      · rw [h] at hb; cases hb; exact h2 _ rfl
    rw [reP_ne this]; exact hb
  rd' := fun b u hn r => by
    by_cases e : b = a
    · subst e
      rcases h with h | h
      · rcases r with r | ⟨o, r⟩ <;> rw [h] at r <;> cases r
      · right
        refine ⟨od, ?_⟩
        rw [reP_eq, h]
        rcases r with r | ⟨o, r⟩ <;> rw [h] at r <;> cases r
        rfl
    · rcases r with r | ⟨o, r⟩
      · left; rw [reP_ne e]; exact r
      · right; exact ⟨o, by rw [reP_ne e]; exact r⟩
theorem le_unlock (h : Ga G a (.frz od (.dK ks))) : Le G (reP G a (.dK ks)) where
  pl := fun b o h1 h2 h3 hb => by
    have : b ≠ a := fun e => by
      subst e
      rcases h with h | h
      · rw [h] at hb; cases hb
      · rw [h] at hb; cases hb; exact h1 _ _ rfl
    rw [reP_ne this]; exact hb
  rd' := fun b u hn r => by
    by_cases e : b = a
    · subst e
      rcases h with h | h
      · rcases r with r | ⟨o, r⟩ <;> rw [h] at r <;> cases r
      · left
        rw [reP_eq, h]
        rcases r with r | ⟨o, r⟩ <;> rw [h] at r <;> cases r
        · exact absurd rfl (hn _ _)
        · rfl
    · rcases r with r | ⟨o, r⟩
      · left; rw [reP_ne e]; exact r
      · right; exact ⟨o, by rw [reP_ne e]; exact r⟩
theorem wd_re {o : HO} (w : Wd as K G H D) (ha : a ∉ as) (l : Le G (reP G a o)) : Wd as K (reP G a o) (upd H a o) D where
  sub := fun b x hb => by
    by_cases e : b = a
    · subst e
      rw [reP_eq] at hb
      obtain ⟨_, _, rfl⟩ := Option.map_eq_some_iff.mp hb
      exact upd_same
    · rw [reP_ne e] at hb
      rw [upd_ne e]; exact w.sub b x hb
  nd := w.nd
  len := w.len
  off := fun b hb => by
    have : b ≠ a := fun e => ha (by rw [← e]; exact hb)
    rw [reP_ne this]; exact w.off b hb
  sh := fun j b x h1 h2 => by
    have hne : b ≠ a := fun e => ha (by rw [← e]; exact List.mem_of_getElem? h1)
    have := (w.sh j b x h1 h2).up l (H' := upd H a o) (upd_ne hne) []
    simpa using this
theorem ownR_lock (o : OwnR as K G H a x) (hH : H a = some (.dK ks)) (l : Le G G') : OwnR as K G' (upd H a (.frz od (.dK ks))) a x := by
  cases x with
  | lst xs =>
    obtain ⟨vs, h, _⟩ := o
    rw [hH] at h; cases h
  | dct t kvs =>
    rcases o with ⟨h0, k2, h, t2⟩ | ⟨h0, k2, h, t2⟩
    · refine .inl ⟨h0, k2, .inr ⟨od, ?_⟩, t2.up l⟩
      rcases h with h | ⟨o, h⟩ <;> rw [hH] at h <;> cases h
      exact upd_same
    · rcases h with h | ⟨o, h⟩ <;> rw [hH] at h <;> cases h
  | _ => exact o
theorem rp_lock (r : Rp as K G H σ ρ) (hH : H a = some (.dK ks)) (hG : Ga G a (.dK ks)) : Rp as K (reP G a (.frz od (.dK ks))) (upd H a (.frz od (.dK ks))) σ ρ where
  len := r.len
  frz := fun i x h => by
    obtain ⟨v, e, t⟩ := r.frz i x h
    exact ⟨v, e, t.up (le_lock hG)⟩
  own := fun i x h => by
    obtain ⟨b, e, g, n, o⟩ := r.own i x h
    refine ⟨b, e, ?_, n, ?_⟩
    · by_cases e : b = a
      · subst e; rw [reP_eq, g]; rfl
      · rw [reP_ne e]; exact g
    · by_cases e : b = a
      · subst e; exact ownR_lock o hH (le_lock hG)
      · have := o.up (le_lock (od := od) hG) (H' := upd H a (.frz od (.dK ks))) (upd_ne e) []
        simpa using this
  dis := r.dis
theorem ga_back (st : Stp as (reP G a (.frz od (.dK ks))) (upd H a (.frz od (.dK ks))) G' H') (hH : H a = some (.dK ks)) (w : Wd as K G' H' D') (ha : a ∉ as) (hG : Ga G a (.dK ks)) : H' a = some (.frz od (.dK ks)) ∧ Ga G' a (.frz od (.dK ks)) := by
  have e := st.kp a _ ha upd_same
  refine ⟨e, ?_⟩
  cases q : G' a with
  | none => exact .inl q
  | some o =>
    have := w.sub a o q
    rw [e] at this
    cases this
    exact .inr q
theorem stp_unlock (st : Stp as (reP G a (.frz od (.dK ks))) (upd H a (.frz od (.dK ks))) G' H') (hH : H a = some (.dK ks)) (w : Wd as K G' H' D') (ha : a ∉ as) (hG : Ga G a (.dK ks)) : Stp as G H (reP G' a (.dK ks)) (upd H' a (.dK ks)) := by
  obtain ⟨e1, e2⟩ := ga_back st hH w ha hG
  refine ⟨((le_lock hG).trans st.le).trans (le_unlock e2), fun b hb => ?_, fun b o hb h => ?_, fun b h => ?_⟩
  · by_cases e : b = a
    · subst e
      have hb' : G' b ≠ none := fun z => hb (by rw [reP_eq, z]; rfl)
      rcases st.nw b hb' with z | z
      · left
        intro q
        exact z (by rw [reP_eq, q]; rfl)
      · rw [upd_same] at z; cases z
    · rw [reP_ne e] at hb
      rcases st.nw b hb with z | z
      · left; rw [reP_ne e] at z; exact z
      · right; rw [upd_ne e] at z; exact z
  · by_cases e : b = a
    · subst e
      rw [hH] at h; cases h; exact upd_same
    · rw [upd_ne e]
      exact st.kp b o hb (by rw [upd_ne e]; exact h)
  · by_cases e : b = a
    · subst e; rw [upd_same]; exact fun z => nomatch z
    · rw [upd_ne e]; exact st.sm b (by rw [upd_ne e]; exact h)
end
section
variable {T : Tb} {Φ : Fns} {N : List Str} {sc : Scope} {X : Cx} {e tg : Expr} {pos p np : Pos} {i : Nat} {x : Str}
theorem por {t u : TE} (h : PE X e t) (h2 : PE X e u) : PE X e (fun σ H Q => t σ H Q ∨ u σ H Q) := ⟨fun pins s σ H Q I q => by
  rcases q with q | q
  · exact h.run pins s σ H Q I q
  · exact h2.run pins s σ H Q I q⟩
/-- the dict that slot i holds -/
theorem slot_dict {as : List Addr} {K : PySem.W.Frag} {G H : Hp} {D : DS} {σ : L2.St} {ρ : Envi} {y : PV} {xs : List PV} (w : Wd as K G H D) (r : Rp as K G H σ ρ) (hy : borS ρ i = some y) (hk : keysOf y = some xs) :
    ∃ a ks kvs, y = .dct 0 kvs ∧ kvs.length ≤ LIM ∧ xs = ks.map (fun p => kPV p.1) ∧ ks.length = kvs.length ∧ σ[i]? = some (some (.ref a)) ∧ a ∉ as ∧ Rd H a (.dK ks) ∧ (G a = none ∨ G a = H a) := by
  have key : ∃ kvs, y = .dct 0 kvs ∧ kvs.length ≤ LIM ∧ xs = kvs.map (·.1) := by
    cases y with
    | dct t kvs =>
      cases t with
      | zero =>
        have h : (if kvs.length ≤ LIM then some (kvs.map (·.1)) else none) = some xs := hk
        split at h
        · rename_i hl
          exact ⟨kvs, rfl, hl, (Option.some.inj h).symm⟩
        · cases h
      | succ t => cases hk
    | _ => cases hk
  obtain ⟨kvs, rfl, hl, rfl⟩ := key
  unfold borS at hy
  cases q : ρ[i]? with
  | none => rw [q] at hy; cases hy
  | some z =>
    cases z with
    | none => rw [q] at hy; cases hy
    | some z =>
      obtain ⟨o, y'⟩ := z
      rw [q] at hy
      obtain rfl : y' = .dct 0 kvs := Option.some.inj hy
      cases o with
      | false =>
        obtain ⟨v, e, t⟩ := r.frz i _ q
        cases t with
        | dK h t2 =>
          rename_i a ks
          have hne : G a ≠ none := by
            rcases h with h | ⟨o, h⟩ <;> rw [h] <;> exact fun z => nomatch z
          have hGH : G a = H a := by
            rcases h with h | ⟨o, h⟩ <;> rw [h, w.sub _ _ h]
          refine ⟨a, ks, kvs, rfl, hl, trK_get t2, t2.len, e, fun hm => hne (w.off a hm), ?_, .inr hGH⟩
          rcases h with h | ⟨o, h⟩
          · exact .inl (w.sub _ _ h)
          · exact .inr ⟨o, w.sub _ _ h⟩
      | true =>
        obtain ⟨a, e, g, n, o⟩ := r.own i _ q
        rcases o with ⟨_, ks, h, t2⟩ | ⟨h0, _⟩
        · exact ⟨a, ks, kvs, rfl, hl, trK_get t2, t2.len, e, n, h, .inl g⟩
        · cases h0
theorem j_keys (g : Gd T Φ N sc X) (hi : N[i]? = some x) (hv : Vis sc x) (hd : (x == ("__debug__" : Str)) = false) (hcd : (x == ("__classdict__" : Str)) = false) : PI X tg (.Name x np) (tJK X.K Φ i) :=
  pi_imp (pi_keys (tg := tg) (pv_slot g hi hv hd hcd)) fun σ H R ⟨⟨a, od, ks, e1, e2⟩, as, G, ρ, D, xs, D', w, r, ee, f⟩ => by
    obtain ⟨xs', e3, e4⟩ := Option.map_eq_some_iff.mp (show ((borS ρ i).bind keysOf).map (fun xs => (xs, D)) = some (xs, D') from ee)
    cases e4
    obtain ⟨y, e5, e6⟩ := Option.bind_eq_some_iff.mp e3
    obtain ⟨b, ks2, kvs, rfl, hl, rfl, hln, e7, hna, hR, _⟩ := slot_dict w r e5 e6
    rw [e1] at e7
    cases e7
    have hk : ks2 = ks := by
      rcases hR with h | ⟨o, h⟩ <;> rw [e2] at h <;> cases h
      rfl
    subst hk
    refine ⟨_, e1, a, od, rfl, .inl ⟨ks2, e2, f _ G H (Stp.refl _ _ _) w (by rw [List.length_map, hln]; exact line_lim hl) fun more G2 H2 D2 l w2 => ?_⟩⟩
    have h2 : H2 a = some (.frz od (.dK ks2)) := l.kp a _ hna e2
    refine ⟨fun j hj => ⟨h2, by rw [List.length_map] at hj; exact hj⟩, fun j hj => ⟨h2, by rw [List.length_map] at hj; exact hj⟩, fun j z v H' hz hy => ?_⟩
    obtain ⟨rfl, k, u, q1, rfl⟩ := hy
    rw [List.getElem?_map, q1] at hz
    cases hz
    exact ⟨G2, Stp.refl _ _ _, w2, kPV_tr k⟩
section
variable {elt : Expr} {ifs : List Expr} {scope : Scope} {own : List (Str × Nat)} {ce : CE} {pt : Pat} {ct : CEs}
theorem lc1_impK {σ : L2.St} {H : Hp} {Q : VK} (hsl : ∀ i ∈ pt.slots, i ∈ own.map (·.2)) (h : tF X.K Φ (.lc1 (own.map (·.2)) ce pt (.keys i) ct) σ H Q) (lk : LkK σ H i) :
    tLc (tJK X.K Φ i) (tP X.K pt) (tTs X.K Φ ct) (tE X.K Φ ce) (own.map (·.2)) σ H Q := by
  have := lc1_imp hsl h
  unfold tLc at this ⊢
  exact ⟨lk, this⟩
theorem f_lc1K (g : Gd T Φ N sc X) (hb : blkC N sc scope own = true) (hi : N[i]? = some x) (hv : Vis sc x) (hd : (x == ("__debug__" : Str)) = false) (hcd : (x == ("__classdict__" : Str)) = false) (hsl : ∀ i ∈ pt.slots, i ∈ own.map (·.2))
    (hp : ∀ (s : Shared) (H : Hp) (C : Addr) (cl : List (Str × Addr)) (fp : List Addr), PP_ (X.blk s H scope (compEnvC scope cl C X.env) fp) tg pt)
    (ht : ∀ (s : Shared) (H : Hp) (C : Addr) (cl : List (Str × Addr)) (fp : List Addr), PTs_ Φ (X.blk s H scope (compEnvC scope cl C X.env) fp) ifs ct)
    (he : ∀ (s : Shared) (H : Hp) (C : Addr) (cl : List (Str × Addr)) (fp : List Addr), PV_ Φ (X.blk s H scope (compEnvC scope cl C X.env) fp) elt ce) (hs : ∀ y, foldedSetIterable (.Name x np) X.env y = pure y := by intro _; rfl) :
    PF_ Φ X (.ListComp elt [⟨tg, .Name x np, ifs, 0⟩] scope pos) (.lc1 (own.map (·.2)) ce pt (.keys i) ct) := by
  have h0 := pe_lc (pos := pos) (wi := tJK X.K Φ i) (g := tP X.K pt) (tt := tTs X.K Φ ct) (te := tE X.K Φ ce) g.calm (by rw [g.n]; exact g.nd) (j_keys (np := np) g hi hv hd hcd) (by rw [g.n, g.sc]; exact blkOk_by hb) hp ht he hs
  refine pe_imp (por h0 (pe_lock h0)) fun σ H Q h => ?_
  obtain ⟨as, G, ρ, D, z, D', w, r, ee, f⟩ := id h
  obtain ⟨⟨xs, D1⟩, e1, _⟩ := Option.bind_eq_some_iff.mp ee
  obtain ⟨xs', e3, e4⟩ := Option.map_eq_some_iff.mp (show ((borS ρ i).bind keysOf).map (fun xs => (xs, D)) = some (xs, D1) from e1)
  cases e4
  obtain ⟨y, e5, e6⟩ := Option.bind_eq_some_iff.mp e3
  obtain ⟨a, ks, kvs, rfl, hl, rfl, hln, e7, hna, hR, hG0⟩ := slot_dict w r e5 e6
  rcases hR with hH | ⟨od, hH⟩
  · right
    have hG : Ga G a (.dK ks) := by
      rcases hG0 with z | z
      · exact .inl z
      · exact .inr (z.trans hH)
    refine ⟨a, .dK ks, hH, True.intro, fun od => lc1_impK hsl ⟨as, _, ρ, D, z, D', wd_re w hna (le_lock (od := od) hG), rp_lock r hH hG, ee, fun p G' H' st w' hp hp2 o => ?_⟩ ⟨a, od, ks, e7, upd_same⟩⟩
    obtain ⟨e8, e9⟩ := ga_back st hH w' hna hG
    have hpa : p ≠ a := fun e => by rw [e, upd_same] at hp; cases hp
    refine ⟨e8, f p _ _ (stp_unlock st hH w' hna hG) (wd_re w' hna (le_unlock e9)) (by rw [upd_ne hpa] at hp; exact hp) (by rw [reP_ne hpa]; exact hp2) ?_⟩
    have := o.up (le_unlock e9) (H' := upd H' a (.dK ks)) (upd_ne hpa) []
    simpa using this
  · left
    exact lc1_impK hsl h ⟨a, od, ks, e7, hH⟩
theorem g_lc1K (own : List (Str × Nat)) (g : Gd T Φ N sc X) (i : Nat)
    (hp : ∀ (s : Shared) (H : Hp) (C : Addr) (cl : List (Str × Addr)) (fp : List Addr), PP_ (X.blk s H scope (compEnvC scope cl C X.env) fp) tg pt)
    (ht : ∀ (s : Shared) (H : Hp) (C : Addr) (cl : List (Str × Addr)) (fp : List Addr), PTs_ Φ (X.blk s H scope (compEnvC scope cl C X.env) fp) ifs ct)
    (he : ∀ (s : Shared) (H : Hp) (C : Addr) (cl : List (Str × Addr)) (fp : List Addr), PV_ Φ (X.blk s H scope (compEnvC scope cl C X.env) fp) elt ce)
    (h : varB N sc i x = true := by decide +kernel) (hb : blkC N sc scope own = true := by decide +kernel) (hsl : (pt.slots.all fun i => (own.map (·.2)).contains i) = true := by rfl) (hs : ∀ y, foldedSetIterable (.Name x np) X.env y = pure y := by intro _; rfl) :
    PF_ Φ X (.ListComp elt [⟨tg, .Name x np, ifs, 0⟩] scope pos) (.lc1 (own.map (·.2)) ce pt (.keys i) ct) :=
  let ⟨h1, h2, h3, h4⟩ := varB_of h; f_lc1K g hb h1 h2 h3 h4 (fun i hi => by have := List.all_eq_true.mp hsl i hi; simpa using this) hp ht he hs
end
end
end MP

/-! MP en: enumerate of tuples. -/
namespace PySem
open Sem (wp)
theorem mp_enumerate_newB {v : Value} {o : Obj} {H : Heap → Prop} (B : Begins v o H) :
    Meets (Builtin.«enumerate.__new__» ⟨[.type "enumerate", v], []⟩) (fun _ R s => H s.heap ∧
      R (.ok (.ret (.ref (s.heap.push o).objs.size))) { s with heap := (s.heap.push o).push { cls := .type "enumerate", data := .fields #[.none, .bool false, .ref s.heap.objs.size, rawInt 0, .none, .none] } }) :=
  .of_wp fun prog w A R s h => by
    obtain ⟨hp, g, d, tk, os⟩ := s; obtain ⟨h1, h⟩ := h
    have hsub := sub_enumerate
    have q1 : ∀ {A' : Around} {E : Value → Shared → Prop} {Q : Value → Shared → Prop}, Q (.ref hp.objs.size) ⟨hp.push o, g, d, tk, os⟩ → wpAny (model prog w) A' (pyIter v) Q E ⟨hp, g, d, tk, os⟩ :=
      fun q => B.iter prog w _ _ ⟨hp, g, d, tk, os⟩ _ h1 q
    wp_walk using q1
    refine wpAny_stack_any fun st => wpAny_pure ?_
    split
    · rename_i c _ _ _ _ _
      cases (c == Value.type "enumerate")
      · wp_walk using q1
        exact ⟨_, rfl, h⟩
      · wp_walk using q1
        exact ⟨_, rfl, h⟩
    · wp_walk using q1
      exact ⟨_, rfl, h⟩
section
variable {prog : Program} {w : World} {A : Around} {E : Value → Shared → Prop} {s : Shared}
theorem mp_enum1 {v : Value} {o : Obj} {H : Heap → Prop} {Q : Value → Shared → Prop} (B : Begins v o H) (h1 : H s.heap)
    (h : ∀ h', IsEnum h' (s.heap.objs.size + 1) s.heap.objs.size 0 .none → h'.get? s.heap.objs.size = some o → h'.objs.size = s.heap.objs.size + 2 →
      (∀ b o, s.heap.get? b = some o → h'.get? b = some o) → Q (.ref (s.heap.objs.size + 1)) { s with heap := h' }) :
    wpAny (model prog w) A (call (.type "enumerate") [v]) Q E s := by
  refine callType_new F.called_enumerate (by decide) (F.typeCall_enumerate_1 _) (F.newCall_enumerate_1 _) (fun obj => F.args_object_init_2 obj _) F.entry_enumerate_new
    (mp_enumerate_newB B) ⟨h1, ?_⟩
  have hz : (s.heap.push o).objs.size = s.heap.objs.size + 1 := Heap.size_push ..
  show _ ∧ _
  rw [hz]
  have he : IsEnum ((s.heap.push o).push { cls := .type "enumerate", data := .fields #[.none, .bool false, .ref s.heap.objs.size, rawInt 0, .none, .none] }) (s.heap.objs.size + 1) s.heap.objs.size 0 .none := by
    have := Heap.get?_push_size (s.heap.push o) (o := { cls := .type "enumerate", data := .fields #[.none, .bool false, .ref s.heap.objs.size, rawInt 0, .none, .none] }) rfl
    rw [hz] at this; exact this
  refine ⟨⟨_, he, rfl⟩, h _ he (Heap.get?_push_of_some _ (Heap.get?_push_size _ B.free)) (by rw [Heap.size_push, hz]) fun b o x => Heap.get?_push_of_some _ (Heap.get?_push_of_some _ x)⟩
end
end PySem
namespace MP
open PySem PySem.Spec PyProof.Rows L2
/-- the tuple at a, each item in a new pair -/
def IteT (K : PySem.W.Frag) (a : Addr) : It :=
  ⟨fun i H => ∃ (xs : List V) (x : V), SqT K H a xs ∧ xs[i]? = some x, fun i H v H' => ∃ T x, v = .ref T ∧ H T = none ∧ H' = upd H T (.tup [.int (i : Nat), x]) ∧ ∀ xs, SqT K H a xs → xs[i]? = some x, fun i H => ∃ xs : List V, SqT K H a xs ∧ xs.length ≤ i⟩
theorem turn_enumT {P : Program} {w : World} {K : PySem.W.Frag} {elts : List Expr} {kk : Nat} {tpos : Pos} (a e it : Addr) (hne : e ≠ it) (hea : e ≠ a) (hia : a ≠ it) :
    Turn P w K (.Tuple elts kk tpos) (IteT K a) [e, it] e (fun i h => (∃ old, IsEnum h e it ((i : Nat) : Int) old) ∧ h.IsTupleIter it a i) where
  mem := by simp
  obj := fun i h st b hb => by
    obtain ⟨⟨old, he⟩, ⟨o, ho, hc, hd⟩⟩ := st
    have e' : b = e ∨ b = it := by simpa using hb
    rcases e' with z | z
    · rw [z]; exact ⟨_, he, fun v q => nomatch q⟩
    · rw [z]; exact ⟨o, ho, fun v q => by rw [hd] at q; cases q⟩
  keep := fun i h h' st k => let ⟨⟨old, he⟩, hi⟩ := st; ⟨⟨old, k e (by simp) _ he⟩, hi.at fun o q => k it (by simp) o q⟩
  item := by
    intro X hP hw hK hc i pins s σ H E I hf st hg
    subst hP hw hK
    obtain ⟨⟨old, he⟩, hit⟩ := st
    obtain ⟨xs, x, hq, hx⟩ := hg
    obtain ⟨its, rv, p, hz⟩ := I.tuple hq
    obtain ⟨u, hu, ru⟩ := rv.get hx
    have hel : e < s.heap.objs.size := Heap.lt_size he
    have hil : it < s.heap.objs.size := by obtain ⟨_, q, _⟩ := hit; exact Heap.lt_size q
    have hlt : i < its.toArray.size := by
      have := (List.getElem?_eq_some_iff.mp hu).1
      simpa using this
    refine wpAny_pyNext_enum_itemD (Draws.tuple (A := X.A.in1) (I.ok.hd hc) it a hia its.toArray) he ⟨hit, p⟩ hlt hne (by simp [hne, hea]) fun x' h' tk hP ho hs' hT hsz hk => ?_
    have hxu : x' = u := by
      have h1 : its.toArray[i]? = some x' := hP
      rw [List.getElem?_toArray, hu] at h1
      exact (Option.some.inj h1).symm
    subst hxu
    refine ⟨_, rfl, wpAny_letOwnedTupleGo_enum (s := { s with heap := h', toks := tk + 1 }) ho fun h'' he' sb => ?_⟩
    have hT2 : h''.get? s.heap.objs.size = some { cls := .type "tuple", data := .seq #[.int i tk, x'] } := (sb.2 _ (Nat.ne_of_gt hel)).trans hT
    have new : ObjOk X.prog X.w (upd H s.heap.objs.size (.tup [.int (i : Nat), x])) h'' s.heap.objs.size (.tup [.int (i : Nat), x]) :=
      ⟨by show 2 ≤ sizeLine; decide, [.int i tk, x'], .cons ⟨_, rfl⟩ (.cons ru .nil), ⟨_, hT2, rfl, _, rfl⟩⟩
    have I1 : Inv X pins σ (upd H s.heap.objs.size (.tup [.int (i : Nat), x])) { s with heap := h'', toks := tk + 1 } :=
      I.turnedNew (ch := [e, it]) (fun b ob hb q => (sb.2 b (fun z => hb (by simp [z]))).trans (hk b ob (fun z => hb (by simp [z])) (fun z => hb (by simp [z])) q)) hf (Nat.le_refl _) new
    refine ⟨.ref s.heap.objs.size, _, I1, rfl, ⟨_, x, rfl, I.hok.fresh (Nat.le_refl _), rfl, fun ys hy => by rw [I.tuple_inj hy hq]; exact hx⟩, ⟨⟨x', ?_⟩, hs'.1.at fun o q => (sb.2 it (Ne.symm hne)).trans q⟩, fun b hb => ?_⟩
    · have e1 : ((i + 1 : Nat) : Int) = (i : Int) + 1 := by omega
      rw [e1]; exact he'
    · have hb' : b < s.heap.objs.size := by
        have e' : b = e ∨ b = it := by simpa using hb
        rcases e' with z | z
        · rw [z]; exact hel
        · rw [z]; exact hil
      rw [upd_ne (Nat.ne_of_lt hb')]
      exact (hf b hb).1
  done := by
    intro X hP hw hK hc i pins s σ H E I hf st hg
    subst hP hw hK
    obtain ⟨⟨old, he⟩, hit⟩ := st
    obtain ⟨xs, hq, hx⟩ := hg
    obtain ⟨its, rv, p, hz⟩ := I.tuple hq
    obtain ⟨f0, f1, f2, f3, f4, f5⟩ := hf it (by simp)
    have hl := rv.length
    have nn : its.toArray[i]? = none := by simp; omega
    have hT : s.TypeIs (.ref e) "enumerate" := ⟨_, he, rfl⟩
    unfold pyNext
    refine wpAny_bind (wpAny_attempt (wpAny_callSpecial?_slot (name := Str.ofString "__next__") hT F.slot_enumerate_next
      (wpAny_call_entry F.slot_enumerate_next hT F.entry_enumerate_next ?_ (F.args_enumerate_next_1 _))))
    show wpAny _ _ (field (.ref e) 2 >>= _) _ _ _
    refine wpAny_bind (wpAny_field he rfl (x := .ref it) rfl ?_)
    refine wpAny_bind (wpAny_nextOf_tuple_end (I.ok.hd hc) hit p nn fun h' x he' hx' => ?_)
    obtain ⟨o, ho, hc'⟩ := hx'
    refine wpAny_bind (wpAny_isInstance (T := "StopIteration") (b := true) ⟨o, ho, hc'⟩ isSubtype_stop ?_)
    exact wpAny_pure ⟨rfl, I.turned (t' := s.toks) (fun b o hb q => he' b o hb q) f0 f1 f3 f4 f5⟩
  self := fun A i s Q E st h => let ⟨⟨_, he⟩, _⟩ := st; wpAny_pyIter_enum he h
def iEnumA (K : PySem.W.Frag) (ta : TA) : TI := fun σ H R => ta σ H fun vs H1 => ∃ a xs, vs = [.ref a] ∧ ((SqL K H1 a xs ∧ R (Ite K a) H1) ∨ (SqT K H1 a xs ∧ R (IteT K a) H1))
theorem pi_enumA {X : Cx} {e : Expr} {ta : TA} {p pos tpos : Pos} {elts : List Expr} {kk : Nat} (hg : Gl X "enumerate") (hm : X.mg "enumerate" = none) (ha : PA X [e] ta) (hs : starEach [e] X.env = [(false, eval e X.env)] := by rfl) :
    PI X (.Tuple elts kk tpos) (.Call (.Name "enumerate" p) [e] [] pos) (iEnumA X.K ta) := by
  refine ⟨fun pins s σ H R I h => ?_⟩
  refine Call_ (ld_blt I hg hm boot_enumerate (PyProof.Rows.callWith_type1 (thn (ha.run pos pins s σ H _ I h) fun us s1 ⟨vs, H1, I1, r1, q1⟩ => ?_) hs rfl))
  obtain ⟨a, xs, ex, q1⟩ := q1
  subst ex
  cases r1 with
  | cons r rr =>
    cases rr
    cases r
    have fresh2 : ∀ b, b ∈ [s1.heap.objs.size + 1, s1.heap.objs.size] → FpOk X pins H1 b := fun b hb => by
      have e' : b = s1.heap.objs.size + 1 ∨ b = s1.heap.objs.size := by simpa using hb
      have hle : s1.heap.objs.size ≤ b := by
        rcases e' with z | z
        · rw [z]; exact Nat.le_add_right _ _
        · rw [z]; exact Nat.le_refl _
      exact I1.fpOk hle (I1.hok.fresh hle)
    rcases q1 with ⟨hq, q⟩ | ⟨hq, q⟩
    · obtain ⟨its, rv, p', hz⟩ := I1.list hq
      refine call_enumerate_list p'.isList fun h' he hit hsz hk => wpAny_pyIter_enum he ?_
      have I2 : Inv X pins σ H1 { s1 with heap := h' } := I1.kept (t' := s1.toks) hk
      exact ⟨s1.heap.objs.size + 1, [s1.heap.objs.size + 1, s1.heap.objs.size], _, _, H1, rfl, I2, turn_enum a (s1.heap.objs.size + 1) s1.heap.objs.size, ⟨⟨.none, he⟩, hit, Nat.succ_ne_self _⟩, fresh2, q⟩
    · obtain ⟨its, rv, p', hz⟩ := I1.tuple hq
      obtain ⟨o1, ho1, _⟩ := id p'
      have la := Heap.lt_size ho1
      refine mp_enum1 (begins_tuple a its.toArray) p' fun h' he hit hsz hk => wpAny_pyIter_enum he ?_
      have I2 : Inv X pins σ H1 { s1 with heap := h' } := I1.kept (t' := s1.toks) hk
      exact ⟨s1.heap.objs.size + 1, [s1.heap.objs.size + 1, s1.heap.objs.size], _, _, H1, rfl, I2, turn_enumT a (s1.heap.objs.size + 1) s1.heap.objs.size (Nat.succ_ne_self _) (Nat.ne_of_gt (Nat.lt_succ_of_lt la)) (Nat.ne_of_lt la), ⟨⟨.none, he⟩, ⟨_, hit, rfl, rfl⟩⟩, fresh2, q⟩

/-! ### series of new pairs -/
theorem enumL_get {xs : List PV} {i : Nat} {x : PV} (h : (enumL xs)[i]? = some x) : ∃ y, xs[i]? = some y ∧ x = .tup [.int (i : Nat), y] := by
  unfold enumL at h
  rw [List.getElem?_zipWith] at h
  by_cases hi : i < xs.length
  · rw [List.getElem?_range hi, List.getElem?_eq_getElem hi] at h
    exact ⟨xs[i], List.getElem?_eq_getElem hi, (Option.some.inj h).symm⟩
  · rw [List.getElem?_eq_none (by omega : xs.length ≤ i)] at h
    cases hr : (List.range xs.length)[i]? <;> rw [hr] at h <;> cases h
theorem enumL_len (xs : List PV) : (enumL xs).length = xs.length := by simp [enumL]
section
variable {as : List Addr} {K : PySem.W.Frag} {G H : Hp} {D : DS}
theorem ser_enumL {a : Addr} {vs : List V} {xs : List PV} {L : Hp → Hp → Prop} (hl : ∀ (more : List Addr) (G2 H2 : Hp) (D2 : DS), L G2 H2 → Wd (as ++ more) K G2 H2 D2 → SqL K H2 a vs ∧ TrS (as ++ more) K G2 vs xs) : Ser (Ite K a) as K (enumL xs) L := fun more G2 H2 D2 l w => by
  obtain ⟨sq, t⟩ := hl more G2 H2 D2 l w
  have e := t.len
  refine ⟨fun i hi => ⟨vs, vs[i]'(by rw [enumL_len] at hi; omega), sq, List.getElem?_eq_getElem (by rw [enumL_len] at hi; omega)⟩, fun i hi => ⟨vs, sq, by rw [enumL_len] at hi; omega⟩, fun i x v H' hx hy => ?_⟩
  obtain ⟨T, u, rfl, hT, rfl, hy⟩ := hy
  obtain ⟨y, e1, rfl⟩ := enumL_get hx
  obtain ⟨v', e2, t1⟩ := t.get e1
  have := hy vs sq
  rw [e2] at this
  cases this
  have st := Stp.new (as := as ++ more) (o := .tup [.int (i : Nat), u]) hT (w.free hT)
  exact ⟨_, st, w.new hT, .tup upd_same (.cons (.int _) (.cons (t1.up st.le) .nil))⟩
theorem ser_enumT {a : Addr} {vs : List V} {xs : List PV} {L : Hp → Hp → Prop} (hl : ∀ (more : List Addr) (G2 H2 : Hp) (D2 : DS), L G2 H2 → Wd (as ++ more) K G2 H2 D2 → SqT K H2 a vs ∧ TrS (as ++ more) K G2 vs xs) : Ser (IteT K a) as K (enumL xs) L := fun more G2 H2 D2 l w => by
  obtain ⟨sq, t⟩ := hl more G2 H2 D2 l w
  have e := t.len
  refine ⟨fun i hi => ⟨vs, vs[i]'(by rw [enumL_len] at hi; omega), sq, List.getElem?_eq_getElem (by rw [enumL_len] at hi; omega)⟩, fun i hi => ⟨vs, sq, by rw [enumL_len] at hi; omega⟩, fun i x v H' hx hy => ?_⟩
  obtain ⟨T, u, rfl, hT, rfl, hy⟩ := hy
  obtain ⟨y, e1, rfl⟩ := enumL_get hx
  obtain ⟨v', e2, t1⟩ := t.get e1
  have := hy vs sq
  rw [e2] at this
  cases this
  have st := Stp.new (as := as ++ more) (o := .tup [.int (i : Nat), u]) hT (w.free hT)
  exact ⟨_, st, w.new hT, .tup upd_same (.cons (.int _) (.cons (t1.up st.le) .nil))⟩
end
section
variable {T : Tb} {Φ : Fns} {N : List Str} {sc : Scope} {X : Cx} {e a b tg : Expr} {pos p tpos : Pos} {j kk : Nat} {ca cb : CE} {elts : List Expr}
theorem i_enum (g : Gd T Φ N sc X) (hg : sc.names.lookup ("enumerate" : Str) = some .globalImplicit) (hm : T.fr[j]? = some ("enumerate" : Str)) (ha : PV_ Φ X a ca) (hs : starEach [a] X.env = [(false, eval a X.env)] := by rfl) : PI_ Φ X (.Tuple elts kk tpos) (.Call (.Name "enumerate" p) [a] [] pos) (.enum ca) := by
  have hA : PA_ Φ X [a] (.cons ca .nil) := a_cons ha a_nil hs
  have hP := pi_strong (pi_enumA (p := p) (pos := pos) (tpos := tpos) (elts := elts) (kk := kk) (gl_of g hg) (g.fr j _ hm) hA hs)
  refine pi_imp hP fun σ H R ⟨as, G, ρ, D, xs, D', w, r, ee, f⟩ => ?_
  obtain ⟨⟨x, D1⟩, e1, ee⟩ := Option.bind_eq_some_iff.mp ee
  obtain ⟨ys, e2, ee⟩ := Option.map_eq_some_iff.mp ee
  cases ee
  refine ⟨as, G, ρ, D, [x], D1, w, r, by simp only [evs, e1, Option.bind_some, Option.map_some], fun vs G' H' st w' t => ?_⟩
  cases t with
  | cons t1 t2 =>
    cases t2
    cases x with
    | lst zs =>
      cases e2
      cases t1 with
      | lst hG ts => exact ⟨_, _, rfl, .inl ⟨.of (w'.sub _ _ hG), fun sz => f _ G' H' st w' (by rw [enumL_len, ← ts.len]; exact sz.1 _ _ (.of (w'.sub _ _ hG))) (ser_enumL fun more G2 H2 D2 l w2 => ⟨.of (w2.sub _ _ (l.lst hG)), ts.mono l more⟩)⟩⟩
    | tup zs =>
      cases e2
      cases t1 with
      | tup hG ts => exact ⟨_, _, rfl, .inr ⟨.of (w'.sub _ _ hG), fun sz => f _ G' H' st w' (by rw [enumL_len, ← ts.len]; exact sz.2 _ _ (.of (w'.sub _ _ hG))) (ser_enumT fun more G2 H2 D2 l w2 => ⟨.of (w2.sub _ _ (l.tup hG)), ts.mono l more⟩)⟩⟩
    | _ => cases e2
/-! ### zip -/
theorem zipL_get {xs ys : List PV} {i : Nat} {x : PV} (h : (zipL xs ys)[i]? = some x) : ∃ y z, xs[i]? = some y ∧ ys[i]? = some z ∧ x = .tup [y, z] := by
  unfold zipL at h
  rw [List.getElem?_zipWith] at h
  cases h1 : xs[i]? with
  | none => rw [h1] at h; cases h
  | some y =>
    cases h2 : ys[i]? with
    | none => rw [h1, h2] at h; cases h
    | some z => rw [h1, h2] at h; exact ⟨y, z, rfl, rfl, (Option.some.inj h).symm⟩
theorem zipL_len (xs ys : List PV) : (zipL xs ys).length = min xs.length ys.length := by simp [zipL]
theorem ser_zip {as : List Addr} {K : PySem.W.Frag} {a b : Addr} {us vs : List V} {xs ys : List PV} {L : Hp → Hp → Prop} (hl : ∀ (more : List Addr) (G2 H2 : Hp) (D2 : DS), L G2 H2 → Wd (as ++ more) K G2 H2 D2 → SqL K H2 a us ∧ SqL K H2 b vs ∧ TrS (as ++ more) K G2 us xs ∧ TrS (as ++ more) K G2 vs ys) : Ser (Itz K a b) as K (zipL xs ys) L := fun more G2 H2 D2 l w => by
  obtain ⟨sq, sq2, t, t2⟩ := hl more G2 H2 D2 l w
  have e := t.len
  have e2 := t2.len
  refine ⟨fun i hi => ⟨us, vs, us[i]'(by rw [zipL_len] at hi; omega), vs[i]'(by rw [zipL_len] at hi; omega), sq, sq2, List.getElem?_eq_getElem (by rw [zipL_len] at hi; omega), List.getElem?_eq_getElem (by rw [zipL_len] at hi; omega)⟩, fun i hi => ⟨us, vs, sq, sq2, by rw [zipL_len] at hi; omega⟩, fun i x v H' hx hy => ?_⟩
  obtain ⟨T, u, v, rfl, hT, rfl, hy, hy2⟩ := hy
  obtain ⟨y, z, q1, q2, rfl⟩ := zipL_get hx
  obtain ⟨u', e3, t3⟩ := t.get q1
  obtain ⟨v', e4, t4⟩ := t2.get q2
  have := hy us sq
  rw [e3] at this
  cases this
  have := hy2 vs sq2
  rw [e4] at this
  cases this
  have st := Stp.new (as := as ++ more) (o := .tup [u, v]) hT (w.free hT)
  exact ⟨_, st, w.new hT, .tup upd_same (.cons (t3.up st.le) (.cons (t4.up st.le) .nil))⟩
theorem ser_zipT {as : List Addr} {K : PySem.W.Frag} {a b : Addr} {us vs : List V} {xs ys : List PV} {L : Hp → Hp → Prop} (hl : ∀ (more : List Addr) (G2 H2 : Hp) (D2 : DS), L G2 H2 → Wd (as ++ more) K G2 H2 D2 → SqT K H2 a us ∧ SqT K H2 b vs ∧ TrS (as ++ more) K G2 us xs ∧ TrS (as ++ more) K G2 vs ys) : Ser (RZ.ItzT K a b) as K (zipL xs ys) L := fun more G2 H2 D2 l w => by
  obtain ⟨sq, sq2, t, t2⟩ := hl more G2 H2 D2 l w
  have e := t.len
  have e2 := t2.len
  refine ⟨fun i hi => ⟨us, vs, us[i]'(by rw [zipL_len] at hi; omega), vs[i]'(by rw [zipL_len] at hi; omega), sq, sq2, List.getElem?_eq_getElem (by rw [zipL_len] at hi; omega), List.getElem?_eq_getElem (by rw [zipL_len] at hi; omega)⟩, fun i hi => ⟨us, vs, sq, sq2, by rw [zipL_len] at hi; omega⟩, fun i x v H' hx hy => ?_⟩
  obtain ⟨T, u, v, rfl, hT, rfl, hy, hy2⟩ := hy
  obtain ⟨y, z, q1, q2, rfl⟩ := zipL_get hx
  obtain ⟨u', e3, t3⟩ := t.get q1
  obtain ⟨v', e4, t4⟩ := t2.get q2
  have := hy us sq
  rw [e3] at this
  cases this
  have := hy2 vs sq2
  rw [e4] at this
  cases this
  have st := Stp.new (as := as ++ more) (o := .tup [u, v]) hT (w.free hT)
  exact ⟨_, st, w.new hT, .tup upd_same (.cons (t3.up st.le) (.cons (t4.up st.le) .nil))⟩
theorem i_zip (g : Gd T Φ N sc X) (hg : sc.names.lookup ("zip" : Str) = some .globalImplicit) (hm : T.fr[j]? = some ("zip" : Str)) (ha : PV_ Φ X a ca) (hb : PV_ Φ X b cb)
    (hs : starEach [a, b] X.env = (false, eval a X.env) :: starEach [b] X.env := by rfl) (hs2 : starEach [b] X.env = (false, eval b X.env) :: starEach [] X.env := by rfl) (hpl : (backTo pos (starEach [b] X.env)).any (·.1) = false := by rfl) :
    PI_ Φ X (.Tuple elts kk tpos) (.Call (.Name "zip" p) [a, b] [] pos) (.zip ca cb) := by
  have hA : PA_ Φ X [a, b] (.cons ca (.cons cb .nil)) := a_cons ha (a_cons hb a_nil hs2) hs
  have hP := pi_strong (RZ.pi_zipA (p := p) (pos := pos) (tpos := tpos) (elts := elts) (kk := kk) (gl_of g hg) (g.fr j _ hm) hA hs hpl)
  refine pi_imp hP fun σ H R ⟨as, G, ρ, D, xs, D', w, r, ee, f⟩ => ?_
  obtain ⟨⟨x, D1⟩, e1, ee⟩ := Option.bind_eq_some_iff.mp ee
  obtain ⟨⟨y, D2⟩, e3, ee⟩ := Option.bind_eq_some_iff.mp ee
  obtain ⟨zx, e2, ee⟩ := Option.map_eq_some_iff.mp ee
  cases ee
  refine ⟨as, G, ρ, D, [x, y], D2, w, r, by simp only [evs, e1, e3, Option.bind_some, Option.map_some], fun vs G' H' st w' t => ?_⟩
  cases t with
  | cons t1 t2 =>
    cases t2 with
    | cons t2 t3 =>
      cases t3
      cases x with
      | lst xs =>
        cases y with
        | lst ys =>
          cases e2
          cases t1 with
          | lst hG ts =>
            cases t2 with
            | lst hG2 ts2 => exact ⟨_, _, _, _, rfl, .inl ⟨.of (w'.sub _ _ hG), .of (w'.sub _ _ hG2), fun sz => f _ G' H' st w' (by
                have := sz.1 _ _ (.of (w'.sub _ _ hG))
                rw [zipL_len, ← ts.len]; exact Nat.le_trans (Nat.min_le_left _ _) this) (ser_zip fun more G2 H2 D2 l w2 => ⟨.of (w2.sub _ _ (l.lst hG)), .of (w2.sub _ _ (l.lst hG2)), ts.mono l more, ts2.mono l more⟩)⟩⟩
        | _ => cases e2
      | tup xs =>
        cases y with
        | tup ys =>
          cases e2
          cases t1 with
          | tup hG ts =>
            cases t2 with
            | tup hG2 ts2 => exact ⟨_, _, _, _, rfl, .inr ⟨.of (w'.sub _ _ hG), .of (w'.sub _ _ hG2), fun sz => f _ G' H' st w' (by
                have := sz.2 _ _ (.of (w'.sub _ _ hG))
                rw [zipL_len, ← ts.len]; exact Nat.le_trans (Nat.min_le_left _ _) this) (ser_zipT fun more G2 H2 D2 l w2 => ⟨.of (w2.sub _ _ (l.tup hG)), .of (w2.sub _ _ (l.tup hG2)), ts.mono l more, ts2.mono l more⟩)⟩⟩
        | _ => cases e2
      | _ => cases e2
end
end MP

/-! MP ge: more rules as the printer takes them. -/
namespace MP
open PySem PySem.Spec PyProof.Rows L2
section
variable {T : Tb} {Φ : Fns} {N : List Str} {sc : Scope} {X : Cx} {e a b k f tg : Expr} {pos p np : Pos} {i : Nat} {x : Str} {c ck ca cb : CE}
theorem gs_ext {apos cpos : Pos} (g : Gd T Φ N sc X) (he : PV_ Φ X e c) (h : varB N sc i x = true := by decide +kernel)
    (hbase : attributeBase (.Name x np) "extend" X.env (eval (.Name x np) X.env) = eval (.Name x np) X.env := by rfl)
    (hfew : ((backTo cpos (starEach [e] X.env)).all (fun x => !x.1) && (backToKw cpos (keywordEach [] X.env)).all (fun x => x.1.isSome) && decide (([e] : List Expr).length + ([] : List Keyword).length + (if ([] : List Keyword).isEmpty then 0 else 1) < 30)) = true := by rfl)
    (hline : (apos.endLine == cpos.line) = true := by rfl) (hs : starEach [e] X.env = (false, eval e X.env) :: starEach [] X.env := by rfl) : PS_ Φ X (.Expr (.Call (.Attribute (.Name x np) "extend" apos) [e] [] cpos) pos) (.ext i c) :=
  let ⟨h1, h2, h3, h4⟩ := varB_of h; s_ext g h1 h2 he hbase hfew hline hs rfl rfl h3 h4
theorem gs_ins {apos cpos : Pos} (g : Gd T Φ N sc X) (hk : PV_ Φ X k ck) (he : PV_ Φ X e c) (h : varB N sc i x = true := by decide +kernel)
    (hbase : attributeBase (.Name x np) "insert" X.env (eval (.Name x np) X.env) = eval (.Name x np) X.env := by rfl)
    (hfew : ((backTo cpos (starEach [k, e] X.env)).all (fun x => !x.1) && (backToKw cpos (keywordEach [] X.env)).all (fun x => x.1.isSome) && decide (([k, e] : List Expr).length + ([] : List Keyword).length + (if ([] : List Keyword).isEmpty then 0 else 1) < 30)) = true := by rfl)
    (hline : (apos.endLine == cpos.line) = true := by rfl) (hs : starEach [k, e] X.env = (false, eval k X.env) :: starEach [e] X.env := by rfl) (hs2 : starEach [e] X.env = (false, eval e X.env) :: starEach [] X.env := by rfl) (hplain : (backTo cpos (starEach [e] X.env)).any (·.1) = false := by rfl) : PS_ Φ X (.Expr (.Call (.Attribute (.Name x np) "insert" apos) [k, e] [] cpos) pos) (.ins i ck c) :=
  let ⟨h1, h2, h3, h4⟩ := varB_of h; s_ins g h1 h2 hk he hbase hfew hline hs hs2 hplain rfl h3 h4
theorem gs_rem {apos cpos : Pos} (g : Gd T Φ N sc X) (he : PV_ Φ X e c) (h : varB N sc i x = true := by decide +kernel)
    (hbase : attributeBase (.Name x np) "remove" X.env (eval (.Name x np) X.env) = eval (.Name x np) X.env := by rfl)
    (hfew : ((backTo cpos (starEach [e] X.env)).all (fun x => !x.1) && (backToKw cpos (keywordEach [] X.env)).all (fun x => x.1.isSome) && decide (([e] : List Expr).length + ([] : List Keyword).length + (if ([] : List Keyword).isEmpty then 0 else 1) < 30)) = true := by rfl)
    (hline : (apos.endLine == cpos.line) = true := by rfl) (hs : starEach [e] X.env = (false, eval e X.env) :: starEach [] X.env := by rfl) : PS_ Φ X (.Expr (.Call (.Attribute (.Name x np) "remove" apos) [e] [] cpos) pos) (.rem i c) :=
  let ⟨h1, h2, h3, h4⟩ := varB_of h; s_rem g h1 h2 he hbase hfew hline hs rfl rfl h3 h4
theorem gs_pop {apos cpos : Pos} {pt : Pat} (g : Gd T Φ N sc X) (hp : PP_ X tg pt) (h : varB N sc i x = true := by decide +kernel)
    (hbase : attributeBase (.Name x np) "pop" X.env (eval (.Name x np) X.env) = eval (.Name x np) X.env := by rfl) (hline : (apos.endLine == cpos.line) = true := by rfl)
    (hs : swapsWithSole [tg] (.Call (.Attribute (.Name x np) "pop" apos) [] [] cpos) pos.line X.env = pure false := by rfl) (hw : swappedStores [tg] (.Call (.Attribute (.Name x np) "pop" apos) [] [] cpos) X.env = pure none := by rfl)
    (h1 : (assignEach [tg] X.env).map (·.2) = [assign tg X.env] := by rfl) : PS_ Φ X (.Assign [tg] (.Call (.Attribute (.Name x np) "pop" apos) [] [] cpos) pos) (.pop pt i) :=
  let ⟨q1, q2, q3, q4⟩ := varB_of h; s_pop g q1 q2 hp hbase hline hs hw h1 q3 q4
theorem gs_pop0 {apos cpos zp : Pos} {j : Nat} {pt : Pat} (g : Gd T Φ N sc X) (hp : PP_ X tg pt) (h : varB N sc i x = true := by decide +kernel)
    (hbase : attributeBase (.Name x np) "pop" X.env (eval (.Name x np) X.env) = eval (.Name x np) X.env := by rfl)
    (hfew : ((backTo cpos (starEach [.Constant (.int 0) j zp] X.env)).all (fun x => !x.1) && (backToKw cpos (keywordEach [] X.env)).all (fun x => x.1.isSome) && decide (([.Constant (.int 0) j zp] : List Expr).length + ([] : List Keyword).length + (if ([] : List Keyword).isEmpty then 0 else 1) < 30)) = true := by rfl)
    (hline : (apos.endLine == cpos.line) = true := by rfl) (hst : starEach [.Constant (.int 0) j zp] X.env = (false, eval (.Constant (.int 0) j zp) X.env) :: starEach [] X.env := by rfl)
    (hs : swapsWithSole [tg] (.Call (.Attribute (.Name x np) "pop" apos) [.Constant (.int 0) j zp] [] cpos) pos.line X.env = pure false := by rfl) (hw : swappedStores [tg] (.Call (.Attribute (.Name x np) "pop" apos) [.Constant (.int 0) j zp] [] cpos) X.env = pure none := by rfl)
    (h1 : (assignEach [tg] X.env).map (·.2) = [assign tg X.env] := by rfl) : PS_ Φ X (.Assign [tg] (.Call (.Attribute (.Name x np) "pop" apos) [.Constant (.int 0) j zp] [] cpos) pos) (.pop0 pt i) :=
  let ⟨q1, q2, q3, q4⟩ := varB_of h; s_pop0 g q1 q2 hp hbase hfew hline hst rfl hs hw h1 q3 q4
theorem gie {elts : List Expr} {kk : Nat} {tpos : Pos} (g : Gd T Φ N sc X) (j : Nat) (ha : PV_ Φ X a ca) (h : gloB T sc j "enumerate" = true := by decide +kernel) (hs : starEach [a] X.env = [(false, eval a X.env)] := by rfl) : PI_ Φ X (.Tuple elts kk tpos) (.Call (.Name "enumerate" p) [a] [] pos) (.enum ca) :=
  let ⟨h1, h2, _, _⟩ := gloB_of h; i_enum g h2 h1 ha hs
theorem giz {elts : List Expr} {kk : Nat} {tpos : Pos} (g : Gd T Φ N sc X) (j : Nat) (ha : PV_ Φ X a ca) (hb : PV_ Φ X b cb) (h : gloB T sc j "zip" = true := by decide +kernel)
    (hs : starEach [a, b] X.env = (false, eval a X.env) :: starEach [b] X.env := by rfl) (hs2 : starEach [b] X.env = (false, eval b X.env) :: starEach [] X.env := by rfl) (hpl : (backTo pos (starEach [b] X.env)).any (·.1) = false := by rfl) :
    PI_ Φ X (.Tuple elts kk tpos) (.Call (.Name "zip" p) [a, b] [] pos) (.zip ca cb) :=
  let ⟨h1, h2, _, _⟩ := gloB_of h; i_zip g h2 h1 ha hb hs hs2 hpl
/-! ### list(range(n)), tuple(range(n)) -/
theorem one_int {ρ : Envi} {D D' : DS} {ca : CE} {y : PV} {bi : Bi} (hbi : ∀ z x, pBi bi [x] = some z → ∃ n, x = .int n) (ee : ev Φ (.bi bi (.cons ca .nil)) ρ D = some (y, D')) : ∃ x n, ev Φ ca ρ D = some (x, D') ∧ opd D' x = some (.int n) ∧ pBi bi [.int n] = some y := by
  obtain ⟨⟨ws, D1⟩, e1, ee⟩ := Option.bind_eq_some_iff.mp ee
  obtain ⟨ys, e2, ee⟩ := Option.bind_eq_some_iff.mp ee
  obtain ⟨z, e3, ee⟩ := Option.map_eq_some_iff.mp ee
  cases ee
  obtain ⟨⟨x, D2⟩, e4, e5⟩ := Option.bind_eq_some_iff.mp (show (ev Φ ca ρ D).bind (fun r => (evs Φ .nil ρ r.2).map fun q => (r.1 :: q.1, q.2)) = some (ws, _) from e1)
  obtain ⟨⟨zs, D3⟩, e6, e7⟩ := Option.map_eq_some_iff.mp e5
  have e6 : some (([] : List PV), D2) = some (zs, D3) := e6
  cases e6
  cases e7
  obtain ⟨x', e8, e9⟩ := Option.bind_eq_some_iff.mp (show (opd _ x).bind (fun y => (mapO (opd _) []).bind fun ys => some (y :: ys)) = some ys from e2)
  have e9 : some [x'] = some ys := e9
  cases e9
  obtain ⟨n, rfl⟩ := hbi _ _ e3
  exact ⟨x, n, e4, e8, e3⟩
theorem opd_int' {as : List Addr} {K : PySem.W.Frag} {G H : Hp} {D : DS} {x : PV} {n : Int} (w : Wd as K G H D) (h : opd D x = some (.int n)) : x = .int n := by
  cases x with
  | shr j =>
    exfalso
    obtain ⟨y, h1, h2⟩ := Option.map_eq_some_iff.mp (show (D[j]?).map _ = some (PV.int n) from h)
    have hj := (List.getElem?_eq_some_iff.mp h1).1
    have ha : as[j]? = some (as[j]'(by rw [w.len]; exact hj)) := List.getElem?_eq_getElem _
    have o := w.sh j _ y ha h1
    cases y with
    | lck z =>
      have : z = .int n := h2
      subst this
      exact o
    | int z => exact o
    | _ => cases h2
  | _ => first | exact Option.some.inj h | cases h
theorem f_lrg {q : Pos} (g : Gd T Φ N sc X) (j j2 : Nat) (ha : PV_ Φ X a ca) (h : gloB T sc j "list" = true := by decide +kernel) (h' : gloB T sc j2 "range" = true := by decide +kernel) {p2 : Pos}
    (na : starEach [a] X.env = (false, eval a X.env) :: starEach [] X.env := by rfl) (na2 : starEach [.Call (.Name "range" p2) [a] [] q] X.env = (false, eval (.Call (.Name "range" p2) [a] [] q) X.env) :: starEach [] X.env := by rfl) :
    PF_ Φ X (.Call (.Name "list" p) [.Call (.Name "range" p2) [a] [] q] [] pos) (.bi .listRange (.cons ca .nil)) := by
  obtain ⟨h1, h2, _, _⟩ := gloB_of h
  obtain ⟨k1, k2, _, _⟩ := gloB_of h'
  refine pe_imp (pe_listRg (p := p) g.calm (gl_of g h2) (g.fr j _ h1) (prg_1 (p := p2) (pos := q) (gl_of g k2) (g.fr j2 _ k1) ha na) na2) fun σ H Q ⟨as, G, ρ, D, y, D', w, r, ee, f⟩ => ?_
  obtain ⟨x, n, e1, e2, e3⟩ := one_int (fun z x hz => by
    cases x <;> first | exact ⟨_, rfl⟩ | cases hz) ee
  refine ⟨as, G, ρ, D, x, D', w, r, e1, fun v G1 H1 st1 w1 t1 => ?_⟩
  obtain rfl := opd_int' w1 e2
  cases t1
  have e3' : (if n ≤ LIM ∧ -LIM ≤ n then some (PV.lst ((List.range n.toNat).map fun (k : Nat) => .int k)) else none) = some y := e3
  split at e3'
  case isFalse => cases e3'
  rename_i hl
  cases e3'
  have hL : ((LIM : Nat) : Int) = 1000000 := rfl
  refine ⟨n, rfl, ⟨by omega, by omega, by omega, by omega, by omega⟩, fun p hp => f p G1 _ (st1.trans (Stp.own hp)) (w1.ownp hp) (none_back st1 hp) (w1.free hp) ⟨_, upd_same, ?_⟩⟩
  have : rgV 0 n = (List.range n.toNat).map fun (k : Nat) => V.int k := by
    unfold rgV; simp
  rw [this]
  have t := TrS.ints (as := as) (K := X.K) (G := G1) ((List.range n.toNat).map fun (k : Nat) => (k : Int))
  rw [List.map_map, List.map_map] at t
  exact t

/-! ### x in range(a, b) -/
theorem intOf_some {x : PV} {i : Int} (h : intOf x = some i) : x = .int i := by
  cases x <;> first | (cases h; rfl) | cases h
theorem inr_ok {cx ca cb : CE} {σ : L2.St} {H : Hp} {Q : VK} {ev_ : List Expr} (h : ∃ as G ρ D y D', Wd as X.K G H D ∧ Rp as X.K G H σ ρ ∧ ev Φ (.inr cx ca cb) ρ D = some (y, D') ∧ ∀ G' H', Stp as G H G' H' → Wd as X.K G' H' D' → ∀ b, y = .bl b → Q (.bl b) H') :
    tOp (fun x y H Q => ∃ i a lo hi, x = V.int i ∧ y = V.ref a ∧ H a = some (.rng lo hi) ∧ Q (.bl (decide (lo ≤ i ∧ i < hi))) H) (tE X.K Φ cx) (tCB (fun vs H Q => ∃ i j, vs = [V.int i, V.int j] ∧ ∀ p, H p = none → Q (.ref p) (upd H p (.rng i j))) (tA X.K Φ (.cons ca (.cons cb .nil)))) σ H Q := by
  obtain ⟨as, G, ρ, D, y, D', w, r, ee, f⟩ := h
  obtain ⟨⟨x, D1⟩, e1, ee⟩ := Option.bind_eq_some_iff.mp ee
  obtain ⟨⟨a, D2⟩, e2, ee⟩ := Option.bind_eq_some_iff.mp ee
  obtain ⟨⟨b, D3⟩, e3, ee⟩ := Option.bind_eq_some_iff.mp ee
  obtain ⟨i, e4, ee⟩ := Option.bind_eq_some_iff.mp ee
  obtain ⟨m, e5, ee⟩ := Option.bind_eq_some_iff.mp ee
  obtain ⟨n, e6, ee⟩ := Option.map_eq_some_iff.mp ee
  cases ee
  obtain rfl := intOf_some e4
  obtain rfl := intOf_some e5
  obtain rfl := intOf_some e6
  refine ⟨as, G, ρ, D, _, D1, w, r, e1, fun v G1 H1 st1 w1 t1 => ?_⟩
  cases t1
  refine ⟨as, G1, ρ, D1, [.int m, .int n], D3, w1, r.up st1, by simp only [evs, e2, e3, Option.bind_some, Option.map_some], fun vs G2 H2 st2 w2 t2 => ?_⟩
  cases t2 with
  | cons t2 t3 =>
    cases t3 with
    | cons t3 t4 =>
      cases t4
      cases t2
      cases t3
      exact ⟨m, n, rfl, fun p hp => ⟨i, p, m, n, rfl, rfl, upd_same, f G2 _ ((st1.trans st2).trans (Stp.own hp)) (w2.ownp hp) _ rfl⟩⟩
theorem t_inr {q : Pos} {cx : CE} (g : Gd T Φ N sc X) (j : Nat) (hx : PV_ Φ X e cx) (ha : PV_ Φ X a ca) (hb : PV_ Φ X b cb) (h : gloB T sc j "range" = true := by decide +kernel)
    (hs : starEach [a, b] X.env = (false, eval a X.env) :: starEach [b] X.env := by rfl) (hs2 : starEach [b] X.env = (false, eval b X.env) :: starEach [] X.env := by rfl) (hpl : (backTo q (starEach [b] X.env)).any (·.1) = false := by rfl) (hm : behindInMarks .In (.Call (.Name "range" p) [a, b] [] q) = false := by with_unfolding_all rfl) :
    PT_ Φ X (.Compare e [.In] [.Call (.Name "range" p) [a, b] [] q] pos) (.inr cx ca cb) := by
  obtain ⟨h1, h2, _, _⟩ := gloB_of h
  have hA : PA_ Φ X [a, b] (.cons ca (.cons cb .nil)) := a_cons ha (a_cons hb a_nil hs2) hs
  have hr := pe_callTy (pos := q) (p := p) (x := "range") cr_range2 (gl_of g h2) (g.fr j _ h1) (show bootBuiltins "range" = some (.type "range") by decide +kernel) hA (by decide) (by decide) hs hpl
  refine pt_imp (pt_cmpR op_in_rng hx hr hm) fun σ H Q ⟨as, G, ρ, D, y, D', w, r, ee, f⟩ => inr_ok (ev_ := []) ⟨as, G, ρ, D, .bl y, D', w, r, ee, fun G' H' st w' b hb => ?_⟩
  cases hb
  exact ⟨_, rfl, f G' H' st w'⟩
end
end MP

/-! MP hd: a def of the text, for the head. -/
namespace MP
open PySem PySem.Spec PyProof.Rows L2

theorem fn_step {T : Tb} {defs : List Def} {P : Program} {w : World} {K : PySem.W.Frag} {mg : Str → Option Value} {base : Heap} {n : Nat} (ih : Alls T defs P w K mg base n)
    (hfr : ∀ (j : Nat) (x : Str), T.fr[j]? = some x → mg x = none) (hcs : ∀ (j : Nat) (x s : Str), T.cs[j]? = some (x, s) → ∃ t, mg x = some (.str s t))
    {g : Nat} {f : Addr} {fd : FuncData} {ps N : List Str} {x qual : Str} {params : Arguments} {body : List Stmt} {scope : Scope} {kws : List (Str × V)} {cs : CSs} (F : FunD K x qual params body scope [] kws f fd) (S : FnScope N ps scope)
    (e : defs[g]? = some ⟨N.length, ps.length, cs⟩) (hb : ∀ (Φ : Fns) (X : Cx), Gd T Φ N scope X → (∀ x, X.fn x = true) → PSs_ Φ X body cs) : FnOk P w K mg base CX0 (n + 1) f fd ps (spOf K (sem defs (n + 1) g) ps.length) := by
  refine F.ok S (fun vs H Q E q => q.1) fun cdv A outer s H vs Q E hr ⟨hlen, as, G, D, xs, r, D', wd, t, er, fin⟩ => ⟨sSs K (sem defs n) cs, PSs.nox (hb _ _ ?_ fun _ => rfl), ?_⟩
  · exact ⟨rfl, rfl, S.nd, rfl, rfl, by have := hr.un; show (A.deeper _).units + 65 < cLine; omega, fun g' x' m' h' => by
      obtain ⟨f', fd', ps', q1, q2, q3, q4⟩ := ih g' x' m' h'
      exact ⟨n, f', fd', ps', q1, q2, q3, hr, q4⟩, hfr, hcs⟩
  · have er' : (defs[g]?).bind (fun d => d.run (sem defs n) xs D) = some (r, D') := er
    rw [e] at er'
    have hpl : ps.length ≤ N.length := by have := congrArg List.length S.pre; rw [List.length_take] at this; omega
    exact run_ok (T := T) hpl wd t hlen er' fin
/-- a law: true at every script -/
theorem law_sp {K : PySem.W.Frag} {φ : List PV → DS → Option (PV × DS)} {n : Nat} (h : ∀ ns : List Int, ns.length ≤ n → ∃ D, φ [.scr ns] [] = some (.bl true, D)) (H : Hp) (a : Addr) (ns : List Int) (hl : ns.length ≤ n) (ho : Only H) (hS : SqL K H a (ns.map V.int)) :
    spOf K φ 1 [.ref a] H (fun v _ => v = .bl true) fun _ _ _ => False := by
  obtain ⟨D, e⟩ := h ns hl
  refine ⟨rfl, [], H, [], [.scr ns], .bl true, D, ⟨fun _ _ h => h, List.nodup_nil, rfl, fun a h => absurd h (by simp), fun j a x h => by simp at h⟩, .cons (.scr hS) .nil, e, fun v G' H' _ _ t => ?_⟩
  cases t
  rfl
end MP

namespace MP.K02
open PySem PySem.Spec PyProof.Rows L2 MP
def pw_ : Program := PySem.Challenge.pw_toolslent_k02_bookings_kept
def top (i : Nat) : Stmt := (PySem.Challenge.pw_toolslent_k02_bookings_kept).main.body.getD i (.Pass ⟨0, 0, 0, 0⟩)
def TT : Tb := { fns := [("is_number", 1), ("is_from", 2), ("is_tuple_of", 2), ("all_rows", 1), ("are_bookings", 1), ("there_on", 2), ("handed_out", 2), ("is_handed", 3), ("overlap", 2), ("fewest_tools", 1), ("with_fixed", 3), ("can_have", 4), ("most_kept", 2), ("by_ends", 2), ("days_kept", 2), ("free_spans", 4), ("first_free", 4), ("moved_least", 4), ("late_spread", 4), ("_law_draws", 2), ("_law_next", 2), ("_law_pick", 2), ("_law_alike", 2), ("_law_rows", 2), ("_law_there", 2), ("_law_good", 2), ("_law_most", 1), ("_law_sets", 1), ("_law_handed", 2), ("_law_spread", 4), ("law", 1)], fr := ["abs", "all", "any", "bool", "dict", "int", "isinstance", "len", "list", "max", "min", "range", "set", "sorted", "str", "sum", "tuple"], cs := [] }
def N_f_is_number : List Str := [("thing" : Str)]
def c_f_is_number : CSs := (.cons (.ret (.and_ (.cons (.isi .tint (.var 0)) (.cons (.not_ (.isi .tbool (.var 0))) .nil))))
 .nil)
theorem w_f_is_number {Φ : Fns} {X : Cx} (g : Gd TT Φ N_f_is_number (defScope (top 1)) X) (hF : ∀ x, X.fn x = true) : PSs_ Φ X (defBody (top 1)) c_f_is_number := (ss_cons (s_ret (v_and (g_isi .tint g 6 5 (v_o (gv g))) (v_and1 (v_not (g_isi .tbool g 6 3 (v_o (gv g)))))))
 ss_nil)
def N_f_is_from : List Str := [("thing" : Str), ("least" : Str)]
def c_f_is_from : CSs := (.cons (.ret (.and_ (.cons (.call 0 (.cons (.var 0) .nil)) (.cons (.cmp .ge (.var 0) (.var 1)) .nil))))
 .nil)
theorem w_f_is_from {Φ : Fns} {X : Cx} (g : Gd TT Φ N_f_is_from (defScope (top 2)) X) (hF : ∀ x, X.fn x = true) : PSs_ Φ X (defBody (top 2)) c_f_is_from := (ss_cons (s_ret (v_and (g_call g 0 (a_cons (gv g) a_nil)) (v_and1 (v_cmp (op := .ge) g (v_o (gv g)) (v_o (gv g))))))
 ss_nil)
def N_f_is_tuple_of : List Str := [("thing" : Str), ("many" : Str)]
def c_f_is_tuple_of : CSs := (.cons (.ret (.and_ (.cons (.isi .ttup (.var 0)) (.cons (.cmp .eq (.bi .len (.cons (.var 0) .nil)) (.var 1)) .nil))))
 .nil)
theorem w_f_is_tuple_of {Φ : Fns} {X : Cx} (g : Gd TT Φ N_f_is_tuple_of (defScope (top 3)) X) (hF : ∀ x, X.fn x = true) : PSs_ Φ X (defBody (top 3)) c_f_is_tuple_of := (ss_cons (s_ret (v_and (g_isi .ttup g 6 16 (v_o (gv g))) (v_and1 (v_cmp (op := .eq) g (v_o (g_len g 7 (v_o (gv g)))) (v_o (gv g))))))
 ss_nil)
def N_f_all_rows : List Str := [("sizes" : Str), ("rows" : Str), ("size" : Str), ("row" : Str), ("k" : Str)]
def c_f_all_rows : CSs := (.cons (.asg false 1 (.lst (.cons (.tup .nil) .nil)))
 (.cons (.for_ (.nm 2) (.over (.var 0)) (.cons (.asg false 1 (.lc2 [3, 4] (.bin .add (.var 3) (.tup (.cons (.var 4) .nil))) (.nm 3) (.over (.var 1)) .nil [4] (.nm 4) (.rng1 (.var 2)) .nil))
 .nil))
 (.cons (.ret (.var 1))
 .nil)))
theorem w_f_all_rows {Φ : Fns} {X : Cx} (g : Gd TT Φ N_f_all_rows (defScope (top 4)) X) (hF : ∀ x, X.fn x = true) : PSs_ Φ X (defBody (top 4)) c_f_all_rows := (ss_cons (gs_asg g hF (f_v (f_lst (a_cons (v_tup a_nil) a_nil))))
 (ss_cons (s_for g (i_over (gv g)) (gp g (hf := .inl (hF _))) (ss_cons (s_ofV (g_lc2S [("row", 3), ("k", 4)] [4] g (i_j (i_over (gv g))) (fun s1 H1 C1 l1 f1 => (gp (Gd.blk g s1 H1 _ C1 l1 f1))) (fun s1 H1 C1 l1 f1 => ts_nil) (fun s1 H1 C1 l1 f1 => (gi1 (Gd.blk g s1 H1 _ C1 l1 f1) 11 (gv (Gd.blk g s1 H1 _ C1 l1 f1)))) (fun s1 H1 C1 l1 f1 => (gp (Gd.blk g s1 H1 _ C1 l1 f1))) (fun s1 H1 C1 l1 f1 => ts_nil) (fun s1 H1 C1 l1 f1 => (v_bin (op := .add) (v_o (gv (Gd.blk g s1 H1 _ C1 l1 f1))) (v_o (v_tup (a_cons (gv (Gd.blk g s1 H1 _ C1 l1 f1)) a_nil)))))))
 ss_nil))
 (ss_cons (s_ret (gv g))
 ss_nil)))
def N_f_are_bookings : List Str := [("thing" : Str), ("begin" : Str), ("end" : Str), ("one" : Str)]
def c_f_are_bookings : CSs := (.cons (.ife (.or_ (.cons (.not_ (.isi .ttup (.var 0))) (.cons (.not_ (.bi .all (.cons (.lc1 [3] (.call 2 (.cons (.var 3) (.cons (.int 2) .nil))) (.nm 3) (.over (.var 0)) .nil) .nil))) .nil))) (.cons (.ret (.bl false))
 .nil) .nil)
 (.cons (.ret (.bi .all (.cons (.lc1 [1, 2] (.and_ (.cons (.call 1 (.cons (.var 1) (.cons (.int 0) .nil))) (.cons (.call 1 (.cons (.var 2) (.cons (.int 0) .nil))) (.cons (.cmp .lt (.var 1) (.var 2)) .nil)))) (.tp [(.nm 1), (.nm 2)]) (.over (.var 0)) .nil) .nil)))
 .nil))
theorem w_f_are_bookings {Φ : Fns} {X : Cx} (g : Gd TT Φ N_f_are_bookings (defScope (top 6)) X) (hF : ∀ x, X.fn x = true) : PSs_ Φ X (defBody (top 6)) c_f_are_bookings := (ss_cons (s_if (w_t (w_or (t_not (t_val (g_isi .ttup g 6 16 (v_o (gv g))))) (w_or1 (t_not (t_val (g_all g 1 (v_o (f_v (g_lc1 [("one", 3)] g (i_j (i_over (gv g))) (fun s1 H1 C1 l1 f1 => (gp (Gd.blk g s1 H1 _ C1 l1 f1))) (fun s1 H1 C1 l1 f1 => ts_nil) (fun s1 H1 C1 l1 f1 => (g_call (Gd.blk g s1 H1 _ C1 l1 f1) 2 (a_cons (gv (Gd.blk g s1 H1 _ C1 l1 f1)) (a_cons v_int a_nil))))))))))))) (ss_cons (s_ret v_bl)
 ss_nil) ss_nil)
 (ss_cons (s_ret (g_all g 1 (v_o (f_v (g_lc1 [("begin", 1), ("end", 2)] g (i_j (i_over (gv g))) (fun s1 H1 C1 l1 f1 => (p_tp (Gd.blk g s1 H1 _ C1 l1 f1) (ps_cons' (gp (Gd.blk g s1 H1 _ C1 l1 f1)) (ps_cons' (gp (Gd.blk g s1 H1 _ C1 l1 f1)) ps_nil')))) (fun s1 H1 C1 l1 f1 => ts_nil) (fun s1 H1 C1 l1 f1 => (v_and (g_call (Gd.blk g s1 H1 _ C1 l1 f1) 1 (a_cons (gv (Gd.blk g s1 H1 _ C1 l1 f1)) (a_cons v_int a_nil))) (v_and (g_call (Gd.blk g s1 H1 _ C1 l1 f1) 1 (a_cons (gv (Gd.blk g s1 H1 _ C1 l1 f1)) (a_cons v_int a_nil))) (v_and1 (v_cmp (op := .lt) (Gd.blk g s1 H1 _ C1 l1 f1) (v_o (gv (Gd.blk g s1 H1 _ C1 l1 f1))) (v_o (gv (Gd.blk g s1 H1 _ C1 l1 f1)))))))))))))
 ss_nil))
def N_f_there_on : List Str := [("bookings" : Str), ("day" : Str), ("k" : Str)]
def c_f_there_on : CSs := (.cons (.ret (.bi .tuple (.cons (.lc1 [2] (.var 2) (.nm 2) (.rng1 (.bi .len (.cons (.var 0) .nil))) (.cons (.chn .le .lt (.idx (.idx (.var 0) (.var 2)) (.int 0)) (.var 1) (.idx (.idx (.var 0) (.var 2)) (.int 1))) .nil)) .nil)))
 .nil)
theorem w_f_there_on {Φ : Fns} {X : Cx} (g : Gd TT Φ N_f_there_on (defScope (top 7)) X) (hF : ∀ x, X.fn x = true) : PSs_ Φ X (defBody (top 7)) c_f_there_on := (ss_cons (s_ret (g_tuple g 16 (v_o (f_v (g_lc1 [("k", 2)] g (i_j (gi1 g 11 (g_len g 7 (v_o (gv g))))) (fun s1 H1 C1 l1 f1 => (gp (Gd.blk g s1 H1 _ C1 l1 f1))) (fun s1 H1 C1 l1 f1 => (ts_one (t_chn (op := .le) (op2 := .lt) (Gd.blk g s1 H1 _ C1 l1 f1) (v_o (v_idx (Gd.blk g s1 H1 _ C1 l1 f1) (v_o (v_idx (Gd.blk g s1 H1 _ C1 l1 f1) (v_o (gv (Gd.blk g s1 H1 _ C1 l1 f1))) (v_o (gv (Gd.blk g s1 H1 _ C1 l1 f1))))) (v_o v_int))) (v_o (gv (Gd.blk g s1 H1 _ C1 l1 f1))) (v_o (v_idx (Gd.blk g s1 H1 _ C1 l1 f1) (v_o (v_idx (Gd.blk g s1 H1 _ C1 l1 f1) (v_o (gv (Gd.blk g s1 H1 _ C1 l1 f1))) (v_o (gv (Gd.blk g s1 H1 _ C1 l1 f1))))) (v_o v_int)))))) (fun s1 H1 C1 l1 f1 => (gv (Gd.blk g s1 H1 _ C1 l1 f1))))))))
 ss_nil)
def N_f_handed_out : List Str := [("bookings" : Str), ("tools" : Str), ("day" : Str), ("found" : Str), ("begin" : Str), ("k" : Str), ("taken" : Str), ("j" : Str), ("tool" : Str), ("_" : Str)]
def c_f_handed_out : CSs := (.cons (.for_ (.nm 2) (.over (.bi .sortedSet (.cons (.lc1 [4, 9] (.var 4) (.tp [(.nm 4), (.nm 9)]) (.over (.var 0)) .nil) .nil))) (.cons (.ife (.cmp .gt (.bi .len (.cons (.call 5 (.cons (.var 0) (.cons (.var 2) .nil))) .nil)) (.var 1)) (.cons (.ret (.tup (.cons (.str "no") (.cons (.var 2) (.cons (.call 5 (.cons (.var 0) (.cons (.var 2) .nil))) .nil)))))
 .nil) .nil)
 .nil))
 (.cons (.asg true 3 (.bin .rep (.lst (.cons .non .nil)) (.bi .len (.cons (.var 0) .nil))))
 (.cons (.for_ (.tp [(.nm 4), (.nm 5)]) (.over (.bi .sorted (.cons (.lc1 [5] (.tup (.cons (.idx (.idx (.var 0) (.var 5)) (.int 0)) (.cons (.var 5) .nil))) (.nm 5) (.rng1 (.bi .len (.cons (.var 0) .nil))) .nil) .nil))) (.cons (.asg false 6 (.lc1 [7] (.idx (.bor 3) (.var 7)) (.nm 7) (.over (.call 5 (.cons (.var 0) (.cons (.var 4) .nil)))) (.cons (.cmp .isn (.idx (.bor 3) (.var 7)) .non) .nil)))
 (.cons (.setI 3 (.var 5) (.idx (.lc1 [8] (.var 8) (.nm 8) (.rng1 (.var 1)) (.cons (.cmp .nin (.var 8) (.var 6)) .nil)) (.int 0)))
 .nil)))
 (.cons (.ret (.tup (.cons (.str "yes") (.cons (.bi .tuple (.cons (.bor 3) .nil)) .nil))))
 .nil))))
theorem w_f_handed_out {Φ : Fns} {X : Cx} (g : Gd TT Φ N_f_handed_out (defScope (top 8)) X) (hF : ∀ x, X.fn x = true) : PSs_ Φ X (defBody (top 8)) c_f_handed_out := (ss_cons (s_for g (i_over (f_v (g_sset g 13 12 (v_o (f_v (g_lc1 [("begin", 4), ("_", 9)] g (i_j (i_over (gv g))) (fun s1 H1 C1 l1 f1 => (p_tp (Gd.blk g s1 H1 _ C1 l1 f1) (ps_cons' (gp (Gd.blk g s1 H1 _ C1 l1 f1)) (ps_cons' (gp (Gd.blk g s1 H1 _ C1 l1 f1)) ps_nil')))) (fun s1 H1 C1 l1 f1 => ts_nil) (fun s1 H1 C1 l1 f1 => (gv (Gd.blk g s1 H1 _ C1 l1 f1))))))))) (gp g (hf := .inl (hF _))) (ss_cons (s_if (t_cmp (op := .gt) g (v_o (g_len g 7 (v_o (g_call g 5 (a_cons (gv g) (a_cons (gv g) a_nil)))))) (v_o (gv g))) (ss_cons (s_ret (v_tup (a_cons v_str (a_cons (gv g) (a_cons (g_call g 5 (a_cons (gv g) (a_cons (gv g) a_nil))) a_nil)))))
 ss_nil) ss_nil)
 ss_nil))
 (ss_cons (gs_asgF g hF (f_rep (v_o (f_v (f_lst (a_cons v_non a_nil)))) (v_o (g_len g 7 (v_o (gv g))))))
 (ss_cons (s_for g (i_over (f_v (g_sorted g 13 (v_o (f_v (g_lc1 [("k", 5)] g (i_j (gi1 g 11 (g_len g 7 (v_o (gv g))))) (fun s1 H1 C1 l1 f1 => (gp (Gd.blk g s1 H1 _ C1 l1 f1))) (fun s1 H1 C1 l1 f1 => ts_nil) (fun s1 H1 C1 l1 f1 => (v_tup (a_cons (v_idx (Gd.blk g s1 H1 _ C1 l1 f1) (v_o (v_idx (Gd.blk g s1 H1 _ C1 l1 f1) (v_o (gv (Gd.blk g s1 H1 _ C1 l1 f1))) (v_o (gv (Gd.blk g s1 H1 _ C1 l1 f1))))) (v_o v_int)) (a_cons (gv (Gd.blk g s1 H1 _ C1 l1 f1)) a_nil)))))))))) (p_tp g (ps_cons' (gp g (hf := .inl (hF _))) (ps_cons' (gp g (hf := .inl (hF _))) ps_nil'))) (ss_cons (gs_asg g hF (f_v (g_lc1 [("j", 7)] g (i_j (i_over (g_call g 5 (a_cons (gv g) (a_cons (gv g) a_nil))))) (fun s1 H1 C1 l1 f1 => (gp (Gd.blk g s1 H1 _ C1 l1 f1))) (fun s1 H1 C1 l1 f1 => (ts_one (t_cmp (op := .isn) (Gd.blk g s1 H1 _ C1 l1 f1) (v_o (v_idx (Gd.blk g s1 H1 _ C1 l1 f1) (gb (Gd.blk g s1 H1 _ C1 l1 f1)) (v_o (gv (Gd.blk g s1 H1 _ C1 l1 f1))))) (v_o v_non)))) (fun s1 H1 C1 l1 f1 => (v_idx (Gd.blk g s1 H1 _ C1 l1 f1) (gb (Gd.blk g s1 H1 _ C1 l1 f1)) (v_o (gv (Gd.blk g s1 H1 _ C1 l1 f1))))))) (hs := by rw [sw_dE g.sc]; rfl))
 (ss_cons (gs_setI g (v_idx g (v_o (f_v (g_lc1 [("tool", 8)] g (i_j (gi1 g 11 (gv g))) (fun s1 H1 C1 l1 f1 => (gp (Gd.blk g s1 H1 _ C1 l1 f1))) (fun s1 H1 C1 l1 f1 => (ts_one (t_cmp (op := .nin) (Gd.blk g s1 H1 _ C1 l1 f1) (v_o (gv (Gd.blk g s1 H1 _ C1 l1 f1))) (v_o (gv (Gd.blk g s1 H1 _ C1 l1 f1)))))) (fun s1 H1 C1 l1 f1 => (gv (Gd.blk g s1 H1 _ C1 l1 f1)))))) (v_o v_int)) (gv g))
 ss_nil)))
 (ss_cons (s_ret (v_tup (a_cons v_str (a_cons (g_tuple g 16 (gb g)) a_nil))))
 ss_nil))))
def N_f_is_handed : List Str := [("bookings" : Str), ("tools" : Str), ("thing" : Str), ("j" : Str), ("i" : Str), ("one" : Str)]
def c_f_is_handed : CSs := (.cons (.ife (.or_ (.cons (.not_ (.isi .ttup (.var 2))) (.cons (.cmp .ne (.bi .len (.cons (.var 2) .nil)) (.bi .len (.cons (.var 0) .nil))) .nil))) (.cons (.ret (.bl false))
 .nil) .nil)
 (.cons (.ife (.not_ (.bi .all (.cons (.lc1 [5] (.and_ (.cons (.call 1 (.cons (.var 5) (.cons (.int 0) .nil))) (.cons (.cmp .lt (.var 5) (.var 1)) .nil))) (.nm 5) (.over (.var 2)) .nil) .nil))) (.cons (.ret (.bl false))
 .nil) .nil)
 (.cons (.for_ (.nm 3) (.rng1 (.bi .len (.cons (.var 0) .nil))) (.cons (.for_ (.nm 4) (.rng1 (.var 3)) (.cons (.ife (.and_ (.cons (.cmp .eq (.idx (.var 2) (.var 4)) (.idx (.var 2) (.var 3))) (.cons (.call 8 (.cons (.idx (.var 0) (.var 4)) (.cons (.idx (.var 0) (.var 3)) .nil))) .nil))) (.cons (.ret (.bl false))
 .nil) .nil)
 .nil))
 .nil))
 (.cons (.ret (.bl true))
 .nil))))
theorem w_f_is_handed {Φ : Fns} {X : Cx} (g : Gd TT Φ N_f_is_handed (defScope (top 9)) X) (hF : ∀ x, X.fn x = true) : PSs_ Φ X (defBody (top 9)) c_f_is_handed := (ss_cons (s_if (w_t (w_or (t_not (t_val (g_isi .ttup g 6 16 (v_o (gv g))))) (w_or1 (t_cmp (op := .ne) g (v_o (g_len g 7 (v_o (gv g)))) (v_o (g_len g 7 (v_o (gv g)))))))) (ss_cons (s_ret v_bl)
 ss_nil) ss_nil)
 (ss_cons (s_if (t_not (t_val (g_all g 1 (v_o (f_v (g_lc1 [("one", 5)] g (i_j (i_over (gv g))) (fun s1 H1 C1 l1 f1 => (gp (Gd.blk g s1 H1 _ C1 l1 f1))) (fun s1 H1 C1 l1 f1 => ts_nil) (fun s1 H1 C1 l1 f1 => (v_and (g_call (Gd.blk g s1 H1 _ C1 l1 f1) 1 (a_cons (gv (Gd.blk g s1 H1 _ C1 l1 f1)) (a_cons v_int a_nil))) (v_and1 (v_cmp (op := .lt) (Gd.blk g s1 H1 _ C1 l1 f1) (v_o (gv (Gd.blk g s1 H1 _ C1 l1 f1))) (v_o (gv (Gd.blk g s1 H1 _ C1 l1 f1))))))))))))) (ss_cons (s_ret v_bl)
 ss_nil) ss_nil)
 (ss_cons (s_for g (gi1 g 11 (g_len g 7 (v_o (gv g)))) (gp g (hf := .inl (hF _))) (ss_cons (s_for g (gi1 g 11 (gv g)) (gp g (hf := .inl (hF _))) (ss_cons (s_if (w_t (w_and (t_cmp (op := .eq) g (v_o (v_idx g (v_o (gv g)) (v_o (gv g)))) (v_o (v_idx g (v_o (gv g)) (v_o (gv g))))) (w_and1 (t_val (g_call g 8 (a_cons (v_idx g (v_o (gv g)) (v_o (gv g))) (a_cons (v_idx g (v_o (gv g)) (v_o (gv g))) a_nil))))))) (ss_cons (s_ret v_bl)
 ss_nil) ss_nil)
 ss_nil))
 ss_nil))
 (ss_cons (s_ret v_bl)
 ss_nil))))
def N_f_overlap : List Str := [("one" : Str), ("other" : Str)]
def c_f_overlap : CSs := (.cons (.ret (.cmp .lt (.bi .max (.cons (.idx (.var 0) (.int 0)) (.cons (.idx (.var 1) (.int 0)) .nil))) (.bi .min (.cons (.idx (.var 0) (.int 1)) (.cons (.idx (.var 1) (.int 1)) .nil)))))
 .nil)
theorem w_f_overlap {Φ : Fns} {X : Cx} (g : Gd TT Φ N_f_overlap (defScope (top 10)) X) (hF : ∀ x, X.fn x = true) : PSs_ Φ X (defBody (top 10)) c_f_overlap := (ss_cons (s_ret (v_cmp (op := .lt) g (v_o (g_max2 g 9 (v_o (v_idx g (v_o (gv g)) (v_o v_int))) (v_o (v_idx g (v_o (gv g)) (v_o v_int))))) (v_o (g_min2 g 10 (v_o (v_idx g (v_o (gv g)) (v_o v_int))) (v_o (v_idx g (v_o (gv g)) (v_o v_int)))))))
 ss_nil)
def N_f_fewest_tools : List Str := [("bookings" : Str), ("begin" : Str), ("_" : Str)]
def c_f_fewest_tools : CSs := (.cons (.ret (.bi .max (.cons (.bin .add (.lst (.cons (.int 0) .nil)) (.lc1 [1, 2] (.bi .len (.cons (.call 5 (.cons (.var 0) (.cons (.var 1) .nil))) .nil)) (.tp [(.nm 1), (.nm 2)]) (.over (.var 0)) .nil)) .nil)))
 .nil)
theorem w_f_fewest_tools {Φ : Fns} {X : Cx} (g : Gd TT Φ N_f_fewest_tools (defScope (top 11)) X) (hF : ∀ x, X.fn x = true) : PSs_ Φ X (defBody (top 11)) c_f_fewest_tools := (ss_cons (s_ret (g_max g 9 (v_o (v_bin (op := .add) (v_o (f_v (f_lst (a_cons v_int a_nil)))) (v_o (f_v (g_lc1 [("begin", 1), ("_", 2)] g (i_j (i_over (gv g))) (fun s1 H1 C1 l1 f1 => (p_tp (Gd.blk g s1 H1 _ C1 l1 f1) (ps_cons' (gp (Gd.blk g s1 H1 _ C1 l1 f1)) (ps_cons' (gp (Gd.blk g s1 H1 _ C1 l1 f1)) ps_nil')))) (fun s1 H1 C1 l1 f1 => ts_nil) (fun s1 H1 C1 l1 f1 => (g_len (Gd.blk g s1 H1 _ C1 l1 f1) 7 (v_o (g_call (Gd.blk g s1 H1 _ C1 l1 f1) 5 (a_cons (gv (Gd.blk g s1 H1 _ C1 l1 f1)) (a_cons (gv (Gd.blk g s1 H1 _ C1 l1 f1)) a_nil)))))))))))))
 ss_nil)
def N_f_with_fixed : List Str := [("bookings" : Str), ("tools" : Str), ("fixed" : Str), ("rows" : Str), ("k" : Str), ("able" : Str), ("row" : Str), ("tool" : Str)]
def c_f_with_fixed : CSs := (.cons (.asg false 3 (.lst (.cons (.tup .nil) .nil)))
 (.cons (.for_ (.nm 4) (.rng1 (.bi .len (.cons (.var 0) .nil))) (.cons (.asg false 5 (.ite (.cmp .in_ (.var 4) (.var 2)) (.lst (.cons (.idx (.var 2) (.var 4)) .nil)) (.bi .listRange (.cons (.var 1) .nil))))
 (.cons (.asg false 3 (.lc2 [6, 7] (.bin .add (.var 6) (.tup (.cons (.var 7) .nil))) (.nm 6) (.over (.var 3)) .nil [7] (.nm 7) (.over (.var 5)) (.cons (.call 11 (.cons (.var 0) (.cons (.var 6) (.cons (.var 4) (.cons (.var 7) .nil))))) .nil)))
 (.cons (.ife (.cmp .eq (.var 3) (.lst .nil)) (.cons (.ret .non)
 .nil) .nil)
 .nil))))
 (.cons (.ret (.idx (.var 3) (.int 0)))
 .nil)))
theorem w_f_with_fixed {Φ : Fns} {X : Cx} (g : Gd TT Φ N_f_with_fixed (defScope (top 12)) X) (hF : ∀ x, X.fn x = true) : PSs_ Φ X (defBody (top 12)) c_f_with_fixed := (ss_cons (gs_asg g hF (f_v (f_lst (a_cons (v_tup a_nil) a_nil))))
 (ss_cons (s_for g (gi1 g 11 (g_len g 7 (v_o (gv g)))) (gp g (hf := .inl (hF _))) (ss_cons (gs_asg g hF (v_ite (t_cmp (op := .in_) g (v_o (gv g)) (v_o (gv g))) (f_v (f_lst (a_cons (v_idx g (v_o (gv g)) (v_o (gv g))) a_nil))) (f_v (f_lrg g 8 11 (gv g)))))
 (ss_cons (s_ofV (g_lc2S [("row", 6), ("tool", 7)] [7] g (i_j (i_over (gv g))) (fun s1 H1 C1 l1 f1 => (gp (Gd.blk g s1 H1 _ C1 l1 f1))) (fun s1 H1 C1 l1 f1 => ts_nil) (fun s1 H1 C1 l1 f1 => (i_over (gv (Gd.blk g s1 H1 _ C1 l1 f1)))) (fun s1 H1 C1 l1 f1 => (gp (Gd.blk g s1 H1 _ C1 l1 f1))) (fun s1 H1 C1 l1 f1 => (ts_one (t_val (g_call (Gd.blk g s1 H1 _ C1 l1 f1) 11 (a_cons (gv (Gd.blk g s1 H1 _ C1 l1 f1)) (a_cons (gv (Gd.blk g s1 H1 _ C1 l1 f1)) (a_cons (gv (Gd.blk g s1 H1 _ C1 l1 f1)) (a_cons (gv (Gd.blk g s1 H1 _ C1 l1 f1)) a_nil)))))))) (fun s1 H1 C1 l1 f1 => (v_bin (op := .add) (v_o (gv (Gd.blk g s1 H1 _ C1 l1 f1))) (v_o (v_tup (a_cons (gv (Gd.blk g s1 H1 _ C1 l1 f1)) a_nil)))))))
 (ss_cons (s_if (t_cmp (op := .eq) g (v_o (gv g)) (v_o (f_v (f_lst a_nil)))) (ss_cons (s_ret v_non)
 ss_nil) ss_nil)
 ss_nil))))
 (ss_cons (s_ret (v_idx g (v_o (gv g)) (v_o v_int)))
 ss_nil)))
def N_f_can_have : List Str := [("bookings" : Str), ("row" : Str), ("k" : Str), ("tool" : Str), ("j" : Str)]
def c_f_can_have : CSs := (.cons (.ret (.not_ (.bi .any (.cons (.lc1 [4] (.and_ (.cons (.cmp .eq (.idx (.var 1) (.var 4)) (.var 3)) (.cons (.call 8 (.cons (.idx (.var 0) (.var 4)) (.cons (.idx (.var 0) (.var 2)) .nil))) .nil))) (.nm 4) (.rng1 (.var 2)) .nil) .nil))))
 .nil)
theorem w_f_can_have {Φ : Fns} {X : Cx} (g : Gd TT Φ N_f_can_have (defScope (top 13)) X) (hF : ∀ x, X.fn x = true) : PSs_ Φ X (defBody (top 13)) c_f_can_have := (ss_cons (s_ret (v_not (g_any g 2 (v_o (f_v (g_lc1 [("j", 4)] g (i_j (gi1 g 11 (gv g))) (fun s1 H1 C1 l1 f1 => (gp (Gd.blk g s1 H1 _ C1 l1 f1))) (fun s1 H1 C1 l1 f1 => ts_nil) (fun s1 H1 C1 l1 f1 => (v_and (v_cmp (op := .eq) (Gd.blk g s1 H1 _ C1 l1 f1) (v_o (v_idx (Gd.blk g s1 H1 _ C1 l1 f1) (v_o (gv (Gd.blk g s1 H1 _ C1 l1 f1))) (v_o (gv (Gd.blk g s1 H1 _ C1 l1 f1))))) (v_o (gv (Gd.blk g s1 H1 _ C1 l1 f1)))) (v_and1 (g_call (Gd.blk g s1 H1 _ C1 l1 f1) 8 (a_cons (v_idx (Gd.blk g s1 H1 _ C1 l1 f1) (v_o (gv (Gd.blk g s1 H1 _ C1 l1 f1))) (v_o (gv (Gd.blk g s1 H1 _ C1 l1 f1)))) (a_cons (v_idx (Gd.blk g s1 H1 _ C1 l1 f1) (v_o (gv (Gd.blk g s1 H1 _ C1 l1 f1))) (v_o (gv (Gd.blk g s1 H1 _ C1 l1 f1)))) a_nil))))))))))))
 ss_nil)
def N_f_most_kept : List Str := [("bookings" : Str), ("tools" : Str), ("rows" : Str), ("k" : Str), ("found" : Str), ("row" : Str)]
def c_f_most_kept : CSs := (.cons (.asg false 2 (.lst (.cons (.tup .nil) .nil)))
 (.cons (.for_ (.nm 3) (.rng1 (.bi .len (.cons (.var 0) .nil))) (.cons (.asg false 2 (.bin .add (.var 2) (.lc1 [5] (.bin .add (.var 5) (.tup (.cons (.var 3) .nil))) (.nm 5) (.over (.var 2)) .nil)))
 .nil))
 (.cons (.asg false 4 (.lc1 [5] (.tup (.cons (.neg (.bi .len (.cons (.var 5) .nil))) (.cons (.var 5) .nil))) (.nm 5) (.over (.var 2)) (.cons (.cmp .le (.call 9 (.cons (.bi .tuple (.cons (.lc1 [3] (.idx (.var 0) (.var 3)) (.nm 3) (.over (.var 5)) .nil) .nil)) .nil)) (.var 1)) .nil)))
 (.cons (.ret (.tup (.cons (.neg (.idx (.bi .min (.cons (.var 4) .nil)) (.int 0))) (.cons (.idx (.bi .min (.cons (.var 4) .nil)) (.int 1)) .nil))))
 .nil))))
theorem w_f_most_kept {Φ : Fns} {X : Cx} (g : Gd TT Φ N_f_most_kept (defScope (top 14)) X) (hF : ∀ x, X.fn x = true) : PSs_ Φ X (defBody (top 14)) c_f_most_kept := (ss_cons (gs_asg g hF (f_v (f_lst (a_cons (v_tup a_nil) a_nil))))
 (ss_cons (s_for g (gi1 g 11 (g_len g 7 (v_o (gv g)))) (gp g (hf := .inl (hF _))) (ss_cons (gs_asg g hF (v_bin (op := .add) (v_o (gv g)) (v_o (f_v (g_lc1 [("row", 5)] g (i_j (i_over (gv g))) (fun s1 H1 C1 l1 f1 => (gp (Gd.blk g s1 H1 _ C1 l1 f1))) (fun s1 H1 C1 l1 f1 => ts_nil) (fun s1 H1 C1 l1 f1 => (v_bin (op := .add) (v_o (gv (Gd.blk g s1 H1 _ C1 l1 f1))) (v_o (v_tup (a_cons (gv (Gd.blk g s1 H1 _ C1 l1 f1)) a_nil))))))))))
 ss_nil))
 (ss_cons (s_ofV (g_lc1S [("row", 5)] g (i_j (i_over (gv g))) (fun s1 H1 C1 l1 f1 => (gp (Gd.blk g s1 H1 _ C1 l1 f1))) (fun s1 H1 C1 l1 f1 => (ts_one (t_cmp (op := .le) (Gd.blk g s1 H1 _ C1 l1 f1) (v_o (g_call (Gd.blk g s1 H1 _ C1 l1 f1) 9 (a_cons (g_tuple (Gd.blk g s1 H1 _ C1 l1 f1) 16 (v_o (f_v (g_lc1 [("k", 3)] (Gd.blk g s1 H1 _ C1 l1 f1) (i_j (i_over (gv (Gd.blk g s1 H1 _ C1 l1 f1)))) (fun s2 H2 C2 l2 f2 => (gp (Gd.blk (Gd.blk g s1 H1 _ C1 l1 f1) s2 H2 _ C2 l2 f2))) (fun s2 H2 C2 l2 f2 => ts_nil) (fun s2 H2 C2 l2 f2 => (v_idx (Gd.blk (Gd.blk g s1 H1 _ C1 l1 f1) s2 H2 _ C2 l2 f2) (v_o (gv (Gd.blk (Gd.blk g s1 H1 _ C1 l1 f1) s2 H2 _ C2 l2 f2))) (v_o (gv (Gd.blk (Gd.blk g s1 H1 _ C1 l1 f1) s2 H2 _ C2 l2 f2))))))))) a_nil))) (v_o (gv (Gd.blk g s1 H1 _ C1 l1 f1)))))) (fun s1 H1 C1 l1 f1 => (v_tup (a_cons (v_neg (v_o (g_len (Gd.blk g s1 H1 _ C1 l1 f1) 7 (v_o (gv (Gd.blk g s1 H1 _ C1 l1 f1)))))) (a_cons (gv (Gd.blk g s1 H1 _ C1 l1 f1)) a_nil))))))
 (ss_cons (s_ret (v_tup (a_cons (v_neg (v_o (v_idx g (v_o (g_min g 10 (v_o (gv g)))) (v_o v_int)))) (a_cons (v_idx g (v_o (g_min g 10 (v_o (gv g)))) (v_o v_int)) a_nil))))
 ss_nil))))
def N_f_by_ends : List Str := [("bookings" : Str), ("tools" : Str), ("found" : Str), ("_" : Str), ("k" : Str), ("j" : Str)]
def c_f_by_ends : CSs := (.cons (.asg true 2 (.lst .nil))
 (.cons (.for_ (.tp [(.nm 3), (.nm 4)]) (.over (.bi .sorted (.cons (.lc1 [4] (.tup (.cons (.idx (.idx (.var 0) (.var 4)) (.int 1)) (.cons (.var 4) .nil))) (.nm 4) (.rng1 (.bi .len (.cons (.var 0) .nil))) .nil) .nil))) (.cons (.ife (.cmp .le (.call 9 (.cons (.bi .tuple (.cons (.lc1 [5] (.idx (.var 0) (.var 5)) (.nm 5) (.over (.bin .add (.bor 2) (.lst (.cons (.var 4) .nil)))) .nil) .nil)) .nil)) (.var 1)) (.cons (.app 2 (.var 4))
 .nil) .nil)
 .nil))
 (.cons (.ret (.bi .tuple (.cons (.bi .sorted (.cons (.bor 2) .nil)) .nil)))
 .nil)))
theorem w_f_by_ends {Φ : Fns} {X : Cx} (g : Gd TT Φ N_f_by_ends (defScope (top 15)) X) (hF : ∀ x, X.fn x = true) : PSs_ Φ X (defBody (top 15)) c_f_by_ends := (ss_cons (gs_asgF g hF (f_lst a_nil))
 (ss_cons (s_for g (i_over (f_v (g_sorted g 13 (v_o (f_v (g_lc1 [("k", 4)] g (i_j (gi1 g 11 (g_len g 7 (v_o (gv g))))) (fun s1 H1 C1 l1 f1 => (gp (Gd.blk g s1 H1 _ C1 l1 f1))) (fun s1 H1 C1 l1 f1 => ts_nil) (fun s1 H1 C1 l1 f1 => (v_tup (a_cons (v_idx (Gd.blk g s1 H1 _ C1 l1 f1) (v_o (v_idx (Gd.blk g s1 H1 _ C1 l1 f1) (v_o (gv (Gd.blk g s1 H1 _ C1 l1 f1))) (v_o (gv (Gd.blk g s1 H1 _ C1 l1 f1))))) (v_o v_int)) (a_cons (gv (Gd.blk g s1 H1 _ C1 l1 f1)) a_nil)))))))))) (p_tp g (ps_cons' (gp g (hf := .inl (hF _))) (ps_cons' (gp g (hf := .inl (hF _))) ps_nil'))) (ss_cons (s_if (t_cmp (op := .le) g (v_o (g_call g 9 (a_cons (g_tuple g 16 (v_o (f_v (g_lc1 [("j", 5)] g (i_j (i_over (v_bin (op := .add) (gb g) (v_o (f_v (f_lst (a_cons (gv g) a_nil))))))) (fun s1 H1 C1 l1 f1 => (gp (Gd.blk g s1 H1 _ C1 l1 f1))) (fun s1 H1 C1 l1 f1 => ts_nil) (fun s1 H1 C1 l1 f1 => (v_idx (Gd.blk g s1 H1 _ C1 l1 f1) (v_o (gv (Gd.blk g s1 H1 _ C1 l1 f1))) (v_o (gv (Gd.blk g s1 H1 _ C1 l1 f1))))))))) a_nil))) (v_o (gv g))) (ss_cons (gs_app g (gv g))
 ss_nil) ss_nil)
 ss_nil))
 (ss_cons (s_ret (g_tuple g 16 (v_o (f_v (g_sorted g 13 (gb g))))))
 ss_nil)))
def N_f_days_kept : List Str := [("bookings" : Str), ("tools" : Str), ("rows" : Str), ("k" : Str), ("found" : Str), ("row" : Str), ("own" : Str), ("begin" : Str), ("end" : Str)]
def c_f_days_kept : CSs := (.cons (.asg false 2 (.lst (.cons (.tup .nil) .nil)))
 (.cons (.for_ (.nm 3) (.rng1 (.bi .len (.cons (.var 0) .nil))) (.cons (.asg false 2 (.bin .add (.var 2) (.lc1 [5] (.bin .add (.var 5) (.tup (.cons (.var 3) .nil))) (.nm 5) (.over (.var 2)) .nil)))
 .nil))
 (.cons (.asg true 4 (.lst .nil))
 (.cons (.for_ (.nm 5) (.over (.var 2)) (.cons (.asg false 6 (.bi .tuple (.cons (.lc1 [3] (.idx (.var 0) (.var 3)) (.nm 3) (.over (.var 5)) .nil) .nil)))
 (.cons (.ife (.cmp .le (.call 9 (.cons (.var 6) .nil)) (.var 1)) (.cons (.app 4 (.tup (.cons (.neg (.bi .sum (.cons (.lc1 [7, 8] (.bin .sub (.var 8) (.var 7)) (.tp [(.nm 7), (.nm 8)]) (.over (.var 6)) .nil) .nil))) (.cons (.var 5) .nil))))
 .nil) .nil)
 .nil)))
 (.cons (.ret (.tup (.cons (.neg (.idx (.bi .min (.cons (.bor 4) .nil)) (.int 0))) (.cons (.idx (.bi .min (.cons (.bor 4) .nil)) (.int 1)) .nil))))
 .nil)))))
theorem w_f_days_kept {Φ : Fns} {X : Cx} (g : Gd TT Φ N_f_days_kept (defScope (top 16)) X) (hF : ∀ x, X.fn x = true) : PSs_ Φ X (defBody (top 16)) c_f_days_kept := (ss_cons (gs_asg g hF (f_v (f_lst (a_cons (v_tup a_nil) a_nil))))
 (ss_cons (s_for g (gi1 g 11 (g_len g 7 (v_o (gv g)))) (gp g (hf := .inl (hF _))) (ss_cons (gs_asg g hF (v_bin (op := .add) (v_o (gv g)) (v_o (f_v (g_lc1 [("row", 5)] g (i_j (i_over (gv g))) (fun s1 H1 C1 l1 f1 => (gp (Gd.blk g s1 H1 _ C1 l1 f1))) (fun s1 H1 C1 l1 f1 => ts_nil) (fun s1 H1 C1 l1 f1 => (v_bin (op := .add) (v_o (gv (Gd.blk g s1 H1 _ C1 l1 f1))) (v_o (v_tup (a_cons (gv (Gd.blk g s1 H1 _ C1 l1 f1)) a_nil))))))))))
 ss_nil))
 (ss_cons (gs_asgF g hF (f_lst a_nil))
 (ss_cons (s_for g (i_over (gv g)) (gp g (hf := .inl (hF _))) (ss_cons (gs_asg g hF (g_tuple g 16 (v_o (f_v (g_lc1 [("k", 3)] g (i_j (i_over (gv g))) (fun s1 H1 C1 l1 f1 => (gp (Gd.blk g s1 H1 _ C1 l1 f1))) (fun s1 H1 C1 l1 f1 => ts_nil) (fun s1 H1 C1 l1 f1 => (v_idx (Gd.blk g s1 H1 _ C1 l1 f1) (v_o (gv (Gd.blk g s1 H1 _ C1 l1 f1))) (v_o (gv (Gd.blk g s1 H1 _ C1 l1 f1))))))))))
 (ss_cons (s_if (t_cmp (op := .le) g (v_o (g_call g 9 (a_cons (gv g) a_nil))) (v_o (gv g))) (ss_cons (gs_app g (v_tup (a_cons (v_neg (v_o (g_sum g 15 (v_o (f_v (g_lc1 [("begin", 7), ("end", 8)] g (i_j (i_over (gv g))) (fun s1 H1 C1 l1 f1 => (p_tp (Gd.blk g s1 H1 _ C1 l1 f1) (ps_cons' (gp (Gd.blk g s1 H1 _ C1 l1 f1)) (ps_cons' (gp (Gd.blk g s1 H1 _ C1 l1 f1)) ps_nil')))) (fun s1 H1 C1 l1 f1 => ts_nil) (fun s1 H1 C1 l1 f1 => (v_bin (op := .sub) (v_o (gv (Gd.blk g s1 H1 _ C1 l1 f1))) (v_o (gv (Gd.blk g s1 H1 _ C1 l1 f1))))))))))) (a_cons (gv g) a_nil))))
 ss_nil) ss_nil)
 ss_nil)))
 (ss_cons (s_ret (v_tup (a_cons (v_neg (v_o (v_idx g (v_o (g_min g 10 (gb g))) (v_o v_int)))) (a_cons (v_idx g (v_o (g_min g 10 (gb g))) (v_o v_int)) a_nil))))
 ss_nil)))))
def N_f_free_spans : List Str := [("bookings" : Str), ("tools" : Str), ("first" : Str), ("last" : Str), ("found" : Str), ("day" : Str)]
def c_f_free_spans : CSs := (.cons (.asg true 4 (.lst .nil))
 (.cons (.for_ (.nm 5) (.rng2 (.var 2) (.bin .add (.var 3) (.int 1))) (.cons (.ife (.cmp .lt (.bi .len (.cons (.call 5 (.cons (.var 0) (.cons (.var 5) .nil))) .nil)) (.var 1)) (.cons (.ife (.and_ (.cons (.cmp .ne (.bor 4) (.lst .nil)) (.cons (.cmp .eq (.idx (.idx (.bor 4) (.neg (.int 1))) (.int 1)) (.var 5)) .nil))) (.cons (.setI 4 (.neg (.int 1)) (.tup (.cons (.idx (.idx (.bor 4) (.neg (.int 1))) (.int 0)) (.cons (.bin .add (.var 5) (.int 1)) .nil))))
 .nil) (.cons (.app 4 (.tup (.cons (.var 5) (.cons (.bin .add (.var 5) (.int 1)) .nil))))
 .nil))
 .nil) .nil)
 .nil))
 (.cons (.ret (.bi .tuple (.cons (.bor 4) .nil)))
 .nil)))
theorem w_f_free_spans {Φ : Fns} {X : Cx} (g : Gd TT Φ N_f_free_spans (defScope (top 17)) X) (hF : ∀ x, X.fn x = true) : PSs_ Φ X (defBody (top 17)) c_f_free_spans := (ss_cons (gs_asgF g hF (f_lst a_nil))
 (ss_cons (s_for g (gi2 g 11 (gv g) (v_bin (op := .add) (v_o (gv g)) (v_o v_int))) (gp g (hf := .inl (hF _))) (ss_cons (s_if (t_cmp (op := .lt) g (v_o (g_len g 7 (v_o (g_call g 5 (a_cons (gv g) (a_cons (gv g) a_nil)))))) (v_o (gv g))) (ss_cons (s_if (w_t (w_and (t_cmp (op := .ne) g (gb g) (v_o (f_v (f_lst a_nil)))) (w_and1 (t_cmp (op := .eq) g (v_o (v_idx g (v_o (v_idx g (gb g) (v_o (v_neg (v_o v_int))))) (v_o v_int))) (v_o (gv g)))))) (ss_cons (gs_setI g (v_tup (a_cons (v_idx g (v_o (v_idx g (gb g) (v_o (v_neg (v_o v_int))))) (v_o v_int)) (a_cons (v_bin (op := .add) (v_o (gv g)) (v_o v_int)) a_nil))) (v_neg (v_o v_int)))
 ss_nil) (ss_cons (gs_app g (v_tup (a_cons (gv g) (a_cons (v_bin (op := .add) (v_o (gv g)) (v_o v_int)) a_nil))))
 ss_nil))
 ss_nil) ss_nil)
 ss_nil))
 (ss_cons (s_ret (g_tuple g 16 (gb g)))
 ss_nil)))
def N_f_first_free : List Str := [("bookings" : Str), ("tools" : Str), ("day" : Str), ("long" : Str), ("own" : Str)]
def c_f_first_free : CSs := (.cons (.ife (.cmp .eq (.var 1) (.int 0)) (.cons (.ret .non)
 .nil) .nil)
 (.cons (.whl (.bi .any (.cons (.lc1 [4] (.cmp .ge (.bi .len (.cons (.call 5 (.cons (.var 0) (.cons (.var 4) .nil))) .nil)) (.var 1)) (.nm 4) (.rng2 (.var 2) (.bin .add (.var 2) (.var 3))) .nil) .nil)) (.cons (.aug 2 .add (.int 1))
 .nil))
 (.cons (.ret (.var 2))
 .nil)))
theorem w_f_first_free {Φ : Fns} {X : Cx} (g : Gd TT Φ N_f_first_free (defScope (top 18)) X) (hF : ∀ x, X.fn x = true) : PSs_ Φ X (defBody (top 18)) c_f_first_free := (ss_cons (s_if (t_cmp (op := .eq) g (v_o (gv g)) (v_o v_int)) (ss_cons (s_ret v_non)
 ss_nil) ss_nil)
 (ss_cons (s_while g (t_val (g_any g 2 (v_o (f_v (g_lc1 [("own", 4)] g (i_j (gi2 g 11 (gv g) (v_bin (op := .add) (v_o (gv g)) (v_o (gv g))))) (fun s1 H1 C1 l1 f1 => (gp (Gd.blk g s1 H1 _ C1 l1 f1))) (fun s1 H1 C1 l1 f1 => ts_nil) (fun s1 H1 C1 l1 f1 => (v_cmp (op := .ge) (Gd.blk g s1 H1 _ C1 l1 f1) (v_o (g_len (Gd.blk g s1 H1 _ C1 l1 f1) 7 (v_o (g_call (Gd.blk g s1 H1 _ C1 l1 f1) 5 (a_cons (gv (Gd.blk g s1 H1 _ C1 l1 f1)) (a_cons (gv (Gd.blk g s1 H1 _ C1 l1 f1)) a_nil)))))) (v_o (gv (Gd.blk g s1 H1 _ C1 l1 f1)))))))))) (ss_cons (gs_aug (op := .add) g hF v_int)
 ss_nil))
 (ss_cons (s_ret (gv g))
 ss_nil)))
def N_f_moved_least : List Str := [("bookings" : Str), ("old" : Str), ("tools" : Str), ("more" : Str), ("row" : Str), ("own" : Str), ("best" : Str), ("moved" : Str), ("k" : Str)]
def c_f_moved_least : CSs := (.cons (.par (nms [5, 6]) [false, false] (.cons (.bin .add (.bi .tuple (.cons (.var 0) .nil)) (.tup (.cons (.var 3) .nil))) (.cons .non .nil)))
 (.cons (.for_ (.nm 4) (.over (.call 3 (.cons (.bin .mul (.lst (.cons (.var 2) .nil)) (.bi .len (.cons (.var 5) .nil))) .nil))) (.cons (.ife (.call 7 (.cons (.var 5) (.cons (.var 2) (.cons (.var 4) .nil)))) (.cons (.asg false 7 (.bi .len (.cons (.lc1 [8] (.int 1) (.nm 8) (.rng1 (.bi .len (.cons (.var 1) .nil))) (.cons (.cmp .ne (.idx (.var 4) (.var 8)) (.idx (.var 1) (.var 8))) .nil)) .nil)))
 (.cons (.asg false 6 (.ite (.or_ (.cons (.cmp .is_ (.var 6) .non) (.cons (.cmp .lt (.tup (.cons (.var 7) (.cons (.var 4) .nil))) (.var 6)) .nil))) (.tup (.cons (.var 7) (.cons (.var 4) .nil))) (.var 6)))
 .nil)) .nil)
 .nil))
 (.cons (.ret (.var 6))
 .nil)))
theorem w_f_moved_least {Φ : Fns} {X : Cx} (g : Gd TT Φ N_f_moved_least (defScope (top 19)) X) (hF : ∀ x, X.fn x = true) : PSs_ Φ X (defBody (top 19)) c_f_moved_least := (ss_cons (gs_par2 g (x_val (v_bin (op := .add) (v_o (g_tuple g 16 (v_o (gv g)))) (v_o (v_tup (a_cons (gv g) a_nil)))) (x_val v_non x_nil)))
 (ss_cons (s_for g (i_over (g_call g 3 (a_cons (v_bin (op := .mul) (v_o (f_v (f_lst (a_cons (gv g) a_nil)))) (v_o (g_len g 7 (v_o (gv g))))) a_nil))) (gp g (hf := .inl (hF _))) (ss_cons (s_if (t_val (g_call g 7 (a_cons (gv g) (a_cons (gv g) (a_cons (gv g) a_nil))))) (ss_cons (gs_asg g hF (g_len g 7 (v_o (f_v (g_lc1 [("k", 8)] g (i_j (gi1 g 11 (g_len g 7 (v_o (gv g))))) (fun s1 H1 C1 l1 f1 => (gp (Gd.blk g s1 H1 _ C1 l1 f1))) (fun s1 H1 C1 l1 f1 => (ts_one (t_cmp (op := .ne) (Gd.blk g s1 H1 _ C1 l1 f1) (v_o (v_idx (Gd.blk g s1 H1 _ C1 l1 f1) (v_o (gv (Gd.blk g s1 H1 _ C1 l1 f1))) (v_o (gv (Gd.blk g s1 H1 _ C1 l1 f1))))) (v_o (v_idx (Gd.blk g s1 H1 _ C1 l1 f1) (v_o (gv (Gd.blk g s1 H1 _ C1 l1 f1))) (v_o (gv (Gd.blk g s1 H1 _ C1 l1 f1)))))))) (fun s1 H1 C1 l1 f1 => v_int))))))
 (ss_cons (gs_asg g hF (v_ite (w_t (w_or (t_cmp (op := .is_) g (v_o (gv g)) (v_o v_non)) (w_or1 (t_cmp (op := .lt) g (v_o (v_tup (a_cons (gv g) (a_cons (gv g) a_nil)))) (v_o (gv g)))))) (v_tup (a_cons (gv g) (a_cons (gv g) a_nil))) (gv g)))
 ss_nil)) ss_nil)
 ss_nil))
 (ss_cons (s_ret (gv g))
 ss_nil)))
def N_f_late_spread : List Str := [("bookings" : Str), ("row" : Str), ("k" : Str), ("days" : Str), ("same" : Str), ("later" : Str), ("found" : Str), ("end" : Str), ("begin" : Str), ("j" : Str)]
def c_f_late_spread : CSs := (.cons (.par (nms [6, 7]) [true, false] (.cons (.lst .nil) (.cons (.bin .add (.idx (.idx (.var 0) (.var 2)) (.int 1)) (.var 3)) .nil)))
 (.cons (.asg false 4 (.lc1 [9] (.var 9) (.nm 9) (.rng1 (.bi .len (.cons (.var 0) .nil))) (.cons (.and_ (.cons (.cmp .eq (.idx (.var 1) (.var 9)) (.idx (.var 1) (.var 2))) (.cons (.cmp .ge (.idx (.idx (.var 0) (.var 9)) (.int 0)) (.idx (.idx (.var 0) (.var 2)) (.int 1))) .nil))) .nil)))
 (.cons (.asg false 5 (.bi .sorted (.cons (.lc1 [9] (.tup (.cons (.idx (.idx (.var 0) (.var 9)) (.int 0)) (.cons (.var 9) .nil))) (.nm 9) (.over (.var 4)) .nil) .nil)))
 (.cons (.for_ (.tp [(.nm 8), (.nm 9)]) (.over (.var 5)) (.cons (.ife (.cmp .lt (.var 8) (.var 7)) (.cons (.app 6 (.var 9))
 (.cons (.asg false 7 (.bin .sub (.bin .add (.var 7) (.idx (.idx (.var 0) (.var 9)) (.int 1))) (.var 8)))
 .nil)) .nil)
 .nil))
 (.cons (.ret (.bi .tuple (.cons (.bi .sorted (.cons (.bor 6) .nil)) .nil)))
 .nil)))))
theorem w_f_late_spread {Φ : Fns} {X : Cx} (g : Gd TT Φ N_f_late_spread (defScope (top 20)) X) (hF : ∀ x, X.fn x = true) : PSs_ Φ X (defBody (top 20)) c_f_late_spread := (ss_cons (gs_par2 g (x_own (f_lst a_nil) (x_val (v_bin (op := .add) (v_o (v_idx g (v_o (v_idx g (v_o (gv g)) (v_o (gv g)))) (v_o v_int))) (v_o (gv g))) x_nil)))
 (ss_cons (s_ofV (g_lc1S [("j", 9)] g (i_j (gi1 g 11 (g_len g 7 (v_o (gv g))))) (fun s1 H1 C1 l1 f1 => (gp (Gd.blk g s1 H1 _ C1 l1 f1))) (fun s1 H1 C1 l1 f1 => (ts_one (w_t (w_and (t_cmp (op := .eq) (Gd.blk g s1 H1 _ C1 l1 f1) (v_o (v_idx (Gd.blk g s1 H1 _ C1 l1 f1) (v_o (gv (Gd.blk g s1 H1 _ C1 l1 f1))) (v_o (gv (Gd.blk g s1 H1 _ C1 l1 f1))))) (v_o (v_idx (Gd.blk g s1 H1 _ C1 l1 f1) (v_o (gv (Gd.blk g s1 H1 _ C1 l1 f1))) (v_o (gv (Gd.blk g s1 H1 _ C1 l1 f1)))))) (w_and1 (t_cmp (op := .ge) (Gd.blk g s1 H1 _ C1 l1 f1) (v_o (v_idx (Gd.blk g s1 H1 _ C1 l1 f1) (v_o (v_idx (Gd.blk g s1 H1 _ C1 l1 f1) (v_o (gv (Gd.blk g s1 H1 _ C1 l1 f1))) (v_o (gv (Gd.blk g s1 H1 _ C1 l1 f1))))) (v_o v_int))) (v_o (v_idx (Gd.blk g s1 H1 _ C1 l1 f1) (v_o (v_idx (Gd.blk g s1 H1 _ C1 l1 f1) (v_o (gv (Gd.blk g s1 H1 _ C1 l1 f1))) (v_o (gv (Gd.blk g s1 H1 _ C1 l1 f1))))) (v_o v_int))))))))) (fun s1 H1 C1 l1 f1 => (gv (Gd.blk g s1 H1 _ C1 l1 f1)))))
 (ss_cons (gs_asg g hF (f_v (g_sorted g 13 (v_o (f_v (g_lc1 [("j", 9)] g (i_j (i_over (gv g))) (fun s1 H1 C1 l1 f1 => (gp (Gd.blk g s1 H1 _ C1 l1 f1))) (fun s1 H1 C1 l1 f1 => ts_nil) (fun s1 H1 C1 l1 f1 => (v_tup (a_cons (v_idx (Gd.blk g s1 H1 _ C1 l1 f1) (v_o (v_idx (Gd.blk g s1 H1 _ C1 l1 f1) (v_o (gv (Gd.blk g s1 H1 _ C1 l1 f1))) (v_o (gv (Gd.blk g s1 H1 _ C1 l1 f1))))) (v_o v_int)) (a_cons (gv (Gd.blk g s1 H1 _ C1 l1 f1)) a_nil))))))))))
 (ss_cons (s_for g (i_over (gv g)) (p_tp g (ps_cons' (gp g (hf := .inl (hF _))) (ps_cons' (gp g (hf := .inl (hF _))) ps_nil'))) (ss_cons (s_if (t_cmp (op := .lt) g (v_o (gv g)) (v_o (gv g))) (ss_cons (gs_app g (gv g))
 (ss_cons (gs_asg g hF (v_bin (op := .sub) (v_o (v_bin (op := .add) (v_o (gv g)) (v_o (v_idx g (v_o (v_idx g (v_o (gv g)) (v_o (gv g)))) (v_o v_int))))) (v_o (gv g))))
 ss_nil)) ss_nil)
 ss_nil))
 (ss_cons (s_ret (g_tuple g 16 (v_o (f_v (g_sorted g 13 (gb g))))))
 ss_nil)))))
def N_f__law_draws : List Str := [("script" : Str), ("many" : Str), ("draws" : Str), ("mixed" : Str), ("k" : Str), ("cell" : Str), ("rest" : Str), ("turn" : Str)]
def c_f__law_draws : CSs := (.cons (.asg true 2 (.lst .nil))
 (.cons (.asg false 3 (.int 7))
 (.cons (.for_ (.nm 4) (.rng1 (.bi .len (.cons (.var 0) .nil))) (.cons (.asg false 5 (.bi .abs (.cons (.bi .int (.cons (.idx (.var 0) (.var 4)) .nil)) .nil)))
 (.cons (.asg false 3 (.bin .mod (.bi .int (.cons (.bin .add (.bin .add (.bin .mul (.var 3) (.int 48271)) (.bin .mod (.var 5) (.int 1000003))) (.var 4)) .nil)) (.int 65537)))
 (.cons (.asg false 6 (.int 0))
 (.cons (.ife (.cmp .ge (.var 5) (.bin .pow (.int 10) (.int 18))) (.cons (.asg false 6 (.var 5))
 .nil) (.cons (.app 2 (.bin .mod (.bi .int (.cons (.var 5) .nil)) (.int 997)))
 (.cons (.app 2 (.bin .mod (.bin .mod (.bi .int (.cons (.bin .add (.bin .mul (.var 3) (.int 69621)) (.int 5)) .nil)) (.int 65521)) (.int 997)))
 .nil)))
 (.cons (.for_ (.nm 7) (.rng1 (.int 60)) (.cons (.ife (.cmp .gt (.var 6) (.int 0)) (.cons (.app 2 (.bin .mod (.bi .int (.cons (.var 6) .nil)) (.int 997)))
 (.cons (.asg false 6 (.bin .div (.var 6) (.int 997)))
 .nil)) .nil)
 .nil))
 .nil))))))
 (.cons (.for_ (.nm 4) (.rng1 (.var 1)) (.cons (.asg false 3 (.bin .mod (.bi .int (.cons (.bin .add (.bin .add (.bin .mul (.var 3) (.int 16807)) (.var 4)) (.int 1)) .nil)) (.int 65537)))
 (.cons (.app 2 (.bin .mod (.bi .int (.cons (.var 3) .nil)) (.int 997)))
 .nil)))
 (.cons (.ret (.cut (.bor 2) .nil (.cons (.var 1) .nil)))
 .nil)))))
theorem w_f__law_draws {Φ : Fns} {X : Cx} (g : Gd TT Φ N_f__law_draws (defScope (top 22)) X) (hF : ∀ x, X.fn x = true) : PSs_ Φ X (defBody (top 22)) c_f__law_draws := (ss_cons (gs_asgF g hF (f_lst a_nil))
 (ss_cons (gs_asg g hF v_int)
 (ss_cons (s_for g (gi1 g 11 (g_len g 7 (v_o (gv g)))) (gp g (hf := .inl (hF _))) (ss_cons (gs_asg g hF (g_abs g 0 (v_o (g_int g 5 (v_o (v_idx g (v_o (gv g)) (v_o (gv g))))))))
 (ss_cons (gs_asg g hF (v_bin (op := .mod) (v_o (g_int g 5 (v_o (v_bin (op := .add) (v_o (v_bin (op := .add) (v_o (v_bin (op := .mul) (v_o (gv g)) (v_o v_int))) (v_o (v_bin (op := .mod) (v_o (gv g)) (v_o v_int))))) (v_o (gv g)))))) (v_o v_int)))
 (ss_cons (gs_asg g hF v_int)
 (ss_cons (s_if (t_cmp (op := .ge) g (v_o (gv g)) (v_o (v_bin (op := .pow) (v_o v_int) (v_o v_int)))) (ss_cons (gs_asg g hF (gv g))
 ss_nil) (ss_cons (gs_app g (v_bin (op := .mod) (v_o (g_int g 5 (v_o (gv g)))) (v_o v_int)))
 (ss_cons (gs_app g (v_bin (op := .mod) (v_o (v_bin (op := .mod) (v_o (g_int g 5 (v_o (v_bin (op := .add) (v_o (v_bin (op := .mul) (v_o (gv g)) (v_o v_int))) (v_o v_int))))) (v_o v_int))) (v_o v_int)))
 ss_nil)))
 (ss_cons (s_for g (gi1 g 11 v_int) (gp g (hf := .inl (hF _))) (ss_cons (s_if (t_cmp (op := .gt) g (v_o (gv g)) (v_o v_int)) (ss_cons (gs_app g (v_bin (op := .mod) (v_o (g_int g 5 (v_o (gv g)))) (v_o v_int)))
 (ss_cons (gs_asg g hF (v_bin (op := .div) (v_o (gv g)) (v_o v_int)))
 ss_nil)) ss_nil)
 ss_nil))
 ss_nil))))))
 (ss_cons (s_for g (gi1 g 11 (gv g)) (gp g (hf := .inl (hF _))) (ss_cons (gs_asg g hF (v_bin (op := .mod) (v_o (g_int g 5 (v_o (v_bin (op := .add) (v_o (v_bin (op := .add) (v_o (v_bin (op := .mul) (v_o (gv g)) (v_o v_int))) (v_o (gv g)))) (v_o v_int))))) (v_o v_int)))
 (ss_cons (gs_app g (v_bin (op := .mod) (v_o (g_int g 5 (v_o (gv g)))) (v_o v_int)))
 ss_nil)))
 (ss_cons (s_ret (v_cut (gb g) pt_none (pt_some (gv g))))
 ss_nil)))))
def N_f__law_next : List Str := [("w" : Str), ("many" : Str)]
def c_f__law_next : CSs := (.cons (.augI 0 (.str "at") .add (.int 1))
 (.cons (.ife (.cmp .gt (.idx (.var 0) (.str "at")) (.bi .len (.cons (.idx (.var 0) (.str "draws")) .nil))) (.cons (.ret (.int 0))
 .nil) .nil)
 (.cons (.ret (.bin .mod (.bi .int (.cons (.idx (.idx (.var 0) (.str "draws")) (.bin .sub (.idx (.var 0) (.str "at")) (.int 1))) .nil)) (.var 1)))
 .nil)))
theorem w_f__law_next {Φ : Fns} {X : Cx} (g : Gd TT Φ N_f__law_next (defScope (top 23)) X) (hF : ∀ x, X.fn x = true) : PSs_ Φ X (defBody (top 23)) c_f__law_next := (ss_cons (gs_augI (op := .add) g v_str v_int)
 (ss_cons (s_if (t_cmp (op := .gt) g (v_o (v_idx g (v_o (gv g)) (v_o v_str))) (v_o (g_len g 7 (v_o (v_idx g (v_o (gv g)) (v_o v_str)))))) (ss_cons (s_ret v_int)
 ss_nil) ss_nil)
 (ss_cons (s_ret (v_bin (op := .mod) (v_o (g_int g 5 (v_o (v_idx g (v_o (v_idx g (v_o (gv g)) (v_o v_str))) (v_o (v_bin (op := .sub) (v_o (v_idx g (v_o (gv g)) (v_o v_str))) (v_o v_int))))))) (v_o (gv g))))
 ss_nil)))
def N_f__law_pick : List Str := [("w" : Str), ("rows" : Str)]
def c_f__law_pick : CSs := (.cons (.ret (.idx (.var 1) (.call 20 (.cons (.var 0) (.cons (.bi .len (.cons (.var 1) .nil)) .nil)))))
 .nil)
theorem w_f__law_pick {Φ : Fns} {X : Cx} (g : Gd TT Φ N_f__law_pick (defScope (top 24)) X) (hF : ∀ x, X.fn x = true) : PSs_ Φ X (defBody (top 24)) c_f__law_pick := (ss_cons (s_ret (v_idx g (v_o (gv g)) (v_o (g_call g 20 (a_cons (gv g) (a_cons (g_len g 7 (v_o (gv g))) a_nil))))))
 ss_nil)
def N_f__law_alike : List Str := [("given" : Str), ("due" : Str), ("k" : Str)]
def c_f__law_alike : CSs := (.cons (.ife (.isi .ttup (.var 1)) (.cons (.ife (.or_ (.cons (.not_ (.isi .ttup (.var 0))) (.cons (.cmp .ne (.bi .len (.cons (.var 0) .nil)) (.bi .len (.cons (.var 1) .nil))) .nil))) (.cons (.ret (.bl false))
 .nil) .nil)
 (.cons (.ret (.cmp .eq (.lc1 [2] (.var 2) (.nm 2) (.rng1 (.bi .len (.cons (.var 1) .nil))) (.cons (.not_ (.call 22 (.cons (.idx (.var 0) (.var 2)) (.cons (.idx (.var 1) (.var 2)) .nil)))) .nil)) (.lst .nil)))
 .nil)) .nil)
 (.cons (.ife (.cmp .is_ (.var 1) .non) (.cons (.ret (.cmp .is_ (.var 0) .non))
 .nil) .nil)
 (.cons (.ife (.isi .tbool (.var 1)) (.cons (.ret (.and_ (.cons (.isi .tbool (.var 0)) (.cons (.cmp .eq (.var 0) (.var 1)) .nil))))
 .nil) .nil)
 (.cons (.ife (.isi .tint (.var 1)) (.cons (.ret (.and_ (.cons (.isi .tint (.var 0)) (.cons (.not_ (.isi .tbool (.var 0))) (.cons (.cmp .eq (.var 0) (.var 1)) .nil)))))
 .nil) .nil)
 (.cons (.ret (.and_ (.cons (.isi .tstr (.var 0)) (.cons (.cmp .eq (.var 0) (.var 1)) .nil))))
 .nil)))))
theorem w_f__law_alike {Φ : Fns} {X : Cx} (g : Gd TT Φ N_f__law_alike (defScope (top 25)) X) (hF : ∀ x, X.fn x = true) : PSs_ Φ X (defBody (top 25)) c_f__law_alike := (ss_cons (s_if (t_val (g_isi .ttup g 6 16 (v_o (gv g)))) (ss_cons (s_if (w_t (w_or (t_not (t_val (g_isi .ttup g 6 16 (v_o (gv g))))) (w_or1 (t_cmp (op := .ne) g (v_o (g_len g 7 (v_o (gv g)))) (v_o (g_len g 7 (v_o (gv g)))))))) (ss_cons (s_ret v_bl)
 ss_nil) ss_nil)
 (ss_cons (s_ret (v_cmp (op := .eq) g (v_o (f_v (g_lc1 [("k", 2)] g (i_j (gi1 g 11 (g_len g 7 (v_o (gv g))))) (fun s1 H1 C1 l1 f1 => (gp (Gd.blk g s1 H1 _ C1 l1 f1))) (fun s1 H1 C1 l1 f1 => (ts_one (t_not (t_val (g_call (Gd.blk g s1 H1 _ C1 l1 f1) 22 (a_cons (v_idx (Gd.blk g s1 H1 _ C1 l1 f1) (v_o (gv (Gd.blk g s1 H1 _ C1 l1 f1))) (v_o (gv (Gd.blk g s1 H1 _ C1 l1 f1)))) (a_cons (v_idx (Gd.blk g s1 H1 _ C1 l1 f1) (v_o (gv (Gd.blk g s1 H1 _ C1 l1 f1))) (v_o (gv (Gd.blk g s1 H1 _ C1 l1 f1)))) a_nil))))))) (fun s1 H1 C1 l1 f1 => (gv (Gd.blk g s1 H1 _ C1 l1 f1)))))) (v_o (f_v (f_lst a_nil)))))
 ss_nil)) ss_nil)
 (ss_cons (s_if (t_cmp (op := .is_) g (v_o (gv g)) (v_o v_non)) (ss_cons (s_ret (v_cmp (op := .is_) g (v_o (gv g)) (v_o v_non)))
 ss_nil) ss_nil)
 (ss_cons (s_if (t_val (g_isi .tbool g 6 3 (v_o (gv g)))) (ss_cons (s_ret (v_and (g_isi .tbool g 6 3 (v_o (gv g))) (v_and1 (v_cmp (op := .eq) g (v_o (gv g)) (v_o (gv g))))))
 ss_nil) ss_nil)
 (ss_cons (s_if (t_val (g_isi .tint g 6 5 (v_o (gv g)))) (ss_cons (s_ret (v_and (g_isi .tint g 6 5 (v_o (gv g))) (v_and (v_not (g_isi .tbool g 6 3 (v_o (gv g)))) (v_and1 (v_cmp (op := .eq) g (v_o (gv g)) (v_o (gv g)))))))
 ss_nil) ss_nil)
 (ss_cons (s_ret (v_and (g_isi .tstr g 6 14 (v_o (gv g))) (v_and1 (v_cmp (op := .eq) g (v_o (gv g)) (v_o (gv g))))))
 ss_nil)))))
def N_f__law_rows : List Str := [("many" : Str), ("tools" : Str), ("rows" : Str), ("k" : Str), ("longer" : Str), ("row" : Str), ("tool" : Str)]
def c_f__law_rows : CSs := (.cons (.asg false 2 (.lst (.cons (.tup .nil) .nil)))
 (.cons (.for_ (.nm 3) (.rng1 (.var 0)) (.cons (.asg false 4 (.lst .nil))
 (.cons (.for_ (.nm 5) (.over (.var 2)) (.cons (.asg false 4 (.bin .add (.var 4) (.lc1 [6] (.bin .add (.var 5) (.tup (.cons (.var 6) .nil))) (.nm 6) (.rng1 (.var 1)) .nil)))
 .nil))
 (.cons (.asg false 2 (.var 4))
 .nil))))
 (.cons (.ret (.var 2))
 .nil)))
theorem w_f__law_rows {Φ : Fns} {X : Cx} (g : Gd TT Φ N_f__law_rows (defScope (top 26)) X) (hF : ∀ x, X.fn x = true) : PSs_ Φ X (defBody (top 26)) c_f__law_rows := (ss_cons (gs_asg g hF (f_v (f_lst (a_cons (v_tup a_nil) a_nil))))
 (ss_cons (s_for g (gi1 g 11 (gv g)) (gp g (hf := .inl (hF _))) (ss_cons (gs_asg g hF (f_v (f_lst a_nil)))
 (ss_cons (s_for g (i_over (gv g)) (gp g (hf := .inl (hF _))) (ss_cons (gs_asg g hF (v_bin (op := .add) (v_o (gv g)) (v_o (f_v (g_lc1 [("tool", 6)] g (i_j (gi1 g 11 (gv g))) (fun s1 H1 C1 l1 f1 => (gp (Gd.blk g s1 H1 _ C1 l1 f1))) (fun s1 H1 C1 l1 f1 => ts_nil) (fun s1 H1 C1 l1 f1 => (v_bin (op := .add) (v_o (gv (Gd.blk g s1 H1 _ C1 l1 f1))) (v_o (v_tup (a_cons (gv (Gd.blk g s1 H1 _ C1 l1 f1)) a_nil))))))))))
 ss_nil))
 (ss_cons (gs_asg g hF (gv g))
 ss_nil))))
 (ss_cons (s_ret (gv g))
 ss_nil)))
def N_f__law_there : List Str := [("bookings" : Str), ("day" : Str), ("k" : Str)]
def c_f__law_there : CSs := (.cons (.ret (.lc1 [2] (.var 2) (.nm 2) (.rng1 (.bi .len (.cons (.var 0) .nil))) (.cons (.inr (.var 1) (.idx (.idx (.var 0) (.var 2)) (.int 0)) (.idx (.idx (.var 0) (.var 2)) (.int 1))) .nil)))
 .nil)
theorem w_f__law_there {Φ : Fns} {X : Cx} (g : Gd TT Φ N_f__law_there (defScope (top 27)) X) (hF : ∀ x, X.fn x = true) : PSs_ Φ X (defBody (top 27)) c_f__law_there := (ss_cons (s_ret (f_v (g_lc1 [("k", 2)] g (i_j (gi1 g 11 (g_len g 7 (v_o (gv g))))) (fun s1 H1 C1 l1 f1 => (gp (Gd.blk g s1 H1 _ C1 l1 f1))) (fun s1 H1 C1 l1 f1 => (ts_one (t_inr (Gd.blk g s1 H1 _ C1 l1 f1) 11 (gv (Gd.blk g s1 H1 _ C1 l1 f1)) (v_idx (Gd.blk g s1 H1 _ C1 l1 f1) (v_o (v_idx (Gd.blk g s1 H1 _ C1 l1 f1) (v_o (gv (Gd.blk g s1 H1 _ C1 l1 f1))) (v_o (gv (Gd.blk g s1 H1 _ C1 l1 f1))))) (v_o v_int)) (v_idx (Gd.blk g s1 H1 _ C1 l1 f1) (v_o (v_idx (Gd.blk g s1 H1 _ C1 l1 f1) (v_o (gv (Gd.blk g s1 H1 _ C1 l1 f1))) (v_o (gv (Gd.blk g s1 H1 _ C1 l1 f1))))) (v_o v_int))))) (fun s1 H1 C1 l1 f1 => (gv (Gd.blk g s1 H1 _ C1 l1 f1))))))
 ss_nil)
def N_f__law_good : List Str := [("bookings" : Str), ("row" : Str), ("day" : Str), ("used" : Str), ("k" : Str), ("own" : Str)]
def c_f__law_good : CSs := (.cons (.for_ (.nm 2) (.rng1 (.int 16)) (.cons (.asg false 3 (.lc1 [4] (.idx (.var 1) (.var 4)) (.nm 4) (.over (.call 24 (.cons (.var 0) (.cons (.var 2) .nil)))) .nil))
 (.cons (.ife (.cmp .ne (.bi .len (.cons (.bi .dict (.cons (.lc1 [5] (.tup (.cons (.var 5) (.cons (.bl true) .nil))) (.nm 5) (.over (.var 3)) .nil) .nil)) .nil)) (.bi .len (.cons (.var 3) .nil))) (.cons (.ret (.bl false))
 .nil) .nil)
 .nil)))
 (.cons (.ret (.bl true))
 .nil))
theorem w_f__law_good {Φ : Fns} {X : Cx} (g : Gd TT Φ N_f__law_good (defScope (top 28)) X) (hF : ∀ x, X.fn x = true) : PSs_ Φ X (defBody (top 28)) c_f__law_good := (ss_cons (s_for g (gi1 g 11 v_int) (gp g (hf := .inl (hF _))) (ss_cons (s_ofV (g_lc1S [("k", 4)] g (i_j (i_over (g_call g 24 (a_cons (gv g) (a_cons (gv g) a_nil))))) (fun s1 H1 C1 l1 f1 => (gp (Gd.blk g s1 H1 _ C1 l1 f1))) (fun s1 H1 C1 l1 f1 => ts_nil) (fun s1 H1 C1 l1 f1 => (v_idx (Gd.blk g s1 H1 _ C1 l1 f1) (v_o (gv (Gd.blk g s1 H1 _ C1 l1 f1))) (v_o (gv (Gd.blk g s1 H1 _ C1 l1 f1)))))))
 (ss_cons (s_if (t_cmp (op := .ne) g (v_o (g_len g 7 (v_o (f_v (g_dict g 4 (v_o (f_v (g_lc1 [("own", 5)] g (i_j (i_over (gv g))) (fun s1 H1 C1 l1 f1 => (gp (Gd.blk g s1 H1 _ C1 l1 f1))) (fun s1 H1 C1 l1 f1 => ts_nil) (fun s1 H1 C1 l1 f1 => (v_tup (a_cons (gv (Gd.blk g s1 H1 _ C1 l1 f1)) (a_cons v_bl a_nil)))))))))))) (v_o (g_len g 7 (v_o (gv g))))) (ss_cons (s_ret v_bl)
 ss_nil) ss_nil)
 ss_nil)))
 (ss_cons (s_ret v_bl)
 ss_nil))
def N_f__law_most : List Str := [("bookings" : Str), ("day" : Str)]
def c_f__law_most : CSs := (.cons (.ret (.bi .max (.cons (.bin .add (.lst (.cons (.int 0) .nil)) (.lc1 [1] (.bi .len (.cons (.call 24 (.cons (.var 0) (.cons (.var 1) .nil))) .nil)) (.nm 1) (.rng1 (.int 16)) .nil)) .nil)))
 .nil)
theorem w_f__law_most {Φ : Fns} {X : Cx} (g : Gd TT Φ N_f__law_most (defScope (top 29)) X) (hF : ∀ x, X.fn x = true) : PSs_ Φ X (defBody (top 29)) c_f__law_most := (ss_cons (s_ret (g_max g 9 (v_o (v_bin (op := .add) (v_o (f_v (f_lst (a_cons v_int a_nil)))) (v_o (f_v (g_lc1 [("day", 1)] g (i_j (gi1 g 11 v_int)) (fun s1 H1 C1 l1 f1 => (gp (Gd.blk g s1 H1 _ C1 l1 f1))) (fun s1 H1 C1 l1 f1 => ts_nil) (fun s1 H1 C1 l1 f1 => (g_len (Gd.blk g s1 H1 _ C1 l1 f1) 7 (v_o (g_call (Gd.blk g s1 H1 _ C1 l1 f1) 24 (a_cons (gv (Gd.blk g s1 H1 _ C1 l1 f1)) (a_cons (gv (Gd.blk g s1 H1 _ C1 l1 f1)) a_nil)))))))))))))
 ss_nil)
def N_f__law_sets : List Str := [("many" : Str), ("found" : Str), ("k" : Str), ("own" : Str)]
def c_f__law_sets : CSs := (.cons (.asg false 1 (.lst (.cons (.tup .nil) .nil)))
 (.cons (.for_ (.nm 2) (.rng1 (.var 0)) (.cons (.asg false 1 (.bin .add (.var 1) (.lc1 [3] (.bin .add (.var 3) (.tup (.cons (.var 2) .nil))) (.nm 3) (.over (.var 1)) .nil)))
 .nil))
 (.cons (.ret (.var 1))
 .nil)))
theorem w_f__law_sets {Φ : Fns} {X : Cx} (g : Gd TT Φ N_f__law_sets (defScope (top 30)) X) (hF : ∀ x, X.fn x = true) : PSs_ Φ X (defBody (top 30)) c_f__law_sets := (ss_cons (gs_asg g hF (f_v (f_lst (a_cons (v_tup a_nil) a_nil))))
 (ss_cons (s_for g (gi1 g 11 (gv g)) (gp g (hf := .inl (hF _))) (ss_cons (gs_asg g hF (v_bin (op := .add) (v_o (gv g)) (v_o (f_v (g_lc1 [("own", 3)] g (i_j (i_over (gv g))) (fun s1 H1 C1 l1 f1 => (gp (Gd.blk g s1 H1 _ C1 l1 f1))) (fun s1 H1 C1 l1 f1 => ts_nil) (fun s1 H1 C1 l1 f1 => (v_bin (op := .add) (v_o (gv (Gd.blk g s1 H1 _ C1 l1 f1))) (v_o (v_tup (a_cons (gv (Gd.blk g s1 H1 _ C1 l1 f1)) a_nil))))))))))
 ss_nil))
 (ss_cons (s_ret (gv g))
 ss_nil)))
def N_f__law_handed : List Str := [("bookings" : Str), ("tools" : Str), ("bars" : Str), ("row" : Str), ("key" : Str), ("taken" : Str), ("day" : Str), ("k" : Str), ("tool" : Str)]
def c_f__law_handed : CSs := (.cons (.asg false 2 (.lc1 [6] (.var 6) (.nm 6) (.rng1 (.int 16)) (.cons (.cmp .gt (.bi .len (.cons (.call 24 (.cons (.var 0) (.cons (.var 6) .nil))) .nil)) (.var 1)) .nil)))
 (.cons (.ife (.cmp .ne (.var 2) (.lst .nil)) (.cons (.ret (.tup (.cons (.str "no") (.cons (.idx (.var 2) (.int 0)) (.cons (.bi .tuple (.cons (.call 24 (.cons (.var 0) (.cons (.idx (.var 2) (.int 0)) .nil))) .nil)) .nil)))))
 .nil) .nil)
 (.cons (.asg true 3 (.dsp 0 .nil))
 (.cons (.for_ (.nm 4) (.over (.bi .sorted (.cons (.lc1 [7] (.tup (.cons (.idx (.idx (.var 0) (.var 7)) (.int 0)) (.cons (.var 7) .nil))) (.nm 7) (.rng1 (.bi .len (.cons (.var 0) .nil))) .nil) .nil))) (.cons (.asg false 5 (.lc1 [7] (.idx (.bor 3) (.var 7)) (.nm 7) (.over (.call 24 (.cons (.var 0) (.cons (.idx (.var 4) (.int 0)) .nil)))) (.cons (.cmp .in_ (.var 7) (.bor 3)) .nil)))
 (.cons (.setI 3 (.idx (.var 4) (.int 1)) (.idx (.lc1 [8] (.var 8) (.nm 8) (.rng1 (.var 1)) (.cons (.cmp .nin (.var 8) (.var 5)) .nil)) (.int 0)))
 .nil)))
 (.cons (.ret (.tup (.cons (.str "yes") (.cons (.bi .tuple (.cons (.lc1 [7] (.idx (.bor 3) (.var 7)) (.nm 7) (.rng1 (.bi .len (.cons (.var 0) .nil))) .nil) .nil)) .nil))))
 .nil)))))
theorem w_f__law_handed {Φ : Fns} {X : Cx} (g : Gd TT Φ N_f__law_handed (defScope (top 31)) X) (hF : ∀ x, X.fn x = true) : PSs_ Φ X (defBody (top 31)) c_f__law_handed := (ss_cons (s_ofV (g_lc1S [("day", 6)] g (i_j (gi1 g 11 v_int)) (fun s1 H1 C1 l1 f1 => (gp (Gd.blk g s1 H1 _ C1 l1 f1))) (fun s1 H1 C1 l1 f1 => (ts_one (t_cmp (op := .gt) (Gd.blk g s1 H1 _ C1 l1 f1) (v_o (g_len (Gd.blk g s1 H1 _ C1 l1 f1) 7 (v_o (g_call (Gd.blk g s1 H1 _ C1 l1 f1) 24 (a_cons (gv (Gd.blk g s1 H1 _ C1 l1 f1)) (a_cons (gv (Gd.blk g s1 H1 _ C1 l1 f1)) a_nil)))))) (v_o (gv (Gd.blk g s1 H1 _ C1 l1 f1)))))) (fun s1 H1 C1 l1 f1 => (gv (Gd.blk g s1 H1 _ C1 l1 f1)))))
 (ss_cons (s_if (t_cmp (op := .ne) g (v_o (gv g)) (v_o (f_v (f_lst a_nil)))) (ss_cons (s_ret (v_tup (a_cons v_str (a_cons (v_idx g (v_o (gv g)) (v_o v_int)) (a_cons (g_tuple g 16 (v_o (g_call g 24 (a_cons (gv g) (a_cons (v_idx g (v_o (gv g)) (v_o v_int)) a_nil))))) a_nil)))))
 ss_nil) ss_nil)
 (ss_cons (gs_asgF g hF f_dnewK)
 (ss_cons (s_for g (i_over (f_v (g_sorted g 13 (v_o (f_v (g_lc1 [("k", 7)] g (i_j (gi1 g 11 (g_len g 7 (v_o (gv g))))) (fun s1 H1 C1 l1 f1 => (gp (Gd.blk g s1 H1 _ C1 l1 f1))) (fun s1 H1 C1 l1 f1 => ts_nil) (fun s1 H1 C1 l1 f1 => (v_tup (a_cons (v_idx (Gd.blk g s1 H1 _ C1 l1 f1) (v_o (v_idx (Gd.blk g s1 H1 _ C1 l1 f1) (v_o (gv (Gd.blk g s1 H1 _ C1 l1 f1))) (v_o (gv (Gd.blk g s1 H1 _ C1 l1 f1))))) (v_o v_int)) (a_cons (gv (Gd.blk g s1 H1 _ C1 l1 f1)) a_nil)))))))))) (gp g (hf := .inl (hF _))) (ss_cons (gs_asg g hF (f_v (g_lc1 [("k", 7)] g (i_j (i_over (g_call g 24 (a_cons (gv g) (a_cons (v_idx g (v_o (gv g)) (v_o v_int)) a_nil))))) (fun s1 H1 C1 l1 f1 => (gp (Gd.blk g s1 H1 _ C1 l1 f1))) (fun s1 H1 C1 l1 f1 => (ts_one (t_cmp (op := .in_) (Gd.blk g s1 H1 _ C1 l1 f1) (v_o (gv (Gd.blk g s1 H1 _ C1 l1 f1))) (gb (Gd.blk g s1 H1 _ C1 l1 f1))))) (fun s1 H1 C1 l1 f1 => (v_idx (Gd.blk g s1 H1 _ C1 l1 f1) (gb (Gd.blk g s1 H1 _ C1 l1 f1)) (v_o (gv (Gd.blk g s1 H1 _ C1 l1 f1))))))) (hs := by rw [sw_dE g.sc]; rfl))
 (ss_cons (gs_setI g (v_idx g (v_o (f_v (g_lc1 [("tool", 8)] g (i_j (gi1 g 11 (gv g))) (fun s1 H1 C1 l1 f1 => (gp (Gd.blk g s1 H1 _ C1 l1 f1))) (fun s1 H1 C1 l1 f1 => (ts_one (t_cmp (op := .nin) (Gd.blk g s1 H1 _ C1 l1 f1) (v_o (gv (Gd.blk g s1 H1 _ C1 l1 f1))) (v_o (gv (Gd.blk g s1 H1 _ C1 l1 f1)))))) (fun s1 H1 C1 l1 f1 => (gv (Gd.blk g s1 H1 _ C1 l1 f1)))))) (v_o v_int)) (v_idx g (v_o (gv g)) (v_o v_int)))
 ss_nil)))
 (ss_cons (s_ret (v_tup (a_cons v_str (a_cons (g_tuple g 16 (v_o (f_v (g_lc1 [("k", 7)] g (i_j (gi1 g 11 (g_len g 7 (v_o (gv g))))) (fun s1 H1 C1 l1 f1 => (gp (Gd.blk g s1 H1 _ C1 l1 f1))) (fun s1 H1 C1 l1 f1 => ts_nil) (fun s1 H1 C1 l1 f1 => (v_idx (Gd.blk g s1 H1 _ C1 l1 f1) (gb (Gd.blk g s1 H1 _ C1 l1 f1)) (v_o (gv (Gd.blk g s1 H1 _ C1 l1 f1))))))))) a_nil))))
 ss_nil)))))
def N_f__law_spread : List Str := [("bookings" : Str), ("row" : Str), ("k" : Str), ("days" : Str), ("key" : Str), ("late" : Str), ("end" : Str), ("j" : Str)]
def c_f__law_spread : CSs := (.cons (.par (nms [5, 6]) [false, false] (.cons (.lst .nil) (.cons (.bin .add (.idx (.idx (.var 0) (.var 2)) (.int 1)) (.var 3)) .nil)))
 (.cons (.for_ (.nm 4) (.over (.bi .sorted (.cons (.lc1 [7] (.tup (.cons (.idx (.idx (.var 0) (.var 7)) (.int 0)) (.cons (.var 7) .nil))) (.nm 7) (.rng1 (.bi .len (.cons (.var 0) .nil))) (.cons (.and_ (.cons (.cmp .eq (.idx (.var 1) (.var 7)) (.idx (.var 1) (.var 2))) (.cons (.cmp .ge (.idx (.idx (.var 0) (.var 7)) (.int 0)) (.idx (.idx (.var 0) (.var 2)) (.int 1))) .nil))) .nil)) .nil))) (.cons (.ife (.cmp .lt (.idx (.var 4) (.int 0)) (.var 6)) (.cons (.par (nms [5, 6]) [false, false] (.cons (.bin .add (.var 5) (.lst (.cons (.idx (.var 4) (.int 1)) .nil))) (.cons (.bin .sub (.bin .add (.var 6) (.idx (.idx (.var 0) (.idx (.var 4) (.int 1))) (.int 1))) (.idx (.var 4) (.int 0))) .nil)))
 .nil) .nil)
 .nil))
 (.cons (.ret (.bi .tuple (.cons (.bi .sorted (.cons (.var 5) .nil)) .nil)))
 .nil)))
theorem w_f__law_spread {Φ : Fns} {X : Cx} (g : Gd TT Φ N_f__law_spread (defScope (top 32)) X) (hF : ∀ x, X.fn x = true) : PSs_ Φ X (defBody (top 32)) c_f__law_spread := (ss_cons (gs_par2 g (x_val (f_v (f_lst a_nil)) (x_val (v_bin (op := .add) (v_o (v_idx g (v_o (v_idx g (v_o (gv g)) (v_o (gv g)))) (v_o v_int))) (v_o (gv g))) x_nil)))
 (ss_cons (s_for g (i_over (f_v (g_sorted g 13 (v_o (f_v (g_lc1 [("j", 7)] g (i_j (gi1 g 11 (g_len g 7 (v_o (gv g))))) (fun s1 H1 C1 l1 f1 => (gp (Gd.blk g s1 H1 _ C1 l1 f1))) (fun s1 H1 C1 l1 f1 => (ts_one (w_t (w_and (t_cmp (op := .eq) (Gd.blk g s1 H1 _ C1 l1 f1) (v_o (v_idx (Gd.blk g s1 H1 _ C1 l1 f1) (v_o (gv (Gd.blk g s1 H1 _ C1 l1 f1))) (v_o (gv (Gd.blk g s1 H1 _ C1 l1 f1))))) (v_o (v_idx (Gd.blk g s1 H1 _ C1 l1 f1) (v_o (gv (Gd.blk g s1 H1 _ C1 l1 f1))) (v_o (gv (Gd.blk g s1 H1 _ C1 l1 f1)))))) (w_and1 (t_cmp (op := .ge) (Gd.blk g s1 H1 _ C1 l1 f1) (v_o (v_idx (Gd.blk g s1 H1 _ C1 l1 f1) (v_o (v_idx (Gd.blk g s1 H1 _ C1 l1 f1) (v_o (gv (Gd.blk g s1 H1 _ C1 l1 f1))) (v_o (gv (Gd.blk g s1 H1 _ C1 l1 f1))))) (v_o v_int))) (v_o (v_idx (Gd.blk g s1 H1 _ C1 l1 f1) (v_o (v_idx (Gd.blk g s1 H1 _ C1 l1 f1) (v_o (gv (Gd.blk g s1 H1 _ C1 l1 f1))) (v_o (gv (Gd.blk g s1 H1 _ C1 l1 f1))))) (v_o v_int))))))))) (fun s1 H1 C1 l1 f1 => (v_tup (a_cons (v_idx (Gd.blk g s1 H1 _ C1 l1 f1) (v_o (v_idx (Gd.blk g s1 H1 _ C1 l1 f1) (v_o (gv (Gd.blk g s1 H1 _ C1 l1 f1))) (v_o (gv (Gd.blk g s1 H1 _ C1 l1 f1))))) (v_o v_int)) (a_cons (gv (Gd.blk g s1 H1 _ C1 l1 f1)) a_nil)))))))))) (gp g (hf := .inl (hF _))) (ss_cons (s_if (t_cmp (op := .lt) g (v_o (v_idx g (v_o (gv g)) (v_o v_int))) (v_o (gv g))) (ss_cons (gs_par2 g (x_val (v_bin (op := .add) (v_o (gv g)) (v_o (f_v (f_lst (a_cons (v_idx g (v_o (gv g)) (v_o v_int)) a_nil))))) (x_val (v_bin (op := .sub) (v_o (v_bin (op := .add) (v_o (gv g)) (v_o (v_idx g (v_o (v_idx g (v_o (gv g)) (v_o (v_idx g (v_o (gv g)) (v_o v_int))))) (v_o v_int))))) (v_o (v_idx g (v_o (gv g)) (v_o v_int)))) x_nil)))
 ss_nil) ss_nil)
 ss_nil))
 (ss_cons (s_ret (g_tuple g 16 (v_o (f_v (g_sorted g 13 (v_o (gv g)))))))
 ss_nil)))
def N_f_law : List Str := [("script" : Str), ("w" : Str), ("turn" : Str), ("k" : Str), ("bookings" : Str), ("rows" : Str), ("due" : Str), ("base" : Str), ("thing" : Str), ("fixed" : Str), ("able" : Str), ("sets" : Str), ("found" : Str), ("key" : Str), ("own" : Str), ("begins" : Str), ("bad" : Str), ("tools" : Str), ("day" : Str), ("begin" : Str), ("right" : Str), ("kept" : Str), ("days" : Str), ("last" : Str), ("spans" : Str), ("long" : Str), ("more" : Str), ("ways" : Str), ("row" : Str), ("one" : Str)]
def c_f_law : CSs := (.cons (.asgS 1 (.dsp 0 (.cons (.str "draws") (.call 19 (.cons (.var 0) (.cons (.int 400) .nil))) (.cons (.str "at") (.int 0) .nil))))
 (.cons (.for_ (.nm 2) (.rng1 (.int 6)) (.cons (.par (nms [4, 17, 18]) [true, false, false] (.cons (.lst .nil) (.cons (.call 20 (.cons (.var 1) (.cons (.int 4) .nil))) (.cons (.call 20 (.cons (.var 1) (.cons (.int 9) .nil))) .nil))))
 (.cons (.for_ (.nm 3) (.rng1 (.call 20 (.cons (.var 1) (.cons (.int 6) .nil)))) (.cons (.asg false 19 (.call 20 (.cons (.var 1) (.cons (.int 8) .nil))))
 (.cons (.app 4 (.tup (.cons (.var 19) (.cons (.bin .add (.bin .add (.var 19) (.int 1)) (.call 20 (.cons (.var 1) (.cons (.int 5) .nil)))) .nil))))
 .nil)))
 (.cons (.asg false 4 (.bi .tuple (.cons (.bor 4) .nil)))
 (.frz [4] (.cons (.asg false 5 (.lc1 [28] (.var 28) (.nm 28) (.over (.call 23 (.cons (.bi .len (.cons (.bor 4) .nil)) (.cons (.var 17) .nil)))) (.cons (.call 25 (.cons (.var 4) (.cons (.var 28) .nil))) .nil)))
 (.frz [4] (.cons (.asg false 6 (.call 28 (.cons (.var 4) (.cons (.var 17) .nil))))
 (.frz [4] (.cons (.ife (.or_ (.cons (.cmp .ne (.cmp .eq (.idx (.var 6) (.int 0)) (.str "yes")) (.cmp .ne (.var 5) (.lst .nil))) (.cons (.not_ (.call 22 (.cons (.tup (.cons (.call 6 (.cons (.var 4) (.cons (.var 17) .nil))) (.cons (.call 5 (.cons (.var 4) (.cons (.var 18) .nil))) (.cons (.call 9 (.cons (.var 4) .nil)) .nil)))) (.cons (.tup (.cons (.var 6) (.cons (.bi .tuple (.cons (.call 24 (.cons (.var 4) (.cons (.var 18) .nil))) .nil)) (.cons (.call 26 (.cons (.var 4) .nil)) .nil)))) .nil)))) .nil))) (.cons (.ret (.bl false))
 .nil) .nil)
 (.cons (.asg false 7 (.ite (.cmp .ne (.var 5) (.lst .nil)) (.idx (.var 5) (.neg (.int 1))) (.bin .mul (.tup (.cons (.int 0) .nil)) (.bi .len (.cons (.bor 4) .nil)))))
 (.cons (.for_ (.nm 8) (.over (.tup (.cons (.var 7) (.cons (.ite (.cmp .ne (.var 5) (.lst .nil)) (.idx (.var 6) (.int 1)) .non) (.cons (.rev (.var 7)) (.cons (.cut (.var 7) (.cons (.int 1) .nil) .nil) (.cons (.bi .list (.cons (.var 7) .nil)) (.cons (.bin .add (.var 7) (.tup (.cons (.int 0) .nil))) (.cons (.bin .add (.tup (.cons (.bl true) .nil)) (.cut (.var 7) (.cons (.int 1) .nil) .nil)) (.cons (.bin .add (.tup (.cons (.str "0") .nil)) (.cut (.var 7) (.cons (.int 1) .nil) .nil)) (.cons (.bin .add (.tup (.cons (.var 17) .nil)) (.cut (.var 7) (.cons (.int 1) .nil) .nil)) (.cons (.bin .add (.tup (.cons (.neg (.int 1)) .nil)) (.cut (.var 7) (.cons (.int 1) .nil) .nil)) .nil)))))))))))) (.cons (.asg false 20 (.and_ (.cons (.isi .ttup (.var 8)) (.cons (.cmp .eq (.lc1 [29] (.var 29) (.nm 29) (.over (.var 8)) (.cons (.or_ (.cons (.not_ (.isi .tint (.var 29))) (.cons (.isi .tbool (.var 29)) .nil))) .nil)) (.lst .nil)) (.cons (.cmp .in_ (.var 8) (.var 5)) .nil)))))
 (.frz [4] (.cons (.ife (.not_ (.call 22 (.cons (.call 7 (.cons (.var 4) (.cons (.var 17) (.cons (.var 8) .nil)))) (.cons (.var 20) .nil)))) (.cons (.ret (.bl false))
 .nil) .nil)
 .nil))))
 (.cons (.asg false 9 (.bi .dict (.cons (.lc1 [3] (.tup (.cons (.var 3) (.cons (.call 20 (.cons (.var 1) (.cons (.bi .max (.cons (.int 1) (.cons (.var 17) .nil))) .nil))) .nil))) (.nm 3) (.rng1 (.bi .len (.cons (.bor 4) .nil))) (.cons (.and_ (.cons (.cmp .gt (.var 17) (.int 0)) (.cons (.cmp .eq (.call 20 (.cons (.var 1) (.cons (.int 3) .nil))) (.int 0)) .nil))) .nil)) .nil)))
 (.cons (.asg false 10 (.lc1 [28] (.var 28) (.nm 28) (.over (.var 5)) (.cons (.cmp .eq (.lc1 [3] (.var 3) (.nm 3) (.keys 9) (.cons (.cmp .ne (.idx (.var 28) (.var 3)) (.idx (.var 9) (.var 3))) .nil)) (.lst .nil)) .nil)))
 (.frz [4] (.cons (.ife (.not_ (.call 22 (.cons (.call 10 (.cons (.var 4) (.cons (.var 17) (.cons (.bi .dict (.cons (.var 9) .nil)) .nil)))) (.cons (.ite (.cmp .ne (.var 10) (.lst .nil)) (.idx (.var 10) (.int 0)) .non) .nil)))) (.cons (.ret (.bl false))
 .nil) .nil)
 (.cons (.asg false 11 (.lc1 [14] (.var 14) (.nm 14) (.over (.call 27 (.cons (.bi .len (.cons (.bor 4) .nil)) .nil))) (.cons (.cmp .le (.call 26 (.cons (.lc1 [3] (.idx (.bor 4) (.var 3)) (.nm 3) (.over (.var 14)) .nil) .nil)) (.var 17)) .nil)))
 (.cons (.par (nms [21, 22]) [false, false] (.cons (.bi .min (.cons (.lc1 [14] (.tup (.cons (.bin .sub (.int 0) (.bi .len (.cons (.var 14) .nil))) (.cons (.var 14) .nil))) (.nm 14) (.over (.var 11)) .nil) .nil)) (.cons (.bi .min (.cons (.lc1 [14] (.tup (.cons (.bin .sub (.int 0) (.bi .sum (.cons (.lc1 [3] (.bin .sub (.idx (.idx (.bor 4) (.var 3)) (.int 1)) (.idx (.idx (.bor 4) (.var 3)) (.int 0))) (.nm 3) (.over (.var 14)) .nil) .nil))) (.cons (.var 14) .nil))) (.nm 14) (.over (.var 11)) .nil) .nil)) .nil)))
 (.frz [4] (.cons (.ife (.not_ (.call 22 (.cons (.tup (.cons (.call 12 (.cons (.var 4) (.cons (.var 17) .nil))) (.cons (.call 14 (.cons (.var 4) (.cons (.var 17) .nil))) .nil))) (.cons (.tup (.cons (.tup (.cons (.bin .sub (.int 0) (.idx (.var 21) (.int 0))) (.cons (.idx (.var 21) (.int 1)) .nil))) (.cons (.tup (.cons (.bin .sub (.int 0) (.idx (.var 22) (.int 0))) (.cons (.idx (.var 22) (.int 1)) .nil))) .nil))) .nil)))) (.cons (.ret (.bl false))
 .nil) .nil)
 (.cons (.asg false 12 (.lst .nil))
 (.cons (.for_ (.nm 13) (.over (.bi .sorted (.cons (.lc1 [3] (.tup (.cons (.idx (.idx (.bor 4) (.var 3)) (.int 1)) (.cons (.var 3) .nil))) (.nm 3) (.rng1 (.bi .len (.cons (.bor 4) .nil))) .nil) .nil))) (.cons (.asg false 12 (.bin .add (.var 12) (.ite (.cmp .le (.call 26 (.cons (.lc1 [3] (.idx (.bor 4) (.var 3)) (.nm 3) (.over (.bin .add (.var 12) (.lst (.cons (.idx (.var 13) (.int 1)) .nil)))) .nil) .nil)) (.var 17)) (.lst (.cons (.idx (.var 13) (.int 1)) .nil)) (.lst .nil))))
 .nil))
 (.frz [4] (.cons (.ife (.or_ (.cons (.cmp .ne (.bi .len (.cons (.var 12) .nil)) (.bin .sub (.int 0) (.idx (.var 21) (.int 0)))) (.cons (.not_ (.call 22 (.cons (.call 13 (.cons (.var 4) (.cons (.var 17) .nil))) (.cons (.bi .tuple (.cons (.bi .sorted (.cons (.var 12) .nil)) .nil)) .nil)))) .nil))) (.cons (.ret (.bl false))
 .nil) .nil)
 (.cons (.par (nms [23, 24, 25]) [false, false, false] (.cons (.bin .add (.var 18) (.call 20 (.cons (.var 1) (.cons (.int 6) .nil)))) (.cons (.lst .nil) (.cons (.bin .add (.int 1) (.call 20 (.cons (.var 1) (.cons (.int 4) .nil)))) .nil))))
 (.frz [4] (.cons (.for_ (.nm 14) (.over (.lc1 [29] (.var 29) (.nm 29) (.rng2 (.var 18) (.bin .add (.var 23) (.int 1))) (.cons (.cmp .lt (.bi .len (.cons (.call 24 (.cons (.var 4) (.cons (.var 29) .nil))) .nil)) (.var 17)) .nil))) (.cons (.asg false 24 (.ite (.and_ (.cons (.cmp .ne (.var 24) (.lst .nil)) (.cons (.cmp .eq (.idx (.idx (.var 24) (.neg (.int 1))) (.int 1)) (.var 14)) .nil))) (.bin .add (.cut (.var 24) .nil (.cons (.neg (.int 1)) .nil)) (.lst (.cons (.tup (.cons (.idx (.idx (.var 24) (.neg (.int 1))) (.int 0)) (.cons (.bin .add (.var 14) (.int 1)) .nil))) .nil))) (.bin .add (.var 24) (.lst (.cons (.tup (.cons (.var 14) (.cons (.bin .add (.var 14) (.int 1)) .nil))) .nil)))))
 .nil))
 (.frz [4] (.cons (.asg false 15 (.lc1 [14] (.var 14) (.nm 14) (.rng2 (.var 18) (.int 30)) (.cons (.and_ (.cons (.cmp .gt (.var 17) (.int 0)) (.cons (.cmp .eq (.lc1 [29] (.var 29) (.nm 29) (.rng2 (.var 14) (.bin .add (.var 14) (.var 25))) (.cons (.cmp .ge (.bi .len (.cons (.call 24 (.cons (.var 4) (.cons (.var 29) .nil))) .nil)) (.var 17)) .nil)) (.lst .nil)) .nil))) .nil)))
 (.frz [4] (.cons (.ife (.not_ (.call 22 (.cons (.tup (.cons (.call 15 (.cons (.var 4) (.cons (.var 17) (.cons (.var 18) (.cons (.var 23) .nil))))) (.cons (.call 16 (.cons (.var 4) (.cons (.var 17) (.cons (.var 18) (.cons (.var 25) .nil))))) .nil))) (.cons (.tup (.cons (.bi .tuple (.cons (.var 24) .nil)) (.cons (.ite (.cmp .gt (.var 17) (.int 0)) (.idx (.var 15) (.int 0)) .non) .nil))) .nil)))) (.cons (.ret (.bl false))
 .nil) .nil)
 (.cons (.ife (.cmp .ne (.var 5) (.lst .nil)) (.cons (.asg false 26 (.tup (.cons (.var 18) (.cons (.bin .add (.var 18) (.var 25)) .nil))))
 (.cons (.asg false 27 (.lc1 [28] (.tup (.cons (.bi .len (.cons (.lc1 [3] (.var 3) (.nm 3) (.rng1 (.bi .len (.cons (.var 7) .nil))) (.cons (.cmp .ne (.idx (.var 28) (.var 3)) (.idx (.var 7) (.var 3))) .nil)) .nil)) (.cons (.var 28) .nil))) (.nm 28) (.over (.call 23 (.cons (.bin .add (.bi .len (.cons (.bor 4) .nil)) (.int 1)) (.cons (.var 17) .nil)))) (.cons (.call 25 (.cons (.bin .add (.bor 4) (.tup (.cons (.var 26) .nil))) (.cons (.var 28) .nil))) .nil)))
 (.frz [4] (.cons (.ife (.not_ (.call 22 (.cons (.call 17 (.cons (.var 4) (.cons (.var 7) (.cons (.var 17) (.cons (.var 26) .nil))))) (.cons (.ite (.cmp .ne (.var 27) (.lst .nil)) (.bi .min (.cons (.var 27) .nil)) .non) .nil)))) (.cons (.ret (.bl false))
 .nil) .nil)
 (.cons (.ife (.cmp .ne (.bor 4) (.tup .nil)) (.cons (.par (nms [3, 22]) [false, false] (.cons (.call 20 (.cons (.var 1) (.cons (.bi .len (.cons (.bor 4) .nil)) .nil))) (.cons (.call 20 (.cons (.var 1) (.cons (.int 5) .nil))) .nil)))
 (.frz [4] (.cons (.ife (.not_ (.call 22 (.cons (.call 18 (.cons (.var 4) (.cons (.var 7) (.cons (.var 3) (.cons (.var 22) .nil))))) (.cons (.call 29 (.cons (.var 4) (.cons (.var 7) (.cons (.var 3) (.cons (.var 22) .nil))))) .nil)))) (.cons (.ret (.bl false))
 .nil) .nil)
 .nil))) .nil)
 .nil))))) .nil)
 (.frz [4] (.cons (.ife (.and_ (.cons (.cmp .gt (.bi .len (.cons (.bor 4) .nil)) (.int 1)) (.cons (.not_ (.call 22 (.cons (.call 8 (.cons (.idx (.bor 4) (.int 0)) (.cons (.idx (.bor 4) (.int 1)) .nil))) (.cons (.cmp .ne (.lc1 [14] (.var 14) (.nm 14) (.rng1 (.int 16)) (.cons (.and_ (.cons (.cmp .in_ (.int 0) (.call 24 (.cons (.var 4) (.cons (.var 14) .nil)))) (.cons (.cmp .in_ (.int 1) (.call 24 (.cons (.var 4) (.cons (.var 14) .nil)))) .nil))) .nil)) (.lst .nil)) .nil)))) .nil))) (.cons (.ret (.bl false))
 .nil) .nil)
 (.cons (.for_ (.nm 16) (.over (.tup (.cons (.bi .list (.cons (.bor 4) .nil)) (.cons .non (.cons (.bin .add (.bor 4) (.tup (.cons (.tup (.cons (.int 1) (.cons (.int 1) .nil))) .nil))) (.cons (.bin .add (.bor 4) (.tup (.cons (.tup (.cons (.int 2) (.cons (.int 1) .nil))) .nil))) (.cons (.bin .add (.bor 4) (.tup (.cons (.tup (.cons (.neg (.int 1)) (.cons (.int 1) .nil))) .nil))) (.cons (.bin .add (.bor 4) (.tup (.cons (.tup (.cons (.int 1) .nil)) .nil))) (.cons (.bin .add (.bor 4) (.tup (.cons (.tup (.cons (.bl true) (.cons (.int 3) .nil))) .nil))) (.cons (.bin .add (.bor 4) (.tup (.cons (.tup (.cons (.int 0) (.cons .non .nil))) .nil))) (.cons (.bin .add (.bor 4) (.tup (.cons (.int 3) .nil))) .nil))))))))))) (.cons (.ife (.not_ (.call 22 (.cons (.call 4 (.cons (.var 16) .nil)) (.cons (.bl false) .nil)))) (.cons (.ret (.bl false))
 .nil) .nil)
 .nil))
 (.frz [4] (.cons (.ife (.not_ (.call 22 (.cons (.call 4 (.cons (.var 4) .nil)) (.cons (.bl true) .nil)))) (.cons (.ret (.bl false))
 .nil) .nil)
 .nil)))))))))))))))))))))))))))))))))))))
 (.cons (.ret (.bl true))
 .nil)))
theorem w_f_law {Φ : Fns} {X : Cx} (g : Gd TT Φ N_f_law (defScope (top 33)) X) (hF : ∀ x, X.fn x = true) : PSs_ Φ X (defBody (top 33)) c_f_law := (ss_cons (gs_asgS g hF (f_dsp (d_cons v_str (g_call g 19 (a_cons (gv g) (a_cons v_int a_nil))) (d_cons v_str v_int d_nil))))
 (ss_cons (s_for g (gi1 g 11 v_int) (gp g (hf := .inl (hF _))) (ss_cons (gs_parN g (gn g hF (gn g hF (gn g hF n_nil))) (x_own (f_lst a_nil) (x_val (g_call g 20 (a_cons (gv g) (a_cons v_int a_nil))) (x_val (g_call g 20 (a_cons (gv g) (a_cons v_int a_nil))) x_nil))))
 (ss_cons (s_for g (gi1 g 11 (g_call g 20 (a_cons (gv g) (a_cons v_int a_nil)))) (gp g (hf := .inl (hF _))) (ss_cons (gs_asg g hF (g_call g 20 (a_cons (gv g) (a_cons v_int a_nil))))
 (ss_cons (gs_app g (v_tup (a_cons (gv g) (a_cons (v_bin (op := .add) (v_o (v_bin (op := .add) (v_o (gv g)) (v_o v_int))) (v_o (g_call g 20 (a_cons (gv g) (a_cons v_int a_nil))))) a_nil))))
 ss_nil)))
 (ss_cons (gs_asg g hF (g_tuple g 16 (gb g)))
 (ss_frz (ss_cons (s_ofV (g_lc1S [("row", 28)] g (i_j (i_over (g_call g 23 (a_cons (g_len g 7 (gb g)) (a_cons (gv g) a_nil))))) (fun s1 H1 C1 l1 f1 => (gp (Gd.blk g s1 H1 _ C1 l1 f1))) (fun s1 H1 C1 l1 f1 => (ts_one (t_val (g_call (Gd.blk g s1 H1 _ C1 l1 f1) 25 (a_cons (gv (Gd.blk g s1 H1 _ C1 l1 f1)) (a_cons (gv (Gd.blk g s1 H1 _ C1 l1 f1)) a_nil)))))) (fun s1 H1 C1 l1 f1 => (gv (Gd.blk g s1 H1 _ C1 l1 f1)))))
 (ss_frz (ss_cons (gs_asg g hF (g_call g 28 (a_cons (gv g) (a_cons (gv g) a_nil))))
 (ss_frz (ss_cons (s_if (w_t (w_or (t_cmp (op := .ne) g (v_o (v_cmp (op := .eq) g (v_o (v_idx g (v_o (gv g)) (v_o v_int))) (v_o v_str))) (v_o (v_cmp (op := .ne) g (v_o (gv g)) (v_o (f_v (f_lst a_nil)))))) (w_or1 (t_not (t_val (g_call g 22 (a_cons (v_tup (a_cons (g_call g 6 (a_cons (gv g) (a_cons (gv g) a_nil))) (a_cons (g_call g 5 (a_cons (gv g) (a_cons (gv g) a_nil))) (a_cons (g_call g 9 (a_cons (gv g) a_nil)) a_nil)))) (a_cons (v_tup (a_cons (gv g) (a_cons (g_tuple g 16 (v_o (g_call g 24 (a_cons (gv g) (a_cons (gv g) a_nil))))) (a_cons (g_call g 26 (a_cons (gv g) a_nil)) a_nil)))) a_nil)))))))) (ss_cons (s_ret v_bl)
 ss_nil) ss_nil)
 (ss_cons (gs_asg g hF (v_ite (t_cmp (op := .ne) g (v_o (gv g)) (v_o (f_v (f_lst a_nil)))) (v_idx g (v_o (gv g)) (v_o (v_neg (v_o v_int)))) (v_bin (op := .mul) (v_o (v_tup (a_cons v_int a_nil))) (v_o (g_len g 7 (gb g))))))
 (ss_cons (s_for g (i_over (v_tup (a_cons (gv g) (a_cons (v_ite (t_cmp (op := .ne) g (v_o (gv g)) (v_o (f_v (f_lst a_nil)))) (v_idx g (v_o (gv g)) (v_o v_int)) v_non) (a_cons (v_rev (v_o (gv g))) (a_cons (v_cut (v_o (gv g)) (pt_some v_int) pt_none) (a_cons (f_v (g_list g 8 (v_o (gv g)))) (a_cons (v_bin (op := .add) (v_o (gv g)) (v_o (v_tup (a_cons v_int a_nil)))) (a_cons (v_bin (op := .add) (v_o (v_tup (a_cons v_bl a_nil))) (v_o (v_cut (v_o (gv g)) (pt_some v_int) pt_none))) (a_cons (v_bin (op := .add) (v_o (v_tup (a_cons v_str a_nil))) (v_o (v_cut (v_o (gv g)) (pt_some v_int) pt_none))) (a_cons (v_bin (op := .add) (v_o (v_tup (a_cons (gv g) a_nil))) (v_o (v_cut (v_o (gv g)) (pt_some v_int) pt_none))) (a_cons (v_bin (op := .add) (v_o (v_tup (a_cons (v_neg (v_o v_int)) a_nil))) (v_o (v_cut (v_o (gv g)) (pt_some v_int) pt_none))) a_nil)))))))))))) (gp g (hf := .inl (hF _))) (ss_cons (gs_asg g hF (v_and (g_isi .ttup g 6 16 (v_o (gv g))) (v_and (v_cmp (op := .eq) g (v_o (f_v (g_lc1 [("one", 29)] g (i_j (i_over (gv g))) (fun s1 H1 C1 l1 f1 => (gp (Gd.blk g s1 H1 _ C1 l1 f1))) (fun s1 H1 C1 l1 f1 => (ts_one (w_t (w_or (t_not (t_val (g_isi .tint (Gd.blk g s1 H1 _ C1 l1 f1) 6 5 (v_o (gv (Gd.blk g s1 H1 _ C1 l1 f1)))))) (w_or1 (t_val (g_isi .tbool (Gd.blk g s1 H1 _ C1 l1 f1) 6 3 (v_o (gv (Gd.blk g s1 H1 _ C1 l1 f1)))))))))) (fun s1 H1 C1 l1 f1 => (gv (Gd.blk g s1 H1 _ C1 l1 f1)))))) (v_o (f_v (f_lst a_nil)))) (v_and1 (v_cmp (op := .in_) g (v_o (gv g)) (v_o (gv g)))))))
 (ss_frz (ss_cons (s_if (t_not (t_val (g_call g 22 (a_cons (g_call g 7 (a_cons (gv g) (a_cons (gv g) (a_cons (gv g) a_nil)))) (a_cons (gv g) a_nil))))) (ss_cons (s_ret v_bl)
 ss_nil) ss_nil)
 ss_nil))))
 (ss_cons (gs_asg g hF (f_v (g_dict g 4 (v_o (f_v (g_lc1 [("k", 3)] g (i_j (gi1 g 11 (g_len g 7 (gb g)))) (fun s1 H1 C1 l1 f1 => (gp (Gd.blk g s1 H1 _ C1 l1 f1))) (fun s1 H1 C1 l1 f1 => (ts_one (w_t (w_and (t_cmp (op := .gt) (Gd.blk g s1 H1 _ C1 l1 f1) (v_o (gv (Gd.blk g s1 H1 _ C1 l1 f1))) (v_o v_int)) (w_and1 (t_cmp (op := .eq) (Gd.blk g s1 H1 _ C1 l1 f1) (v_o (g_call (Gd.blk g s1 H1 _ C1 l1 f1) 20 (a_cons (gv (Gd.blk g s1 H1 _ C1 l1 f1)) (a_cons v_int a_nil)))) (v_o v_int))))))) (fun s1 H1 C1 l1 f1 => (v_tup (a_cons (gv (Gd.blk g s1 H1 _ C1 l1 f1)) (a_cons (g_call (Gd.blk g s1 H1 _ C1 l1 f1) 20 (a_cons (gv (Gd.blk g s1 H1 _ C1 l1 f1)) (a_cons (g_max2 (Gd.blk g s1 H1 _ C1 l1 f1) 9 (v_o v_int) (v_o (gv (Gd.blk g s1 H1 _ C1 l1 f1)))) a_nil))) a_nil))))))))))
 (ss_cons (s_ofV (g_lc1S [("row", 28)] g (i_j (i_over (gv g))) (fun s1 H1 C1 l1 f1 => (gp (Gd.blk g s1 H1 _ C1 l1 f1))) (fun s1 H1 C1 l1 f1 => (ts_one (t_cmp (op := .eq) (Gd.blk g s1 H1 _ C1 l1 f1) (v_o (f_v (g_lc1K [("k", 3)] (Gd.blk g s1 H1 _ C1 l1 f1) 9 (fun s2 H2 C2 l2 f2 => (gp (Gd.blk (Gd.blk g s1 H1 _ C1 l1 f1) s2 H2 _ C2 l2 f2))) (fun s2 H2 C2 l2 f2 => (ts_one (t_cmp (op := .ne) (Gd.blk (Gd.blk g s1 H1 _ C1 l1 f1) s2 H2 _ C2 l2 f2) (v_o (v_idx (Gd.blk (Gd.blk g s1 H1 _ C1 l1 f1) s2 H2 _ C2 l2 f2) (v_o (gv (Gd.blk (Gd.blk g s1 H1 _ C1 l1 f1) s2 H2 _ C2 l2 f2))) (v_o (gv (Gd.blk (Gd.blk g s1 H1 _ C1 l1 f1) s2 H2 _ C2 l2 f2))))) (v_o (v_idx (Gd.blk (Gd.blk g s1 H1 _ C1 l1 f1) s2 H2 _ C2 l2 f2) (v_o (gv (Gd.blk (Gd.blk g s1 H1 _ C1 l1 f1) s2 H2 _ C2 l2 f2))) (v_o (gv (Gd.blk (Gd.blk g s1 H1 _ C1 l1 f1) s2 H2 _ C2 l2 f2)))))))) (fun s2 H2 C2 l2 f2 => (gv (Gd.blk (Gd.blk g s1 H1 _ C1 l1 f1) s2 H2 _ C2 l2 f2)))))) (v_o (f_v (f_lst a_nil)))))) (fun s1 H1 C1 l1 f1 => (gv (Gd.blk g s1 H1 _ C1 l1 f1)))))
 (ss_frz (ss_cons (s_if (t_not (t_val (g_call g 22 (a_cons (g_call g 10 (a_cons (gv g) (a_cons (gv g) (a_cons (f_v (g_dict g 4 (v_o (gv g)))) a_nil)))) (a_cons (v_ite (t_cmp (op := .ne) g (v_o (gv g)) (v_o (f_v (f_lst a_nil)))) (v_idx g (v_o (gv g)) (v_o v_int)) v_non) a_nil))))) (ss_cons (s_ret v_bl)
 ss_nil) ss_nil)
 (ss_cons (s_ofV (g_lc1S [("own", 14)] g (i_j (i_over (g_call g 27 (a_cons (g_len g 7 (gb g)) a_nil)))) (fun s1 H1 C1 l1 f1 => (gp (Gd.blk g s1 H1 _ C1 l1 f1))) (fun s1 H1 C1 l1 f1 => (ts_one (t_cmp (op := .le) (Gd.blk g s1 H1 _ C1 l1 f1) (v_o (g_call (Gd.blk g s1 H1 _ C1 l1 f1) 26 (a_cons (f_v (g_lc1 [("k", 3)] (Gd.blk g s1 H1 _ C1 l1 f1) (i_j (i_over (gv (Gd.blk g s1 H1 _ C1 l1 f1)))) (fun s2 H2 C2 l2 f2 => (gp (Gd.blk (Gd.blk g s1 H1 _ C1 l1 f1) s2 H2 _ C2 l2 f2))) (fun s2 H2 C2 l2 f2 => ts_nil) (fun s2 H2 C2 l2 f2 => (v_idx (Gd.blk (Gd.blk g s1 H1 _ C1 l1 f1) s2 H2 _ C2 l2 f2) (gb (Gd.blk (Gd.blk g s1 H1 _ C1 l1 f1) s2 H2 _ C2 l2 f2)) (v_o (gv (Gd.blk (Gd.blk g s1 H1 _ C1 l1 f1) s2 H2 _ C2 l2 f2))))))) a_nil))) (v_o (gv (Gd.blk g s1 H1 _ C1 l1 f1)))))) (fun s1 H1 C1 l1 f1 => (gv (Gd.blk g s1 H1 _ C1 l1 f1)))))
 (ss_cons (gs_par2 g (x_val (g_min g 10 (v_o (f_v (g_lc1 [("own", 14)] g (i_j (i_over (gv g))) (fun s1 H1 C1 l1 f1 => (gp (Gd.blk g s1 H1 _ C1 l1 f1))) (fun s1 H1 C1 l1 f1 => ts_nil) (fun s1 H1 C1 l1 f1 => (v_tup (a_cons (v_bin (op := .sub) (v_o v_int) (v_o (g_len (Gd.blk g s1 H1 _ C1 l1 f1) 7 (v_o (gv (Gd.blk g s1 H1 _ C1 l1 f1)))))) (a_cons (gv (Gd.blk g s1 H1 _ C1 l1 f1)) a_nil)))))))) (x_val (g_min g 10 (v_o (f_v (g_lc1 [("own", 14)] g (i_j (i_over (gv g))) (fun s1 H1 C1 l1 f1 => (gp (Gd.blk g s1 H1 _ C1 l1 f1))) (fun s1 H1 C1 l1 f1 => ts_nil) (fun s1 H1 C1 l1 f1 => (v_tup (a_cons (v_bin (op := .sub) (v_o v_int) (v_o (g_sum (Gd.blk g s1 H1 _ C1 l1 f1) 15 (v_o (f_v (g_lc1 [("k", 3)] (Gd.blk g s1 H1 _ C1 l1 f1) (i_j (i_over (gv (Gd.blk g s1 H1 _ C1 l1 f1)))) (fun s2 H2 C2 l2 f2 => (gp (Gd.blk (Gd.blk g s1 H1 _ C1 l1 f1) s2 H2 _ C2 l2 f2))) (fun s2 H2 C2 l2 f2 => ts_nil) (fun s2 H2 C2 l2 f2 => (v_bin (op := .sub) (v_o (v_idx (Gd.blk (Gd.blk g s1 H1 _ C1 l1 f1) s2 H2 _ C2 l2 f2) (v_o (v_idx (Gd.blk (Gd.blk g s1 H1 _ C1 l1 f1) s2 H2 _ C2 l2 f2) (gb (Gd.blk (Gd.blk g s1 H1 _ C1 l1 f1) s2 H2 _ C2 l2 f2)) (v_o (gv (Gd.blk (Gd.blk g s1 H1 _ C1 l1 f1) s2 H2 _ C2 l2 f2))))) (v_o v_int))) (v_o (v_idx (Gd.blk (Gd.blk g s1 H1 _ C1 l1 f1) s2 H2 _ C2 l2 f2) (v_o (v_idx (Gd.blk (Gd.blk g s1 H1 _ C1 l1 f1) s2 H2 _ C2 l2 f2) (gb (Gd.blk (Gd.blk g s1 H1 _ C1 l1 f1) s2 H2 _ C2 l2 f2)) (v_o (gv (Gd.blk (Gd.blk g s1 H1 _ C1 l1 f1) s2 H2 _ C2 l2 f2))))) (v_o v_int))))))))))) (a_cons (gv (Gd.blk g s1 H1 _ C1 l1 f1)) a_nil)))))))) x_nil)))
 (ss_frz (ss_cons (s_if (t_not (t_val (g_call g 22 (a_cons (v_tup (a_cons (g_call g 12 (a_cons (gv g) (a_cons (gv g) a_nil))) (a_cons (g_call g 14 (a_cons (gv g) (a_cons (gv g) a_nil))) a_nil))) (a_cons (v_tup (a_cons (v_tup (a_cons (v_bin (op := .sub) (v_o v_int) (v_o (v_idx g (v_o (gv g)) (v_o v_int)))) (a_cons (v_idx g (v_o (gv g)) (v_o v_int)) a_nil))) (a_cons (v_tup (a_cons (v_bin (op := .sub) (v_o v_int) (v_o (v_idx g (v_o (gv g)) (v_o v_int)))) (a_cons (v_idx g (v_o (gv g)) (v_o v_int)) a_nil))) a_nil))) a_nil))))) (ss_cons (s_ret v_bl)
 ss_nil) ss_nil)
 (ss_cons (gs_asg g hF (f_v (f_lst a_nil)))
 (ss_cons (s_for g (i_over (f_v (g_sorted g 13 (v_o (f_v (g_lc1 [("k", 3)] g (i_j (gi1 g 11 (g_len g 7 (gb g)))) (fun s1 H1 C1 l1 f1 => (gp (Gd.blk g s1 H1 _ C1 l1 f1))) (fun s1 H1 C1 l1 f1 => ts_nil) (fun s1 H1 C1 l1 f1 => (v_tup (a_cons (v_idx (Gd.blk g s1 H1 _ C1 l1 f1) (v_o (v_idx (Gd.blk g s1 H1 _ C1 l1 f1) (gb (Gd.blk g s1 H1 _ C1 l1 f1)) (v_o (gv (Gd.blk g s1 H1 _ C1 l1 f1))))) (v_o v_int)) (a_cons (gv (Gd.blk g s1 H1 _ C1 l1 f1)) a_nil)))))))))) (gp g (hf := .inl (hF _))) (ss_cons (gs_asg g hF (v_bin (op := .add) (v_o (gv g)) (v_o (v_ite (t_cmp (op := .le) g (v_o (g_call g 26 (a_cons (f_v (g_lc1 [("k", 3)] g (i_j (i_over (v_bin (op := .add) (v_o (gv g)) (v_o (f_v (f_lst (a_cons (v_idx g (v_o (gv g)) (v_o v_int)) a_nil))))))) (fun s1 H1 C1 l1 f1 => (gp (Gd.blk g s1 H1 _ C1 l1 f1))) (fun s1 H1 C1 l1 f1 => ts_nil) (fun s1 H1 C1 l1 f1 => (v_idx (Gd.blk g s1 H1 _ C1 l1 f1) (gb (Gd.blk g s1 H1 _ C1 l1 f1)) (v_o (gv (Gd.blk g s1 H1 _ C1 l1 f1))))))) a_nil))) (v_o (gv g))) (f_v (f_lst (a_cons (v_idx g (v_o (gv g)) (v_o v_int)) a_nil))) (f_v (f_lst a_nil))))))
 ss_nil))
 (ss_frz (ss_cons (s_if (w_t (w_or (t_cmp (op := .ne) g (v_o (g_len g 7 (v_o (gv g)))) (v_o (v_bin (op := .sub) (v_o v_int) (v_o (v_idx g (v_o (gv g)) (v_o v_int)))))) (w_or1 (t_not (t_val (g_call g 22 (a_cons (g_call g 13 (a_cons (gv g) (a_cons (gv g) a_nil))) (a_cons (g_tuple g 16 (v_o (f_v (g_sorted g 13 (v_o (gv g)))))) a_nil)))))))) (ss_cons (s_ret v_bl)
 ss_nil) ss_nil)
 (ss_cons (gs_parN g (gn g hF (gn g hF (gn g hF n_nil))) (x_val (v_bin (op := .add) (v_o (gv g)) (v_o (g_call g 20 (a_cons (gv g) (a_cons v_int a_nil))))) (x_val (f_v (f_lst a_nil)) (x_val (v_bin (op := .add) (v_o v_int) (v_o (g_call g 20 (a_cons (gv g) (a_cons v_int a_nil))))) x_nil))))
 (ss_frz (ss_cons (s_for g (i_over (f_v (g_lc1 [("one", 29)] g (i_j (gi2 g 11 (gv g) (v_bin (op := .add) (v_o (gv g)) (v_o v_int)))) (fun s1 H1 C1 l1 f1 => (gp (Gd.blk g s1 H1 _ C1 l1 f1))) (fun s1 H1 C1 l1 f1 => (ts_one (t_cmp (op := .lt) (Gd.blk g s1 H1 _ C1 l1 f1) (v_o (g_len (Gd.blk g s1 H1 _ C1 l1 f1) 7 (v_o (g_call (Gd.blk g s1 H1 _ C1 l1 f1) 24 (a_cons (gv (Gd.blk g s1 H1 _ C1 l1 f1)) (a_cons (gv (Gd.blk g s1 H1 _ C1 l1 f1)) a_nil)))))) (v_o (gv (Gd.blk g s1 H1 _ C1 l1 f1)))))) (fun s1 H1 C1 l1 f1 => (gv (Gd.blk g s1 H1 _ C1 l1 f1)))))) (gp g (hf := .inl (hF _))) (ss_cons (gs_asg g hF (v_ite (w_t (w_and (t_cmp (op := .ne) g (v_o (gv g)) (v_o (f_v (f_lst a_nil)))) (w_and1 (t_cmp (op := .eq) g (v_o (v_idx g (v_o (v_idx g (v_o (gv g)) (v_o (v_neg (v_o v_int))))) (v_o v_int))) (v_o (gv g)))))) (v_bin (op := .add) (v_o (v_cut (v_o (gv g)) pt_none (pt_some (v_neg (v_o v_int))))) (v_o (f_v (f_lst (a_cons (v_tup (a_cons (v_idx g (v_o (v_idx g (v_o (gv g)) (v_o (v_neg (v_o v_int))))) (v_o v_int)) (a_cons (v_bin (op := .add) (v_o (gv g)) (v_o v_int)) a_nil))) a_nil))))) (v_bin (op := .add) (v_o (gv g)) (v_o (f_v (f_lst (a_cons (v_tup (a_cons (gv g) (a_cons (v_bin (op := .add) (v_o (gv g)) (v_o v_int)) a_nil))) a_nil)))))))
 ss_nil))
 (ss_frz (ss_cons (s_ofV (g_lc1S [("own", 14)] g (i_j (gi2 g 11 (gv g) v_int)) (fun s1 H1 C1 l1 f1 => (gp (Gd.blk g s1 H1 _ C1 l1 f1))) (fun s1 H1 C1 l1 f1 => (ts_one (w_t (w_and (t_cmp (op := .gt) (Gd.blk g s1 H1 _ C1 l1 f1) (v_o (gv (Gd.blk g s1 H1 _ C1 l1 f1))) (v_o v_int)) (w_and1 (t_cmp (op := .eq) (Gd.blk g s1 H1 _ C1 l1 f1) (v_o (f_v (g_lc1 [("one", 29)] (Gd.blk g s1 H1 _ C1 l1 f1) (i_j (gi2 (Gd.blk g s1 H1 _ C1 l1 f1) 11 (gv (Gd.blk g s1 H1 _ C1 l1 f1)) (v_bin (op := .add) (v_o (gv (Gd.blk g s1 H1 _ C1 l1 f1))) (v_o (gv (Gd.blk g s1 H1 _ C1 l1 f1)))))) (fun s2 H2 C2 l2 f2 => (gp (Gd.blk (Gd.blk g s1 H1 _ C1 l1 f1) s2 H2 _ C2 l2 f2))) (fun s2 H2 C2 l2 f2 => (ts_one (t_cmp (op := .ge) (Gd.blk (Gd.blk g s1 H1 _ C1 l1 f1) s2 H2 _ C2 l2 f2) (v_o (g_len (Gd.blk (Gd.blk g s1 H1 _ C1 l1 f1) s2 H2 _ C2 l2 f2) 7 (v_o (g_call (Gd.blk (Gd.blk g s1 H1 _ C1 l1 f1) s2 H2 _ C2 l2 f2) 24 (a_cons (gv (Gd.blk (Gd.blk g s1 H1 _ C1 l1 f1) s2 H2 _ C2 l2 f2)) (a_cons (gv (Gd.blk (Gd.blk g s1 H1 _ C1 l1 f1) s2 H2 _ C2 l2 f2)) a_nil)))))) (v_o (gv (Gd.blk (Gd.blk g s1 H1 _ C1 l1 f1) s2 H2 _ C2 l2 f2)))))) (fun s2 H2 C2 l2 f2 => (gv (Gd.blk (Gd.blk g s1 H1 _ C1 l1 f1) s2 H2 _ C2 l2 f2)))))) (v_o (f_v (f_lst a_nil))))))))) (fun s1 H1 C1 l1 f1 => (gv (Gd.blk g s1 H1 _ C1 l1 f1)))))
 (ss_frz (ss_cons (s_if (t_not (t_val (g_call g 22 (a_cons (v_tup (a_cons (g_call g 15 (a_cons (gv g) (a_cons (gv g) (a_cons (gv g) (a_cons (gv g) a_nil))))) (a_cons (g_call g 16 (a_cons (gv g) (a_cons (gv g) (a_cons (gv g) (a_cons (gv g) a_nil))))) a_nil))) (a_cons (v_tup (a_cons (g_tuple g 16 (v_o (gv g))) (a_cons (v_ite (t_cmp (op := .gt) g (v_o (gv g)) (v_o v_int)) (v_idx g (v_o (gv g)) (v_o v_int)) v_non) a_nil))) a_nil))))) (ss_cons (s_ret v_bl)
 ss_nil) ss_nil)
 (ss_cons (s_if (t_cmp (op := .ne) g (v_o (gv g)) (v_o (f_v (f_lst a_nil)))) (ss_cons (gs_asg g hF (v_tup (a_cons (gv g) (a_cons (v_bin (op := .add) (v_o (gv g)) (v_o (gv g))) a_nil))))
 (ss_cons (s_ofV (g_lc1S [("row", 28)] g (i_j (i_over (g_call g 23 (a_cons (v_bin (op := .add) (v_o (g_len g 7 (gb g))) (v_o v_int)) (a_cons (gv g) a_nil))))) (fun s1 H1 C1 l1 f1 => (gp (Gd.blk g s1 H1 _ C1 l1 f1))) (fun s1 H1 C1 l1 f1 => (ts_one (t_val (g_call (Gd.blk g s1 H1 _ C1 l1 f1) 25 (a_cons (v_bin (op := .add) (gb (Gd.blk g s1 H1 _ C1 l1 f1)) (v_o (v_tup (a_cons (gv (Gd.blk g s1 H1 _ C1 l1 f1)) a_nil)))) (a_cons (gv (Gd.blk g s1 H1 _ C1 l1 f1)) a_nil)))))) (fun s1 H1 C1 l1 f1 => (v_tup (a_cons (g_len (Gd.blk g s1 H1 _ C1 l1 f1) 7 (v_o (f_v (g_lc1 [("k", 3)] (Gd.blk g s1 H1 _ C1 l1 f1) (i_j (gi1 (Gd.blk g s1 H1 _ C1 l1 f1) 11 (g_len (Gd.blk g s1 H1 _ C1 l1 f1) 7 (v_o (gv (Gd.blk g s1 H1 _ C1 l1 f1)))))) (fun s2 H2 C2 l2 f2 => (gp (Gd.blk (Gd.blk g s1 H1 _ C1 l1 f1) s2 H2 _ C2 l2 f2))) (fun s2 H2 C2 l2 f2 => (ts_one (t_cmp (op := .ne) (Gd.blk (Gd.blk g s1 H1 _ C1 l1 f1) s2 H2 _ C2 l2 f2) (v_o (v_idx (Gd.blk (Gd.blk g s1 H1 _ C1 l1 f1) s2 H2 _ C2 l2 f2) (v_o (gv (Gd.blk (Gd.blk g s1 H1 _ C1 l1 f1) s2 H2 _ C2 l2 f2))) (v_o (gv (Gd.blk (Gd.blk g s1 H1 _ C1 l1 f1) s2 H2 _ C2 l2 f2))))) (v_o (v_idx (Gd.blk (Gd.blk g s1 H1 _ C1 l1 f1) s2 H2 _ C2 l2 f2) (v_o (gv (Gd.blk (Gd.blk g s1 H1 _ C1 l1 f1) s2 H2 _ C2 l2 f2))) (v_o (gv (Gd.blk (Gd.blk g s1 H1 _ C1 l1 f1) s2 H2 _ C2 l2 f2)))))))) (fun s2 H2 C2 l2 f2 => (gv (Gd.blk (Gd.blk g s1 H1 _ C1 l1 f1) s2 H2 _ C2 l2 f2))))))) (a_cons (gv (Gd.blk g s1 H1 _ C1 l1 f1)) a_nil))))))
 (ss_frz (ss_cons (s_if (t_not (t_val (g_call g 22 (a_cons (g_call g 17 (a_cons (gv g) (a_cons (gv g) (a_cons (gv g) (a_cons (gv g) a_nil))))) (a_cons (v_ite (t_cmp (op := .ne) g (v_o (gv g)) (v_o (f_v (f_lst a_nil)))) (g_min g 10 (v_o (gv g))) v_non) a_nil))))) (ss_cons (s_ret v_bl)
 ss_nil) ss_nil)
 (ss_cons (s_if (t_cmp (op := .ne) g (gb g) (v_o (v_tup a_nil))) (ss_cons (gs_par2 g (x_val (g_call g 20 (a_cons (gv g) (a_cons (g_len g 7 (gb g)) a_nil))) (x_val (g_call g 20 (a_cons (gv g) (a_cons v_int a_nil))) x_nil)))
 (ss_frz (ss_cons (s_if (t_not (t_val (g_call g 22 (a_cons (g_call g 18 (a_cons (gv g) (a_cons (gv g) (a_cons (gv g) (a_cons (gv g) a_nil))))) (a_cons (g_call g 29 (a_cons (gv g) (a_cons (gv g) (a_cons (gv g) (a_cons (gv g) a_nil))))) a_nil))))) (ss_cons (s_ret v_bl)
 ss_nil) ss_nil)
 ss_nil))) ss_nil)
 ss_nil))))) ss_nil)
 (ss_frz (ss_cons (s_if (w_t (w_and (t_cmp (op := .gt) g (v_o (g_len g 7 (gb g))) (v_o v_int)) (w_and1 (t_not (t_val (g_call g 22 (a_cons (g_call g 8 (a_cons (v_idx g (gb g) (v_o v_int)) (a_cons (v_idx g (gb g) (v_o v_int)) a_nil))) (a_cons (v_cmp (op := .ne) g (v_o (f_v (g_lc1 [("own", 14)] g (i_j (gi1 g 11 v_int)) (fun s1 H1 C1 l1 f1 => (gp (Gd.blk g s1 H1 _ C1 l1 f1))) (fun s1 H1 C1 l1 f1 => (ts_one (w_t (w_and (t_cmp (op := .in_) (Gd.blk g s1 H1 _ C1 l1 f1) (v_o v_int) (v_o (g_call (Gd.blk g s1 H1 _ C1 l1 f1) 24 (a_cons (gv (Gd.blk g s1 H1 _ C1 l1 f1)) (a_cons (gv (Gd.blk g s1 H1 _ C1 l1 f1)) a_nil))))) (w_and1 (t_cmp (op := .in_) (Gd.blk g s1 H1 _ C1 l1 f1) (v_o v_int) (v_o (g_call (Gd.blk g s1 H1 _ C1 l1 f1) 24 (a_cons (gv (Gd.blk g s1 H1 _ C1 l1 f1)) (a_cons (gv (Gd.blk g s1 H1 _ C1 l1 f1)) a_nil)))))))))) (fun s1 H1 C1 l1 f1 => (gv (Gd.blk g s1 H1 _ C1 l1 f1)))))) (v_o (f_v (f_lst a_nil)))) a_nil)))))))) (ss_cons (s_ret v_bl)
 ss_nil) ss_nil)
 (ss_cons (s_for g (i_over (v_tup (a_cons (f_v (g_list g 8 (gb g))) (a_cons v_non (a_cons (v_bin (op := .add) (gb g) (v_o (v_tup (a_cons (v_tup (a_cons v_int (a_cons v_int a_nil))) a_nil)))) (a_cons (v_bin (op := .add) (gb g) (v_o (v_tup (a_cons (v_tup (a_cons v_int (a_cons v_int a_nil))) a_nil)))) (a_cons (v_bin (op := .add) (gb g) (v_o (v_tup (a_cons (v_tup (a_cons (v_neg (v_o v_int)) (a_cons v_int a_nil))) a_nil)))) (a_cons (v_bin (op := .add) (gb g) (v_o (v_tup (a_cons (v_tup (a_cons v_int a_nil)) a_nil)))) (a_cons (v_bin (op := .add) (gb g) (v_o (v_tup (a_cons (v_tup (a_cons v_bl (a_cons v_int a_nil))) a_nil)))) (a_cons (v_bin (op := .add) (gb g) (v_o (v_tup (a_cons (v_tup (a_cons v_int (a_cons v_non a_nil))) a_nil)))) (a_cons (v_bin (op := .add) (gb g) (v_o (v_tup (a_cons v_int a_nil)))) a_nil))))))))))) (gp g (hf := .inl (hF _))) (ss_cons (s_if (t_not (t_val (g_call g 22 (a_cons (g_call g 4 (a_cons (gv g) a_nil)) (a_cons v_bl a_nil))))) (ss_cons (s_ret v_bl)
 ss_nil) ss_nil)
 ss_nil))
 (ss_frz (ss_cons (s_if (t_not (t_val (g_call g 22 (a_cons (g_call g 4 (a_cons (gv g) a_nil)) (a_cons v_bl a_nil))))) (ss_cons (s_ret v_bl)
 ss_nil) ss_nil)
 ss_nil)))))))))))))))))))))))))))))))))))))
 (ss_cons (s_ret v_bl)
 ss_nil)))
def DD : List Def := [⟨1, 1, c_f_is_number⟩, ⟨2, 2, c_f_is_from⟩, ⟨2, 2, c_f_is_tuple_of⟩, ⟨5, 1, c_f_all_rows⟩, ⟨4, 1, c_f_are_bookings⟩, ⟨3, 2, c_f_there_on⟩, ⟨10, 2, c_f_handed_out⟩, ⟨6, 3, c_f_is_handed⟩, ⟨2, 2, c_f_overlap⟩, ⟨3, 1, c_f_fewest_tools⟩, ⟨8, 3, c_f_with_fixed⟩, ⟨5, 4, c_f_can_have⟩, ⟨6, 2, c_f_most_kept⟩, ⟨6, 2, c_f_by_ends⟩, ⟨9, 2, c_f_days_kept⟩, ⟨6, 4, c_f_free_spans⟩, ⟨5, 4, c_f_first_free⟩, ⟨9, 4, c_f_moved_least⟩, ⟨10, 4, c_f_late_spread⟩, ⟨8, 2, c_f__law_draws⟩, ⟨2, 2, c_f__law_next⟩, ⟨2, 2, c_f__law_pick⟩, ⟨3, 2, c_f__law_alike⟩, ⟨7, 2, c_f__law_rows⟩, ⟨3, 2, c_f__law_there⟩, ⟨6, 2, c_f__law_good⟩, ⟨2, 1, c_f__law_most⟩, ⟨4, 1, c_f__law_sets⟩, ⟨9, 2, c_f__law_handed⟩, ⟨8, 4, c_f__law_spread⟩, ⟨30, 1, c_f_law⟩]
theorem r_f_is_number (n : Nat) (args : List PV) (D : DS) : sem DD (n + 1) 0 args D = (Def.mk 1 1 c_f_is_number).run (sem DD n) args D := rfl
theorem r_f_is_from (n : Nat) (args : List PV) (D : DS) : sem DD (n + 1) 1 args D = (Def.mk 2 2 c_f_is_from).run (sem DD n) args D := rfl
theorem r_f_is_tuple_of (n : Nat) (args : List PV) (D : DS) : sem DD (n + 1) 2 args D = (Def.mk 2 2 c_f_is_tuple_of).run (sem DD n) args D := rfl
theorem r_f_all_rows (n : Nat) (args : List PV) (D : DS) : sem DD (n + 1) 3 args D = (Def.mk 5 1 c_f_all_rows).run (sem DD n) args D := rfl
theorem r_f_are_bookings (n : Nat) (args : List PV) (D : DS) : sem DD (n + 1) 4 args D = (Def.mk 4 1 c_f_are_bookings).run (sem DD n) args D := rfl
theorem r_f_there_on (n : Nat) (args : List PV) (D : DS) : sem DD (n + 1) 5 args D = (Def.mk 3 2 c_f_there_on).run (sem DD n) args D := rfl
theorem r_f_handed_out (n : Nat) (args : List PV) (D : DS) : sem DD (n + 1) 6 args D = (Def.mk 10 2 c_f_handed_out).run (sem DD n) args D := rfl
theorem r_f_is_handed (n : Nat) (args : List PV) (D : DS) : sem DD (n + 1) 7 args D = (Def.mk 6 3 c_f_is_handed).run (sem DD n) args D := rfl
theorem r_f_overlap (n : Nat) (args : List PV) (D : DS) : sem DD (n + 1) 8 args D = (Def.mk 2 2 c_f_overlap).run (sem DD n) args D := rfl
theorem r_f_fewest_tools (n : Nat) (args : List PV) (D : DS) : sem DD (n + 1) 9 args D = (Def.mk 3 1 c_f_fewest_tools).run (sem DD n) args D := rfl
theorem r_f_with_fixed (n : Nat) (args : List PV) (D : DS) : sem DD (n + 1) 10 args D = (Def.mk 8 3 c_f_with_fixed).run (sem DD n) args D := rfl
theorem r_f_can_have (n : Nat) (args : List PV) (D : DS) : sem DD (n + 1) 11 args D = (Def.mk 5 4 c_f_can_have).run (sem DD n) args D := rfl
theorem r_f_most_kept (n : Nat) (args : List PV) (D : DS) : sem DD (n + 1) 12 args D = (Def.mk 6 2 c_f_most_kept).run (sem DD n) args D := rfl
theorem r_f_by_ends (n : Nat) (args : List PV) (D : DS) : sem DD (n + 1) 13 args D = (Def.mk 6 2 c_f_by_ends).run (sem DD n) args D := rfl
theorem r_f_days_kept (n : Nat) (args : List PV) (D : DS) : sem DD (n + 1) 14 args D = (Def.mk 9 2 c_f_days_kept).run (sem DD n) args D := rfl
theorem r_f_free_spans (n : Nat) (args : List PV) (D : DS) : sem DD (n + 1) 15 args D = (Def.mk 6 4 c_f_free_spans).run (sem DD n) args D := rfl
theorem r_f_first_free (n : Nat) (args : List PV) (D : DS) : sem DD (n + 1) 16 args D = (Def.mk 5 4 c_f_first_free).run (sem DD n) args D := rfl
theorem r_f_moved_least (n : Nat) (args : List PV) (D : DS) : sem DD (n + 1) 17 args D = (Def.mk 9 4 c_f_moved_least).run (sem DD n) args D := rfl
theorem r_f_late_spread (n : Nat) (args : List PV) (D : DS) : sem DD (n + 1) 18 args D = (Def.mk 10 4 c_f_late_spread).run (sem DD n) args D := rfl
theorem r_f__law_draws (n : Nat) (args : List PV) (D : DS) : sem DD (n + 1) 19 args D = (Def.mk 8 2 c_f__law_draws).run (sem DD n) args D := rfl
theorem r_f__law_next (n : Nat) (args : List PV) (D : DS) : sem DD (n + 1) 20 args D = (Def.mk 2 2 c_f__law_next).run (sem DD n) args D := rfl
theorem r_f__law_pick (n : Nat) (args : List PV) (D : DS) : sem DD (n + 1) 21 args D = (Def.mk 2 2 c_f__law_pick).run (sem DD n) args D := rfl
theorem r_f__law_alike (n : Nat) (args : List PV) (D : DS) : sem DD (n + 1) 22 args D = (Def.mk 3 2 c_f__law_alike).run (sem DD n) args D := rfl
theorem r_f__law_rows (n : Nat) (args : List PV) (D : DS) : sem DD (n + 1) 23 args D = (Def.mk 7 2 c_f__law_rows).run (sem DD n) args D := rfl
theorem r_f__law_there (n : Nat) (args : List PV) (D : DS) : sem DD (n + 1) 24 args D = (Def.mk 3 2 c_f__law_there).run (sem DD n) args D := rfl
theorem r_f__law_good (n : Nat) (args : List PV) (D : DS) : sem DD (n + 1) 25 args D = (Def.mk 6 2 c_f__law_good).run (sem DD n) args D := rfl
theorem r_f__law_most (n : Nat) (args : List PV) (D : DS) : sem DD (n + 1) 26 args D = (Def.mk 2 1 c_f__law_most).run (sem DD n) args D := rfl
theorem r_f__law_sets (n : Nat) (args : List PV) (D : DS) : sem DD (n + 1) 27 args D = (Def.mk 4 1 c_f__law_sets).run (sem DD n) args D := rfl
theorem r_f__law_handed (n : Nat) (args : List PV) (D : DS) : sem DD (n + 1) 28 args D = (Def.mk 9 2 c_f__law_handed).run (sem DD n) args D := rfl
theorem r_f__law_spread (n : Nat) (args : List PV) (D : DS) : sem DD (n + 1) 29 args D = (Def.mk 8 4 c_f__law_spread).run (sem DD n) args D := rfl
theorem r_f_law (n : Nat) (args : List PV) (D : DS) : sem DD (n + 1) 30 args D = (Def.mk 30 1 c_f_law).run (sem DD n) args D := rfl
theorem sc_f_is_number : FnScope N_f_is_number [("thing" : Str)] (defScope (top 1)) := ⟨rfl, rfl, rfl, by decide +kernel, rfl, by decide +kernel, by decide +kernel⟩
def D_f_is_number : He.DefD := ⟨("is_number", none), "is_number", "is_number", defArgs (top 1), defBody (top 1), defScope (top 1), [], []⟩
theorem b_f_is_number {K : PySem.W.Frag} {f : Addr} {fd : FuncData} (F : FunD K "is_number" "is_number" (defArgs (top 1)) (defBody (top 1)) (defScope (top 1)) [] [] f fd) : Binds K fd [("thing" : Str)] [] := F.bindsN fun _ _ _ _ _ _ us hl => match us, hl with | [_], _ => rfl
theorem ok_f_is_number {K : PySem.W.Frag} {mg : Str → Option Value} {f : Addr} {fd : FuncData} (h : mg "is_number" = some (.ref f)) (F : FunD K "is_number" "is_number" (defArgs (top 1)) (defBody (top 1)) (defScope (top 1)) [] [] f fd) : DefOk TT DD K mg 0 "is_number" 1 := ⟨f, fd, [("thing" : Str)], N_f_is_number, _, _, _, _, [], c_f_is_number, h, F, b_f_is_number F, sc_f_is_number, rfl, rfl, fun Φ X g hF => w_f_is_number g hF⟩
theorem sc_f_is_from : FnScope N_f_is_from [("thing" : Str), ("least" : Str)] (defScope (top 2)) := ⟨rfl, rfl, rfl, by decide +kernel, rfl, by decide +kernel, by decide +kernel⟩
def D_f_is_from : He.DefD := ⟨("is_from", none), "is_from", "is_from", defArgs (top 2), defBody (top 2), defScope (top 2), [], []⟩
theorem b_f_is_from {K : PySem.W.Frag} {f : Addr} {fd : FuncData} (F : FunD K "is_from" "is_from" (defArgs (top 2)) (defBody (top 2)) (defScope (top 2)) [] [] f fd) : Binds K fd [("thing" : Str), ("least" : Str)] [] := F.bindsN fun _ _ _ _ _ _ us hl => match us, hl with | [_, _], _ => rfl
theorem ok_f_is_from {K : PySem.W.Frag} {mg : Str → Option Value} {f : Addr} {fd : FuncData} (h : mg "is_from" = some (.ref f)) (F : FunD K "is_from" "is_from" (defArgs (top 2)) (defBody (top 2)) (defScope (top 2)) [] [] f fd) : DefOk TT DD K mg 1 "is_from" 2 := ⟨f, fd, [("thing" : Str), ("least" : Str)], N_f_is_from, _, _, _, _, [], c_f_is_from, h, F, b_f_is_from F, sc_f_is_from, rfl, rfl, fun Φ X g hF => w_f_is_from g hF⟩
theorem sc_f_is_tuple_of : FnScope N_f_is_tuple_of [("thing" : Str), ("many" : Str)] (defScope (top 3)) := ⟨rfl, rfl, rfl, by decide +kernel, rfl, by decide +kernel, by decide +kernel⟩
def D_f_is_tuple_of : He.DefD := ⟨("is_tuple_of", none), "is_tuple_of", "is_tuple_of", defArgs (top 3), defBody (top 3), defScope (top 3), [], []⟩
theorem b_f_is_tuple_of {K : PySem.W.Frag} {f : Addr} {fd : FuncData} (F : FunD K "is_tuple_of" "is_tuple_of" (defArgs (top 3)) (defBody (top 3)) (defScope (top 3)) [] [] f fd) : Binds K fd [("thing" : Str), ("many" : Str)] [] := F.bindsN fun _ _ _ _ _ _ us hl => match us, hl with | [_, _], _ => rfl
theorem ok_f_is_tuple_of {K : PySem.W.Frag} {mg : Str → Option Value} {f : Addr} {fd : FuncData} (h : mg "is_tuple_of" = some (.ref f)) (F : FunD K "is_tuple_of" "is_tuple_of" (defArgs (top 3)) (defBody (top 3)) (defScope (top 3)) [] [] f fd) : DefOk TT DD K mg 2 "is_tuple_of" 2 := ⟨f, fd, [("thing" : Str), ("many" : Str)], N_f_is_tuple_of, _, _, _, _, [], c_f_is_tuple_of, h, F, b_f_is_tuple_of F, sc_f_is_tuple_of, rfl, rfl, fun Φ X g hF => w_f_is_tuple_of g hF⟩
theorem sc_f_all_rows : FnScope N_f_all_rows [("sizes" : Str)] (defScope (top 4)) := ⟨rfl, rfl, rfl, by decide +kernel, rfl, by decide +kernel, by decide +kernel⟩
def D_f_all_rows : He.DefD := ⟨("all_rows", none), "all_rows", "all_rows", defArgs (top 4), defBody (top 4), defScope (top 4), [], []⟩
theorem b_f_all_rows {K : PySem.W.Frag} {f : Addr} {fd : FuncData} (F : FunD K "all_rows" "all_rows" (defArgs (top 4)) (defBody (top 4)) (defScope (top 4)) [] [] f fd) : Binds K fd [("sizes" : Str)] [] := F.bindsN fun _ _ _ _ _ _ us hl => match us, hl with | [_], _ => rfl
theorem ok_f_all_rows {K : PySem.W.Frag} {mg : Str → Option Value} {f : Addr} {fd : FuncData} (h : mg "all_rows" = some (.ref f)) (F : FunD K "all_rows" "all_rows" (defArgs (top 4)) (defBody (top 4)) (defScope (top 4)) [] [] f fd) : DefOk TT DD K mg 3 "all_rows" 1 := ⟨f, fd, [("sizes" : Str)], N_f_all_rows, _, _, _, _, [], c_f_all_rows, h, F, b_f_all_rows F, sc_f_all_rows, rfl, rfl, fun Φ X g hF => w_f_all_rows g hF⟩
theorem sc_f_are_bookings : FnScope N_f_are_bookings [("thing" : Str)] (defScope (top 6)) := ⟨rfl, rfl, rfl, by decide +kernel, rfl, by decide +kernel, by decide +kernel⟩
def D_f_are_bookings : He.DefD := ⟨("are_bookings", none), "are_bookings", "are_bookings", defArgs (top 6), defBody (top 6), defScope (top 6), [], []⟩
theorem b_f_are_bookings {K : PySem.W.Frag} {f : Addr} {fd : FuncData} (F : FunD K "are_bookings" "are_bookings" (defArgs (top 6)) (defBody (top 6)) (defScope (top 6)) [] [] f fd) : Binds K fd [("thing" : Str)] [] := F.bindsN fun _ _ _ _ _ _ us hl => match us, hl with | [_], _ => rfl
theorem ok_f_are_bookings {K : PySem.W.Frag} {mg : Str → Option Value} {f : Addr} {fd : FuncData} (h : mg "are_bookings" = some (.ref f)) (F : FunD K "are_bookings" "are_bookings" (defArgs (top 6)) (defBody (top 6)) (defScope (top 6)) [] [] f fd) : DefOk TT DD K mg 4 "are_bookings" 1 := ⟨f, fd, [("thing" : Str)], N_f_are_bookings, _, _, _, _, [], c_f_are_bookings, h, F, b_f_are_bookings F, sc_f_are_bookings, rfl, rfl, fun Φ X g hF => w_f_are_bookings g hF⟩
theorem sc_f_there_on : FnScope N_f_there_on [("bookings" : Str), ("day" : Str)] (defScope (top 7)) := ⟨rfl, rfl, rfl, by decide +kernel, rfl, by decide +kernel, by decide +kernel⟩
def D_f_there_on : He.DefD := ⟨("there_on", none), "there_on", "there_on", defArgs (top 7), defBody (top 7), defScope (top 7), [], []⟩
theorem b_f_there_on {K : PySem.W.Frag} {f : Addr} {fd : FuncData} (F : FunD K "there_on" "there_on" (defArgs (top 7)) (defBody (top 7)) (defScope (top 7)) [] [] f fd) : Binds K fd [("bookings" : Str), ("day" : Str)] [] := F.bindsN fun _ _ _ _ _ _ us hl => match us, hl with | [_, _], _ => rfl
theorem ok_f_there_on {K : PySem.W.Frag} {mg : Str → Option Value} {f : Addr} {fd : FuncData} (h : mg "there_on" = some (.ref f)) (F : FunD K "there_on" "there_on" (defArgs (top 7)) (defBody (top 7)) (defScope (top 7)) [] [] f fd) : DefOk TT DD K mg 5 "there_on" 2 := ⟨f, fd, [("bookings" : Str), ("day" : Str)], N_f_there_on, _, _, _, _, [], c_f_there_on, h, F, b_f_there_on F, sc_f_there_on, rfl, rfl, fun Φ X g hF => w_f_there_on g hF⟩
theorem sc_f_handed_out : FnScope N_f_handed_out [("bookings" : Str), ("tools" : Str)] (defScope (top 8)) := ⟨rfl, rfl, rfl, by decide +kernel, rfl, by decide +kernel, by decide +kernel⟩
def D_f_handed_out : He.DefD := ⟨("handed_out", none), "handed_out", "handed_out", defArgs (top 8), defBody (top 8), defScope (top 8), [], []⟩
theorem b_f_handed_out {K : PySem.W.Frag} {f : Addr} {fd : FuncData} (F : FunD K "handed_out" "handed_out" (defArgs (top 8)) (defBody (top 8)) (defScope (top 8)) [] [] f fd) : Binds K fd [("bookings" : Str), ("tools" : Str)] [] := F.bindsN fun _ _ _ _ _ _ us hl => match us, hl with | [_, _], _ => rfl
theorem ok_f_handed_out {K : PySem.W.Frag} {mg : Str → Option Value} {f : Addr} {fd : FuncData} (h : mg "handed_out" = some (.ref f)) (F : FunD K "handed_out" "handed_out" (defArgs (top 8)) (defBody (top 8)) (defScope (top 8)) [] [] f fd) : DefOk TT DD K mg 6 "handed_out" 2 := ⟨f, fd, [("bookings" : Str), ("tools" : Str)], N_f_handed_out, _, _, _, _, [], c_f_handed_out, h, F, b_f_handed_out F, sc_f_handed_out, rfl, rfl, fun Φ X g hF => w_f_handed_out g hF⟩
theorem sc_f_is_handed : FnScope N_f_is_handed [("bookings" : Str), ("tools" : Str), ("thing" : Str)] (defScope (top 9)) := ⟨rfl, rfl, rfl, by decide +kernel, rfl, by decide +kernel, by decide +kernel⟩
def D_f_is_handed : He.DefD := ⟨("is_handed", none), "is_handed", "is_handed", defArgs (top 9), defBody (top 9), defScope (top 9), [], []⟩
theorem b_f_is_handed {K : PySem.W.Frag} {f : Addr} {fd : FuncData} (F : FunD K "is_handed" "is_handed" (defArgs (top 9)) (defBody (top 9)) (defScope (top 9)) [] [] f fd) : Binds K fd [("bookings" : Str), ("tools" : Str), ("thing" : Str)] [] := F.bindsN fun _ _ _ _ _ _ us hl => match us, hl with | [_, _, _], _ => rfl
theorem ok_f_is_handed {K : PySem.W.Frag} {mg : Str → Option Value} {f : Addr} {fd : FuncData} (h : mg "is_handed" = some (.ref f)) (F : FunD K "is_handed" "is_handed" (defArgs (top 9)) (defBody (top 9)) (defScope (top 9)) [] [] f fd) : DefOk TT DD K mg 7 "is_handed" 3 := ⟨f, fd, [("bookings" : Str), ("tools" : Str), ("thing" : Str)], N_f_is_handed, _, _, _, _, [], c_f_is_handed, h, F, b_f_is_handed F, sc_f_is_handed, rfl, rfl, fun Φ X g hF => w_f_is_handed g hF⟩
theorem sc_f_overlap : FnScope N_f_overlap [("one" : Str), ("other" : Str)] (defScope (top 10)) := ⟨rfl, rfl, rfl, by decide +kernel, rfl, by decide +kernel, by decide +kernel⟩
def D_f_overlap : He.DefD := ⟨("overlap", none), "overlap", "overlap", defArgs (top 10), defBody (top 10), defScope (top 10), [], []⟩
theorem b_f_overlap {K : PySem.W.Frag} {f : Addr} {fd : FuncData} (F : FunD K "overlap" "overlap" (defArgs (top 10)) (defBody (top 10)) (defScope (top 10)) [] [] f fd) : Binds K fd [("one" : Str), ("other" : Str)] [] := F.bindsN fun _ _ _ _ _ _ us hl => match us, hl with | [_, _], _ => rfl
theorem ok_f_overlap {K : PySem.W.Frag} {mg : Str → Option Value} {f : Addr} {fd : FuncData} (h : mg "overlap" = some (.ref f)) (F : FunD K "overlap" "overlap" (defArgs (top 10)) (defBody (top 10)) (defScope (top 10)) [] [] f fd) : DefOk TT DD K mg 8 "overlap" 2 := ⟨f, fd, [("one" : Str), ("other" : Str)], N_f_overlap, _, _, _, _, [], c_f_overlap, h, F, b_f_overlap F, sc_f_overlap, rfl, rfl, fun Φ X g hF => w_f_overlap g hF⟩
theorem sc_f_fewest_tools : FnScope N_f_fewest_tools [("bookings" : Str)] (defScope (top 11)) := ⟨rfl, rfl, rfl, by decide +kernel, rfl, by decide +kernel, by decide +kernel⟩
def D_f_fewest_tools : He.DefD := ⟨("fewest_tools", none), "fewest_tools", "fewest_tools", defArgs (top 11), defBody (top 11), defScope (top 11), [], []⟩
theorem b_f_fewest_tools {K : PySem.W.Frag} {f : Addr} {fd : FuncData} (F : FunD K "fewest_tools" "fewest_tools" (defArgs (top 11)) (defBody (top 11)) (defScope (top 11)) [] [] f fd) : Binds K fd [("bookings" : Str)] [] := F.bindsN fun _ _ _ _ _ _ us hl => match us, hl with | [_], _ => rfl
theorem ok_f_fewest_tools {K : PySem.W.Frag} {mg : Str → Option Value} {f : Addr} {fd : FuncData} (h : mg "fewest_tools" = some (.ref f)) (F : FunD K "fewest_tools" "fewest_tools" (defArgs (top 11)) (defBody (top 11)) (defScope (top 11)) [] [] f fd) : DefOk TT DD K mg 9 "fewest_tools" 1 := ⟨f, fd, [("bookings" : Str)], N_f_fewest_tools, _, _, _, _, [], c_f_fewest_tools, h, F, b_f_fewest_tools F, sc_f_fewest_tools, rfl, rfl, fun Φ X g hF => w_f_fewest_tools g hF⟩
theorem sc_f_with_fixed : FnScope N_f_with_fixed [("bookings" : Str), ("tools" : Str), ("fixed" : Str)] (defScope (top 12)) := ⟨rfl, rfl, rfl, by decide +kernel, rfl, by decide +kernel, by decide +kernel⟩
def D_f_with_fixed : He.DefD := ⟨("with_fixed", none), "with_fixed", "with_fixed", defArgs (top 12), defBody (top 12), defScope (top 12), [], []⟩
theorem b_f_with_fixed {K : PySem.W.Frag} {f : Addr} {fd : FuncData} (F : FunD K "with_fixed" "with_fixed" (defArgs (top 12)) (defBody (top 12)) (defScope (top 12)) [] [] f fd) : Binds K fd [("bookings" : Str), ("tools" : Str), ("fixed" : Str)] [] := F.bindsN fun _ _ _ _ _ _ us hl => match us, hl with | [_, _, _], _ => rfl
theorem ok_f_with_fixed {K : PySem.W.Frag} {mg : Str → Option Value} {f : Addr} {fd : FuncData} (h : mg "with_fixed" = some (.ref f)) (F : FunD K "with_fixed" "with_fixed" (defArgs (top 12)) (defBody (top 12)) (defScope (top 12)) [] [] f fd) : DefOk TT DD K mg 10 "with_fixed" 3 := ⟨f, fd, [("bookings" : Str), ("tools" : Str), ("fixed" : Str)], N_f_with_fixed, _, _, _, _, [], c_f_with_fixed, h, F, b_f_with_fixed F, sc_f_with_fixed, rfl, rfl, fun Φ X g hF => w_f_with_fixed g hF⟩
theorem sc_f_can_have : FnScope N_f_can_have [("bookings" : Str), ("row" : Str), ("k" : Str), ("tool" : Str)] (defScope (top 13)) := ⟨rfl, rfl, rfl, by decide +kernel, rfl, by decide +kernel, by decide +kernel⟩
def D_f_can_have : He.DefD := ⟨("can_have", none), "can_have", "can_have", defArgs (top 13), defBody (top 13), defScope (top 13), [], []⟩
theorem b_f_can_have {K : PySem.W.Frag} {f : Addr} {fd : FuncData} (F : FunD K "can_have" "can_have" (defArgs (top 13)) (defBody (top 13)) (defScope (top 13)) [] [] f fd) : Binds K fd [("bookings" : Str), ("row" : Str), ("k" : Str), ("tool" : Str)] [] := F.bindsN fun _ _ _ _ _ _ us hl => match us, hl with | [_, _, _, _], _ => rfl
theorem ok_f_can_have {K : PySem.W.Frag} {mg : Str → Option Value} {f : Addr} {fd : FuncData} (h : mg "can_have" = some (.ref f)) (F : FunD K "can_have" "can_have" (defArgs (top 13)) (defBody (top 13)) (defScope (top 13)) [] [] f fd) : DefOk TT DD K mg 11 "can_have" 4 := ⟨f, fd, [("bookings" : Str), ("row" : Str), ("k" : Str), ("tool" : Str)], N_f_can_have, _, _, _, _, [], c_f_can_have, h, F, b_f_can_have F, sc_f_can_have, rfl, rfl, fun Φ X g hF => w_f_can_have g hF⟩
theorem sc_f_most_kept : FnScope N_f_most_kept [("bookings" : Str), ("tools" : Str)] (defScope (top 14)) := ⟨rfl, rfl, rfl, by decide +kernel, rfl, by decide +kernel, by decide +kernel⟩
def D_f_most_kept : He.DefD := ⟨("most_kept", none), "most_kept", "most_kept", defArgs (top 14), defBody (top 14), defScope (top 14), [], []⟩
theorem b_f_most_kept {K : PySem.W.Frag} {f : Addr} {fd : FuncData} (F : FunD K "most_kept" "most_kept" (defArgs (top 14)) (defBody (top 14)) (defScope (top 14)) [] [] f fd) : Binds K fd [("bookings" : Str), ("tools" : Str)] [] := F.bindsN fun _ _ _ _ _ _ us hl => match us, hl with | [_, _], _ => rfl
theorem ok_f_most_kept {K : PySem.W.Frag} {mg : Str → Option Value} {f : Addr} {fd : FuncData} (h : mg "most_kept" = some (.ref f)) (F : FunD K "most_kept" "most_kept" (defArgs (top 14)) (defBody (top 14)) (defScope (top 14)) [] [] f fd) : DefOk TT DD K mg 12 "most_kept" 2 := ⟨f, fd, [("bookings" : Str), ("tools" : Str)], N_f_most_kept, _, _, _, _, [], c_f_most_kept, h, F, b_f_most_kept F, sc_f_most_kept, rfl, rfl, fun Φ X g hF => w_f_most_kept g hF⟩
theorem sc_f_by_ends : FnScope N_f_by_ends [("bookings" : Str), ("tools" : Str)] (defScope (top 15)) := ⟨rfl, rfl, rfl, by decide +kernel, rfl, by decide +kernel, by decide +kernel⟩
def D_f_by_ends : He.DefD := ⟨("by_ends", none), "by_ends", "by_ends", defArgs (top 15), defBody (top 15), defScope (top 15), [], []⟩
theorem b_f_by_ends {K : PySem.W.Frag} {f : Addr} {fd : FuncData} (F : FunD K "by_ends" "by_ends" (defArgs (top 15)) (defBody (top 15)) (defScope (top 15)) [] [] f fd) : Binds K fd [("bookings" : Str), ("tools" : Str)] [] := F.bindsN fun _ _ _ _ _ _ us hl => match us, hl with | [_, _], _ => rfl
theorem ok_f_by_ends {K : PySem.W.Frag} {mg : Str → Option Value} {f : Addr} {fd : FuncData} (h : mg "by_ends" = some (.ref f)) (F : FunD K "by_ends" "by_ends" (defArgs (top 15)) (defBody (top 15)) (defScope (top 15)) [] [] f fd) : DefOk TT DD K mg 13 "by_ends" 2 := ⟨f, fd, [("bookings" : Str), ("tools" : Str)], N_f_by_ends, _, _, _, _, [], c_f_by_ends, h, F, b_f_by_ends F, sc_f_by_ends, rfl, rfl, fun Φ X g hF => w_f_by_ends g hF⟩
theorem sc_f_days_kept : FnScope N_f_days_kept [("bookings" : Str), ("tools" : Str)] (defScope (top 16)) := ⟨rfl, rfl, rfl, by decide +kernel, rfl, by decide +kernel, by decide +kernel⟩
def D_f_days_kept : He.DefD := ⟨("days_kept", none), "days_kept", "days_kept", defArgs (top 16), defBody (top 16), defScope (top 16), [], []⟩
theorem b_f_days_kept {K : PySem.W.Frag} {f : Addr} {fd : FuncData} (F : FunD K "days_kept" "days_kept" (defArgs (top 16)) (defBody (top 16)) (defScope (top 16)) [] [] f fd) : Binds K fd [("bookings" : Str), ("tools" : Str)] [] := F.bindsN fun _ _ _ _ _ _ us hl => match us, hl with | [_, _], _ => rfl
theorem ok_f_days_kept {K : PySem.W.Frag} {mg : Str → Option Value} {f : Addr} {fd : FuncData} (h : mg "days_kept" = some (.ref f)) (F : FunD K "days_kept" "days_kept" (defArgs (top 16)) (defBody (top 16)) (defScope (top 16)) [] [] f fd) : DefOk TT DD K mg 14 "days_kept" 2 := ⟨f, fd, [("bookings" : Str), ("tools" : Str)], N_f_days_kept, _, _, _, _, [], c_f_days_kept, h, F, b_f_days_kept F, sc_f_days_kept, rfl, rfl, fun Φ X g hF => w_f_days_kept g hF⟩
theorem sc_f_free_spans : FnScope N_f_free_spans [("bookings" : Str), ("tools" : Str), ("first" : Str), ("last" : Str)] (defScope (top 17)) := ⟨rfl, rfl, rfl, by decide +kernel, rfl, by decide +kernel, by decide +kernel⟩
def D_f_free_spans : He.DefD := ⟨("free_spans", none), "free_spans", "free_spans", defArgs (top 17), defBody (top 17), defScope (top 17), [], []⟩
theorem b_f_free_spans {K : PySem.W.Frag} {f : Addr} {fd : FuncData} (F : FunD K "free_spans" "free_spans" (defArgs (top 17)) (defBody (top 17)) (defScope (top 17)) [] [] f fd) : Binds K fd [("bookings" : Str), ("tools" : Str), ("first" : Str), ("last" : Str)] [] := F.bindsN fun _ _ _ _ _ _ us hl => match us, hl with | [_, _, _, _], _ => rfl
theorem ok_f_free_spans {K : PySem.W.Frag} {mg : Str → Option Value} {f : Addr} {fd : FuncData} (h : mg "free_spans" = some (.ref f)) (F : FunD K "free_spans" "free_spans" (defArgs (top 17)) (defBody (top 17)) (defScope (top 17)) [] [] f fd) : DefOk TT DD K mg 15 "free_spans" 4 := ⟨f, fd, [("bookings" : Str), ("tools" : Str), ("first" : Str), ("last" : Str)], N_f_free_spans, _, _, _, _, [], c_f_free_spans, h, F, b_f_free_spans F, sc_f_free_spans, rfl, rfl, fun Φ X g hF => w_f_free_spans g hF⟩
theorem sc_f_first_free : FnScope N_f_first_free [("bookings" : Str), ("tools" : Str), ("day" : Str), ("long" : Str)] (defScope (top 18)) := ⟨rfl, rfl, rfl, by decide +kernel, rfl, by decide +kernel, by decide +kernel⟩
def D_f_first_free : He.DefD := ⟨("first_free", none), "first_free", "first_free", defArgs (top 18), defBody (top 18), defScope (top 18), [], []⟩
theorem b_f_first_free {K : PySem.W.Frag} {f : Addr} {fd : FuncData} (F : FunD K "first_free" "first_free" (defArgs (top 18)) (defBody (top 18)) (defScope (top 18)) [] [] f fd) : Binds K fd [("bookings" : Str), ("tools" : Str), ("day" : Str), ("long" : Str)] [] := F.bindsN fun _ _ _ _ _ _ us hl => match us, hl with | [_, _, _, _], _ => rfl
theorem ok_f_first_free {K : PySem.W.Frag} {mg : Str → Option Value} {f : Addr} {fd : FuncData} (h : mg "first_free" = some (.ref f)) (F : FunD K "first_free" "first_free" (defArgs (top 18)) (defBody (top 18)) (defScope (top 18)) [] [] f fd) : DefOk TT DD K mg 16 "first_free" 4 := ⟨f, fd, [("bookings" : Str), ("tools" : Str), ("day" : Str), ("long" : Str)], N_f_first_free, _, _, _, _, [], c_f_first_free, h, F, b_f_first_free F, sc_f_first_free, rfl, rfl, fun Φ X g hF => w_f_first_free g hF⟩
theorem sc_f_moved_least : FnScope N_f_moved_least [("bookings" : Str), ("old" : Str), ("tools" : Str), ("more" : Str)] (defScope (top 19)) := ⟨rfl, rfl, rfl, by decide +kernel, rfl, by decide +kernel, by decide +kernel⟩
def D_f_moved_least : He.DefD := ⟨("moved_least", none), "moved_least", "moved_least", defArgs (top 19), defBody (top 19), defScope (top 19), [], []⟩
theorem b_f_moved_least {K : PySem.W.Frag} {f : Addr} {fd : FuncData} (F : FunD K "moved_least" "moved_least" (defArgs (top 19)) (defBody (top 19)) (defScope (top 19)) [] [] f fd) : Binds K fd [("bookings" : Str), ("old" : Str), ("tools" : Str), ("more" : Str)] [] := F.bindsN fun _ _ _ _ _ _ us hl => match us, hl with | [_, _, _, _], _ => rfl
theorem ok_f_moved_least {K : PySem.W.Frag} {mg : Str → Option Value} {f : Addr} {fd : FuncData} (h : mg "moved_least" = some (.ref f)) (F : FunD K "moved_least" "moved_least" (defArgs (top 19)) (defBody (top 19)) (defScope (top 19)) [] [] f fd) : DefOk TT DD K mg 17 "moved_least" 4 := ⟨f, fd, [("bookings" : Str), ("old" : Str), ("tools" : Str), ("more" : Str)], N_f_moved_least, _, _, _, _, [], c_f_moved_least, h, F, b_f_moved_least F, sc_f_moved_least, rfl, rfl, fun Φ X g hF => w_f_moved_least g hF⟩
theorem sc_f_late_spread : FnScope N_f_late_spread [("bookings" : Str), ("row" : Str), ("k" : Str), ("days" : Str)] (defScope (top 20)) := ⟨rfl, rfl, rfl, by decide +kernel, rfl, by decide +kernel, by decide +kernel⟩
def D_f_late_spread : He.DefD := ⟨("late_spread", none), "late_spread", "late_spread", defArgs (top 20), defBody (top 20), defScope (top 20), [], []⟩
theorem b_f_late_spread {K : PySem.W.Frag} {f : Addr} {fd : FuncData} (F : FunD K "late_spread" "late_spread" (defArgs (top 20)) (defBody (top 20)) (defScope (top 20)) [] [] f fd) : Binds K fd [("bookings" : Str), ("row" : Str), ("k" : Str), ("days" : Str)] [] := F.bindsN fun _ _ _ _ _ _ us hl => match us, hl with | [_, _, _, _], _ => rfl
theorem ok_f_late_spread {K : PySem.W.Frag} {mg : Str → Option Value} {f : Addr} {fd : FuncData} (h : mg "late_spread" = some (.ref f)) (F : FunD K "late_spread" "late_spread" (defArgs (top 20)) (defBody (top 20)) (defScope (top 20)) [] [] f fd) : DefOk TT DD K mg 18 "late_spread" 4 := ⟨f, fd, [("bookings" : Str), ("row" : Str), ("k" : Str), ("days" : Str)], N_f_late_spread, _, _, _, _, [], c_f_late_spread, h, F, b_f_late_spread F, sc_f_late_spread, rfl, rfl, fun Φ X g hF => w_f_late_spread g hF⟩
theorem sc_f__law_draws : FnScope N_f__law_draws [("script" : Str), ("many" : Str)] (defScope (top 22)) := ⟨rfl, rfl, rfl, by decide +kernel, rfl, by decide +kernel, by decide +kernel⟩
def D_f__law_draws : He.DefD := ⟨("_law_draws", none), "_law_draws", "_law_draws", defArgs (top 22), defBody (top 22), defScope (top 22), [], []⟩
theorem b_f__law_draws {K : PySem.W.Frag} {f : Addr} {fd : FuncData} (F : FunD K "_law_draws" "_law_draws" (defArgs (top 22)) (defBody (top 22)) (defScope (top 22)) [] [] f fd) : Binds K fd [("script" : Str), ("many" : Str)] [] := F.bindsN fun _ _ _ _ _ _ us hl => match us, hl with | [_, _], _ => rfl
theorem ok_f__law_draws {K : PySem.W.Frag} {mg : Str → Option Value} {f : Addr} {fd : FuncData} (h : mg "_law_draws" = some (.ref f)) (F : FunD K "_law_draws" "_law_draws" (defArgs (top 22)) (defBody (top 22)) (defScope (top 22)) [] [] f fd) : DefOk TT DD K mg 19 "_law_draws" 2 := ⟨f, fd, [("script" : Str), ("many" : Str)], N_f__law_draws, _, _, _, _, [], c_f__law_draws, h, F, b_f__law_draws F, sc_f__law_draws, rfl, rfl, fun Φ X g hF => w_f__law_draws g hF⟩
theorem sc_f__law_next : FnScope N_f__law_next [("w" : Str), ("many" : Str)] (defScope (top 23)) := ⟨rfl, rfl, rfl, by decide +kernel, rfl, by decide +kernel, by decide +kernel⟩
def D_f__law_next : He.DefD := ⟨("_law_next", none), "_law_next", "_law_next", defArgs (top 23), defBody (top 23), defScope (top 23), [], []⟩
theorem b_f__law_next {K : PySem.W.Frag} {f : Addr} {fd : FuncData} (F : FunD K "_law_next" "_law_next" (defArgs (top 23)) (defBody (top 23)) (defScope (top 23)) [] [] f fd) : Binds K fd [("w" : Str), ("many" : Str)] [] := F.bindsN fun _ _ _ _ _ _ us hl => match us, hl with | [_, _], _ => rfl
theorem ok_f__law_next {K : PySem.W.Frag} {mg : Str → Option Value} {f : Addr} {fd : FuncData} (h : mg "_law_next" = some (.ref f)) (F : FunD K "_law_next" "_law_next" (defArgs (top 23)) (defBody (top 23)) (defScope (top 23)) [] [] f fd) : DefOk TT DD K mg 20 "_law_next" 2 := ⟨f, fd, [("w" : Str), ("many" : Str)], N_f__law_next, _, _, _, _, [], c_f__law_next, h, F, b_f__law_next F, sc_f__law_next, rfl, rfl, fun Φ X g hF => w_f__law_next g hF⟩
theorem sc_f__law_pick : FnScope N_f__law_pick [("w" : Str), ("rows" : Str)] (defScope (top 24)) := ⟨rfl, rfl, rfl, by decide +kernel, rfl, by decide +kernel, by decide +kernel⟩
def D_f__law_pick : He.DefD := ⟨("_law_pick", none), "_law_pick", "_law_pick", defArgs (top 24), defBody (top 24), defScope (top 24), [], []⟩
theorem b_f__law_pick {K : PySem.W.Frag} {f : Addr} {fd : FuncData} (F : FunD K "_law_pick" "_law_pick" (defArgs (top 24)) (defBody (top 24)) (defScope (top 24)) [] [] f fd) : Binds K fd [("w" : Str), ("rows" : Str)] [] := F.bindsN fun _ _ _ _ _ _ us hl => match us, hl with | [_, _], _ => rfl
theorem ok_f__law_pick {K : PySem.W.Frag} {mg : Str → Option Value} {f : Addr} {fd : FuncData} (h : mg "_law_pick" = some (.ref f)) (F : FunD K "_law_pick" "_law_pick" (defArgs (top 24)) (defBody (top 24)) (defScope (top 24)) [] [] f fd) : DefOk TT DD K mg 21 "_law_pick" 2 := ⟨f, fd, [("w" : Str), ("rows" : Str)], N_f__law_pick, _, _, _, _, [], c_f__law_pick, h, F, b_f__law_pick F, sc_f__law_pick, rfl, rfl, fun Φ X g hF => w_f__law_pick g hF⟩
theorem sc_f__law_alike : FnScope N_f__law_alike [("given" : Str), ("due" : Str)] (defScope (top 25)) := ⟨rfl, rfl, rfl, by decide +kernel, rfl, by decide +kernel, by decide +kernel⟩
def D_f__law_alike : He.DefD := ⟨("_law_alike", none), "_law_alike", "_law_alike", defArgs (top 25), defBody (top 25), defScope (top 25), [], []⟩
theorem b_f__law_alike {K : PySem.W.Frag} {f : Addr} {fd : FuncData} (F : FunD K "_law_alike" "_law_alike" (defArgs (top 25)) (defBody (top 25)) (defScope (top 25)) [] [] f fd) : Binds K fd [("given" : Str), ("due" : Str)] [] := F.bindsN fun _ _ _ _ _ _ us hl => match us, hl with | [_, _], _ => rfl
theorem ok_f__law_alike {K : PySem.W.Frag} {mg : Str → Option Value} {f : Addr} {fd : FuncData} (h : mg "_law_alike" = some (.ref f)) (F : FunD K "_law_alike" "_law_alike" (defArgs (top 25)) (defBody (top 25)) (defScope (top 25)) [] [] f fd) : DefOk TT DD K mg 22 "_law_alike" 2 := ⟨f, fd, [("given" : Str), ("due" : Str)], N_f__law_alike, _, _, _, _, [], c_f__law_alike, h, F, b_f__law_alike F, sc_f__law_alike, rfl, rfl, fun Φ X g hF => w_f__law_alike g hF⟩
theorem sc_f__law_rows : FnScope N_f__law_rows [("many" : Str), ("tools" : Str)] (defScope (top 26)) := ⟨rfl, rfl, rfl, by decide +kernel, rfl, by decide +kernel, by decide +kernel⟩
def D_f__law_rows : He.DefD := ⟨("_law_rows", none), "_law_rows", "_law_rows", defArgs (top 26), defBody (top 26), defScope (top 26), [], []⟩
theorem b_f__law_rows {K : PySem.W.Frag} {f : Addr} {fd : FuncData} (F : FunD K "_law_rows" "_law_rows" (defArgs (top 26)) (defBody (top 26)) (defScope (top 26)) [] [] f fd) : Binds K fd [("many" : Str), ("tools" : Str)] [] := F.bindsN fun _ _ _ _ _ _ us hl => match us, hl with | [_, _], _ => rfl
theorem ok_f__law_rows {K : PySem.W.Frag} {mg : Str → Option Value} {f : Addr} {fd : FuncData} (h : mg "_law_rows" = some (.ref f)) (F : FunD K "_law_rows" "_law_rows" (defArgs (top 26)) (defBody (top 26)) (defScope (top 26)) [] [] f fd) : DefOk TT DD K mg 23 "_law_rows" 2 := ⟨f, fd, [("many" : Str), ("tools" : Str)], N_f__law_rows, _, _, _, _, [], c_f__law_rows, h, F, b_f__law_rows F, sc_f__law_rows, rfl, rfl, fun Φ X g hF => w_f__law_rows g hF⟩
theorem sc_f__law_there : FnScope N_f__law_there [("bookings" : Str), ("day" : Str)] (defScope (top 27)) := ⟨rfl, rfl, rfl, by decide +kernel, rfl, by decide +kernel, by decide +kernel⟩
def D_f__law_there : He.DefD := ⟨("_law_there", none), "_law_there", "_law_there", defArgs (top 27), defBody (top 27), defScope (top 27), [], []⟩
theorem b_f__law_there {K : PySem.W.Frag} {f : Addr} {fd : FuncData} (F : FunD K "_law_there" "_law_there" (defArgs (top 27)) (defBody (top 27)) (defScope (top 27)) [] [] f fd) : Binds K fd [("bookings" : Str), ("day" : Str)] [] := F.bindsN fun _ _ _ _ _ _ us hl => match us, hl with | [_, _], _ => rfl
theorem ok_f__law_there {K : PySem.W.Frag} {mg : Str → Option Value} {f : Addr} {fd : FuncData} (h : mg "_law_there" = some (.ref f)) (F : FunD K "_law_there" "_law_there" (defArgs (top 27)) (defBody (top 27)) (defScope (top 27)) [] [] f fd) : DefOk TT DD K mg 24 "_law_there" 2 := ⟨f, fd, [("bookings" : Str), ("day" : Str)], N_f__law_there, _, _, _, _, [], c_f__law_there, h, F, b_f__law_there F, sc_f__law_there, rfl, rfl, fun Φ X g hF => w_f__law_there g hF⟩
theorem sc_f__law_good : FnScope N_f__law_good [("bookings" : Str), ("row" : Str)] (defScope (top 28)) := ⟨rfl, rfl, rfl, by decide +kernel, rfl, by decide +kernel, by decide +kernel⟩
def D_f__law_good : He.DefD := ⟨("_law_good", none), "_law_good", "_law_good", defArgs (top 28), defBody (top 28), defScope (top 28), [], []⟩
theorem b_f__law_good {K : PySem.W.Frag} {f : Addr} {fd : FuncData} (F : FunD K "_law_good" "_law_good" (defArgs (top 28)) (defBody (top 28)) (defScope (top 28)) [] [] f fd) : Binds K fd [("bookings" : Str), ("row" : Str)] [] := F.bindsN fun _ _ _ _ _ _ us hl => match us, hl with | [_, _], _ => rfl
theorem ok_f__law_good {K : PySem.W.Frag} {mg : Str → Option Value} {f : Addr} {fd : FuncData} (h : mg "_law_good" = some (.ref f)) (F : FunD K "_law_good" "_law_good" (defArgs (top 28)) (defBody (top 28)) (defScope (top 28)) [] [] f fd) : DefOk TT DD K mg 25 "_law_good" 2 := ⟨f, fd, [("bookings" : Str), ("row" : Str)], N_f__law_good, _, _, _, _, [], c_f__law_good, h, F, b_f__law_good F, sc_f__law_good, rfl, rfl, fun Φ X g hF => w_f__law_good g hF⟩
theorem sc_f__law_most : FnScope N_f__law_most [("bookings" : Str)] (defScope (top 29)) := ⟨rfl, rfl, rfl, by decide +kernel, rfl, by decide +kernel, by decide +kernel⟩
def D_f__law_most : He.DefD := ⟨("_law_most", none), "_law_most", "_law_most", defArgs (top 29), defBody (top 29), defScope (top 29), [], []⟩
theorem b_f__law_most {K : PySem.W.Frag} {f : Addr} {fd : FuncData} (F : FunD K "_law_most" "_law_most" (defArgs (top 29)) (defBody (top 29)) (defScope (top 29)) [] [] f fd) : Binds K fd [("bookings" : Str)] [] := F.bindsN fun _ _ _ _ _ _ us hl => match us, hl with | [_], _ => rfl
theorem ok_f__law_most {K : PySem.W.Frag} {mg : Str → Option Value} {f : Addr} {fd : FuncData} (h : mg "_law_most" = some (.ref f)) (F : FunD K "_law_most" "_law_most" (defArgs (top 29)) (defBody (top 29)) (defScope (top 29)) [] [] f fd) : DefOk TT DD K mg 26 "_law_most" 1 := ⟨f, fd, [("bookings" : Str)], N_f__law_most, _, _, _, _, [], c_f__law_most, h, F, b_f__law_most F, sc_f__law_most, rfl, rfl, fun Φ X g hF => w_f__law_most g hF⟩
theorem sc_f__law_sets : FnScope N_f__law_sets [("many" : Str)] (defScope (top 30)) := ⟨rfl, rfl, rfl, by decide +kernel, rfl, by decide +kernel, by decide +kernel⟩
def D_f__law_sets : He.DefD := ⟨("_law_sets", none), "_law_sets", "_law_sets", defArgs (top 30), defBody (top 30), defScope (top 30), [], []⟩
theorem b_f__law_sets {K : PySem.W.Frag} {f : Addr} {fd : FuncData} (F : FunD K "_law_sets" "_law_sets" (defArgs (top 30)) (defBody (top 30)) (defScope (top 30)) [] [] f fd) : Binds K fd [("many" : Str)] [] := F.bindsN fun _ _ _ _ _ _ us hl => match us, hl with | [_], _ => rfl
theorem ok_f__law_sets {K : PySem.W.Frag} {mg : Str → Option Value} {f : Addr} {fd : FuncData} (h : mg "_law_sets" = some (.ref f)) (F : FunD K "_law_sets" "_law_sets" (defArgs (top 30)) (defBody (top 30)) (defScope (top 30)) [] [] f fd) : DefOk TT DD K mg 27 "_law_sets" 1 := ⟨f, fd, [("many" : Str)], N_f__law_sets, _, _, _, _, [], c_f__law_sets, h, F, b_f__law_sets F, sc_f__law_sets, rfl, rfl, fun Φ X g hF => w_f__law_sets g hF⟩
theorem sc_f__law_handed : FnScope N_f__law_handed [("bookings" : Str), ("tools" : Str)] (defScope (top 31)) := ⟨rfl, rfl, rfl, by decide +kernel, rfl, by decide +kernel, by decide +kernel⟩
def D_f__law_handed : He.DefD := ⟨("_law_handed", none), "_law_handed", "_law_handed", defArgs (top 31), defBody (top 31), defScope (top 31), [], []⟩
theorem b_f__law_handed {K : PySem.W.Frag} {f : Addr} {fd : FuncData} (F : FunD K "_law_handed" "_law_handed" (defArgs (top 31)) (defBody (top 31)) (defScope (top 31)) [] [] f fd) : Binds K fd [("bookings" : Str), ("tools" : Str)] [] := F.bindsN fun _ _ _ _ _ _ us hl => match us, hl with | [_, _], _ => rfl
theorem ok_f__law_handed {K : PySem.W.Frag} {mg : Str → Option Value} {f : Addr} {fd : FuncData} (h : mg "_law_handed" = some (.ref f)) (F : FunD K "_law_handed" "_law_handed" (defArgs (top 31)) (defBody (top 31)) (defScope (top 31)) [] [] f fd) : DefOk TT DD K mg 28 "_law_handed" 2 := ⟨f, fd, [("bookings" : Str), ("tools" : Str)], N_f__law_handed, _, _, _, _, [], c_f__law_handed, h, F, b_f__law_handed F, sc_f__law_handed, rfl, rfl, fun Φ X g hF => w_f__law_handed g hF⟩
theorem sc_f__law_spread : FnScope N_f__law_spread [("bookings" : Str), ("row" : Str), ("k" : Str), ("days" : Str)] (defScope (top 32)) := ⟨rfl, rfl, rfl, by decide +kernel, rfl, by decide +kernel, by decide +kernel⟩
def D_f__law_spread : He.DefD := ⟨("_law_spread", none), "_law_spread", "_law_spread", defArgs (top 32), defBody (top 32), defScope (top 32), [], []⟩
theorem b_f__law_spread {K : PySem.W.Frag} {f : Addr} {fd : FuncData} (F : FunD K "_law_spread" "_law_spread" (defArgs (top 32)) (defBody (top 32)) (defScope (top 32)) [] [] f fd) : Binds K fd [("bookings" : Str), ("row" : Str), ("k" : Str), ("days" : Str)] [] := F.bindsN fun _ _ _ _ _ _ us hl => match us, hl with | [_, _, _, _], _ => rfl
theorem ok_f__law_spread {K : PySem.W.Frag} {mg : Str → Option Value} {f : Addr} {fd : FuncData} (h : mg "_law_spread" = some (.ref f)) (F : FunD K "_law_spread" "_law_spread" (defArgs (top 32)) (defBody (top 32)) (defScope (top 32)) [] [] f fd) : DefOk TT DD K mg 29 "_law_spread" 4 := ⟨f, fd, [("bookings" : Str), ("row" : Str), ("k" : Str), ("days" : Str)], N_f__law_spread, _, _, _, _, [], c_f__law_spread, h, F, b_f__law_spread F, sc_f__law_spread, rfl, rfl, fun Φ X g hF => w_f__law_spread g hF⟩
theorem sc_f_law : FnScope N_f_law [("script" : Str)] (defScope (top 33)) := ⟨rfl, rfl, rfl, by decide +kernel, rfl, by decide +kernel, by decide +kernel⟩
def D_f_law : He.DefD := ⟨("law", none), "law", "law", defArgs (top 33), defBody (top 33), defScope (top 33), [], []⟩
theorem b_f_law {K : PySem.W.Frag} {f : Addr} {fd : FuncData} (F : FunD K "law" "law" (defArgs (top 33)) (defBody (top 33)) (defScope (top 33)) [] [] f fd) : Binds K fd [("script" : Str)] [] := F.bindsN fun _ _ _ _ _ _ us hl => match us, hl with | [_], _ => rfl
theorem ok_f_law {K : PySem.W.Frag} {mg : Str → Option Value} {f : Addr} {fd : FuncData} (h : mg "law" = some (.ref f)) (F : FunD K "law" "law" (defArgs (top 33)) (defBody (top 33)) (defScope (top 33)) [] [] f fd) : DefOk TT DD K mg 30 "law" 1 := ⟨f, fd, [("script" : Str)], N_f_law, _, _, _, _, [], c_f_law, h, F, b_f_law F, sc_f_law, rfl, rfl, fun Φ X g hF => w_f_law g hF⟩
def fn : List He.DefD := [D_f_is_number, D_f_is_from, D_f_is_tuple_of, D_f_all_rows, D_f_are_bookings, D_f_there_on, D_f_handed_out, D_f_is_handed, D_f_overlap, D_f_fewest_tools, D_f_with_fixed, D_f_can_have, D_f_most_kept, D_f_by_ends, D_f_days_kept, D_f_free_spans, D_f_first_free, D_f_moved_least, D_f_late_spread, D_f__law_draws, D_f__law_next, D_f__law_pick, D_f__law_alike, D_f__law_rows, D_f__law_there, D_f__law_good, D_f__law_most, D_f__law_sets, D_f__law_handed, D_f__law_spread, D_f_law]
def fa : List He.Fa := [.glo "is_number", .glo "is_from", .glo "is_tuple_of", .glo "all_rows", .glo "are_bookings", .glo "there_on", .glo "handed_out", .glo "is_handed", .glo "overlap", .glo "fewest_tools", .glo "with_fixed", .glo "can_have", .glo "most_kept", .glo "by_ends", .glo "days_kept", .glo "free_spans", .glo "first_free", .glo "moved_least", .glo "late_spread", .glo "_law_draws", .glo "_law_next", .glo "_law_pick", .glo "_law_alike", .glo "_law_rows", .glo "_law_there", .glo "_law_good", .glo "_law_most", .glo "_law_sets", .glo "_law_handed", .glo "_law_spread", .glo "law", .free "abs", .free "all", .free "any", .free "bool", .free "dict", .free "int", .free "isinstance", .free "len", .free "list", .free "max", .free "min", .free "range", .free "set", .free "sorted", .free "str", .free "sum", .free "tuple"]
section
variable {P : Program} {w : World} {K : PySem.W.Frag} {h : Heap} {mg : Str → Option Value} {f : Addr}
theorem frees (X : K.In h) (G : h.Ns mainGlobals mg) (c : He.SaysD fa fn K) : ∀ (j : Nat) (x : Str), TT.fr[j]? = some x → mg x = none
  | 0, _, e => by cases (show some ("abs" : Str) = some _ from e); exact He.free_ok X G (c.fact 31 (f := .free "abs") rfl)
  | 1, _, e => by cases (show some ("all" : Str) = some _ from e); exact He.free_ok X G (c.fact 32 (f := .free "all") rfl)
  | 2, _, e => by cases (show some ("any" : Str) = some _ from e); exact He.free_ok X G (c.fact 33 (f := .free "any") rfl)
  | 3, _, e => by cases (show some ("bool" : Str) = some _ from e); exact He.free_ok X G (c.fact 34 (f := .free "bool") rfl)
  | 4, _, e => by cases (show some ("dict" : Str) = some _ from e); exact He.free_ok X G (c.fact 35 (f := .free "dict") rfl)
  | 5, _, e => by cases (show some ("int" : Str) = some _ from e); exact He.free_ok X G (c.fact 36 (f := .free "int") rfl)
  | 6, _, e => by cases (show some ("isinstance" : Str) = some _ from e); exact He.free_ok X G (c.fact 37 (f := .free "isinstance") rfl)
  | 7, _, e => by cases (show some ("len" : Str) = some _ from e); exact He.free_ok X G (c.fact 38 (f := .free "len") rfl)
  | 8, _, e => by cases (show some ("list" : Str) = some _ from e); exact He.free_ok X G (c.fact 39 (f := .free "list") rfl)
  | 9, _, e => by cases (show some ("max" : Str) = some _ from e); exact He.free_ok X G (c.fact 40 (f := .free "max") rfl)
  | 10, _, e => by cases (show some ("min" : Str) = some _ from e); exact He.free_ok X G (c.fact 41 (f := .free "min") rfl)
  | 11, _, e => by cases (show some ("range" : Str) = some _ from e); exact He.free_ok X G (c.fact 42 (f := .free "range") rfl)
  | 12, _, e => by cases (show some ("set" : Str) = some _ from e); exact He.free_ok X G (c.fact 43 (f := .free "set") rfl)
  | 13, _, e => by cases (show some ("sorted" : Str) = some _ from e); exact He.free_ok X G (c.fact 44 (f := .free "sorted") rfl)
  | 14, _, e => by cases (show some ("str" : Str) = some _ from e); exact He.free_ok X G (c.fact 45 (f := .free "str") rfl)
  | 15, _, e => by cases (show some ("sum" : Str) = some _ from e); exact He.free_ok X G (c.fact 46 (f := .free "sum") rfl)
  | 16, _, e => by cases (show some ("tuple" : Str) = some _ from e); exact He.free_ok X G (c.fact 47 (f := .free "tuple") rfl)
  | _ + 17, _, e => nomatch e
theorem csts (X : K.In h) (G : h.Ns mainGlobals mg) (c : He.SaysD fa fn K) : ∀ (j : Nat) (x s : Str), TT.cs[j]? = some (x, s) → ∃ t, mg x = some (.str s t)
  | _ + 0, _, _, e => nomatch e
theorem defs (X : K.In h) (G : h.Ns mainGlobals mg) (c : He.SaysD fa fn K) : ∀ (g : Nat) (x : Str) (m : Nat), TT.fns[g]? = some (x, m) → DefOk TT DD K mg g x m
  | 0, _, _, e => by
    cases (show some (("is_number" : Str), 1) = some _ from e)
    obtain ⟨fd, F⟩ := c.def_ 0 (d := D_f_is_number) rfl
    exact ok_f_is_number (He.glo_ok X G (c.fact 0 (f := .glo "is_number") rfl)) F
  | 1, _, _, e => by
    cases (show some (("is_from" : Str), 2) = some _ from e)
    obtain ⟨fd, F⟩ := c.def_ 1 (d := D_f_is_from) rfl
    exact ok_f_is_from (He.glo_ok X G (c.fact 1 (f := .glo "is_from") rfl)) F
  | 2, _, _, e => by
    cases (show some (("is_tuple_of" : Str), 2) = some _ from e)
    obtain ⟨fd, F⟩ := c.def_ 2 (d := D_f_is_tuple_of) rfl
    exact ok_f_is_tuple_of (He.glo_ok X G (c.fact 2 (f := .glo "is_tuple_of") rfl)) F
  | 3, _, _, e => by
    cases (show some (("all_rows" : Str), 1) = some _ from e)
    obtain ⟨fd, F⟩ := c.def_ 3 (d := D_f_all_rows) rfl
    exact ok_f_all_rows (He.glo_ok X G (c.fact 3 (f := .glo "all_rows") rfl)) F
  | 4, _, _, e => by
    cases (show some (("are_bookings" : Str), 1) = some _ from e)
    obtain ⟨fd, F⟩ := c.def_ 4 (d := D_f_are_bookings) rfl
    exact ok_f_are_bookings (He.glo_ok X G (c.fact 4 (f := .glo "are_bookings") rfl)) F
  | 5, _, _, e => by
    cases (show some (("there_on" : Str), 2) = some _ from e)
    obtain ⟨fd, F⟩ := c.def_ 5 (d := D_f_there_on) rfl
    exact ok_f_there_on (He.glo_ok X G (c.fact 5 (f := .glo "there_on") rfl)) F
  | 6, _, _, e => by
    cases (show some (("handed_out" : Str), 2) = some _ from e)
    obtain ⟨fd, F⟩ := c.def_ 6 (d := D_f_handed_out) rfl
    exact ok_f_handed_out (He.glo_ok X G (c.fact 6 (f := .glo "handed_out") rfl)) F
  | 7, _, _, e => by
    cases (show some (("is_handed" : Str), 3) = some _ from e)
    obtain ⟨fd, F⟩ := c.def_ 7 (d := D_f_is_handed) rfl
    exact ok_f_is_handed (He.glo_ok X G (c.fact 7 (f := .glo "is_handed") rfl)) F
  | 8, _, _, e => by
    cases (show some (("overlap" : Str), 2) = some _ from e)
    obtain ⟨fd, F⟩ := c.def_ 8 (d := D_f_overlap) rfl
    exact ok_f_overlap (He.glo_ok X G (c.fact 8 (f := .glo "overlap") rfl)) F
  | 9, _, _, e => by
    cases (show some (("fewest_tools" : Str), 1) = some _ from e)
    obtain ⟨fd, F⟩ := c.def_ 9 (d := D_f_fewest_tools) rfl
    exact ok_f_fewest_tools (He.glo_ok X G (c.fact 9 (f := .glo "fewest_tools") rfl)) F
  | 10, _, _, e => by
    cases (show some (("with_fixed" : Str), 3) = some _ from e)
    obtain ⟨fd, F⟩ := c.def_ 10 (d := D_f_with_fixed) rfl
    exact ok_f_with_fixed (He.glo_ok X G (c.fact 10 (f := .glo "with_fixed") rfl)) F
  | 11, _, _, e => by
    cases (show some (("can_have" : Str), 4) = some _ from e)
    obtain ⟨fd, F⟩ := c.def_ 11 (d := D_f_can_have) rfl
    exact ok_f_can_have (He.glo_ok X G (c.fact 11 (f := .glo "can_have") rfl)) F
  | 12, _, _, e => by
    cases (show some (("most_kept" : Str), 2) = some _ from e)
    obtain ⟨fd, F⟩ := c.def_ 12 (d := D_f_most_kept) rfl
    exact ok_f_most_kept (He.glo_ok X G (c.fact 12 (f := .glo "most_kept") rfl)) F
  | 13, _, _, e => by
    cases (show some (("by_ends" : Str), 2) = some _ from e)
    obtain ⟨fd, F⟩ := c.def_ 13 (d := D_f_by_ends) rfl
    exact ok_f_by_ends (He.glo_ok X G (c.fact 13 (f := .glo "by_ends") rfl)) F
  | 14, _, _, e => by
    cases (show some (("days_kept" : Str), 2) = some _ from e)
    obtain ⟨fd, F⟩ := c.def_ 14 (d := D_f_days_kept) rfl
    exact ok_f_days_kept (He.glo_ok X G (c.fact 14 (f := .glo "days_kept") rfl)) F
  | 15, _, _, e => by
    cases (show some (("free_spans" : Str), 4) = some _ from e)
    obtain ⟨fd, F⟩ := c.def_ 15 (d := D_f_free_spans) rfl
    exact ok_f_free_spans (He.glo_ok X G (c.fact 15 (f := .glo "free_spans") rfl)) F
  | 16, _, _, e => by
    cases (show some (("first_free" : Str), 4) = some _ from e)
    obtain ⟨fd, F⟩ := c.def_ 16 (d := D_f_first_free) rfl
    exact ok_f_first_free (He.glo_ok X G (c.fact 16 (f := .glo "first_free") rfl)) F
  | 17, _, _, e => by
    cases (show some (("moved_least" : Str), 4) = some _ from e)
    obtain ⟨fd, F⟩ := c.def_ 17 (d := D_f_moved_least) rfl
    exact ok_f_moved_least (He.glo_ok X G (c.fact 17 (f := .glo "moved_least") rfl)) F
  | 18, _, _, e => by
    cases (show some (("late_spread" : Str), 4) = some _ from e)
    obtain ⟨fd, F⟩ := c.def_ 18 (d := D_f_late_spread) rfl
    exact ok_f_late_spread (He.glo_ok X G (c.fact 18 (f := .glo "late_spread") rfl)) F
  | 19, _, _, e => by
    cases (show some (("_law_draws" : Str), 2) = some _ from e)
    obtain ⟨fd, F⟩ := c.def_ 19 (d := D_f__law_draws) rfl
    exact ok_f__law_draws (He.glo_ok X G (c.fact 19 (f := .glo "_law_draws") rfl)) F
  | 20, _, _, e => by
    cases (show some (("_law_next" : Str), 2) = some _ from e)
    obtain ⟨fd, F⟩ := c.def_ 20 (d := D_f__law_next) rfl
    exact ok_f__law_next (He.glo_ok X G (c.fact 20 (f := .glo "_law_next") rfl)) F
  | 21, _, _, e => by
    cases (show some (("_law_pick" : Str), 2) = some _ from e)
    obtain ⟨fd, F⟩ := c.def_ 21 (d := D_f__law_pick) rfl
    exact ok_f__law_pick (He.glo_ok X G (c.fact 21 (f := .glo "_law_pick") rfl)) F
  | 22, _, _, e => by
    cases (show some (("_law_alike" : Str), 2) = some _ from e)
    obtain ⟨fd, F⟩ := c.def_ 22 (d := D_f__law_alike) rfl
    exact ok_f__law_alike (He.glo_ok X G (c.fact 22 (f := .glo "_law_alike") rfl)) F
  | 23, _, _, e => by
    cases (show some (("_law_rows" : Str), 2) = some _ from e)
    obtain ⟨fd, F⟩ := c.def_ 23 (d := D_f__law_rows) rfl
    exact ok_f__law_rows (He.glo_ok X G (c.fact 23 (f := .glo "_law_rows") rfl)) F
  | 24, _, _, e => by
    cases (show some (("_law_there" : Str), 2) = some _ from e)
    obtain ⟨fd, F⟩ := c.def_ 24 (d := D_f__law_there) rfl
    exact ok_f__law_there (He.glo_ok X G (c.fact 24 (f := .glo "_law_there") rfl)) F
  | 25, _, _, e => by
    cases (show some (("_law_good" : Str), 2) = some _ from e)
    obtain ⟨fd, F⟩ := c.def_ 25 (d := D_f__law_good) rfl
    exact ok_f__law_good (He.glo_ok X G (c.fact 25 (f := .glo "_law_good") rfl)) F
  | 26, _, _, e => by
    cases (show some (("_law_most" : Str), 1) = some _ from e)
    obtain ⟨fd, F⟩ := c.def_ 26 (d := D_f__law_most) rfl
    exact ok_f__law_most (He.glo_ok X G (c.fact 26 (f := .glo "_law_most") rfl)) F
  | 27, _, _, e => by
    cases (show some (("_law_sets" : Str), 1) = some _ from e)
    obtain ⟨fd, F⟩ := c.def_ 27 (d := D_f__law_sets) rfl
    exact ok_f__law_sets (He.glo_ok X G (c.fact 27 (f := .glo "_law_sets") rfl)) F
  | 28, _, _, e => by
    cases (show some (("_law_handed" : Str), 2) = some _ from e)
    obtain ⟨fd, F⟩ := c.def_ 28 (d := D_f__law_handed) rfl
    exact ok_f__law_handed (He.glo_ok X G (c.fact 28 (f := .glo "_law_handed") rfl)) F
  | 29, _, _, e => by
    cases (show some (("_law_spread" : Str), 4) = some _ from e)
    obtain ⟨fd, F⟩ := c.def_ 29 (d := D_f__law_spread) rfl
    exact ok_f__law_spread (He.glo_ok X G (c.fact 29 (f := .glo "_law_spread") rfl)) F
  | 30, _, _, e => by
    cases (show some (("law" : Str), 1) = some _ from e)
    obtain ⟨fd, F⟩ := c.def_ 30 (d := D_f_law) rfl
    exact ok_f_law (He.glo_ok X G (c.fact 30 (f := .glo "law") rfl)) F
  | _ + 31, _, _, e => nomatch e
abbrev R : PySem.W.OpenRow := PySem.W.OpenLaw.row PySem.Challenge.rw_toolslent_k02_bookings_kept
abbrev hk : PySem.W.Hook := He.hookD 4 fa fn
def ob (s : PySem.W.SharedT) : He.AlD := He.obsDG 4 fa fn (HandSHeadRun.getT s)
theorem ob_eq (s : PySem.W.SharedT) : ob s = hk.obs s.abs := He.obsDG_eq (HandSHeadRun.getT_eq s)
def loose : List Str := [("is_number" : Str), ("is_from" : Str), ("is_tuple_of" : Str), ("all_rows" : Str), ("are_bookings" : Str), ("there_on" : Str), ("handed_out" : Str), ("is_handed" : Str), ("overlap" : Str), ("fewest_tools" : Str), ("with_fixed" : Str), ("can_have" : Str), ("most_kept" : Str), ("by_ends" : Str), ("days_kept" : Str), ("free_spans" : Str), ("first_free" : Str), ("moved_least" : Str), ("late_spread" : Str), ("_law_draws" : Str), ("_law_next" : Str), ("_law_pick" : Str), ("_law_alike" : Str), ("_law_rows" : Str), ("_law_there" : Str), ("_law_good" : Str), ("_law_most" : Str), ("_law_sets" : Str), ("_law_handed" : Str), ("_law_spread" : Str)]
theorem run (w : World) : HandSHeadRun.RunEq R (PySem.W.view R.prog [33]) hk ob 4000 loose w := by
  intro os
  kernel_rfl
theorem facts (X : K.In h) (G : h.Ns mainGlobals mg) (hfa : mg ("law" : Str) = some (.ref f)) (c : He.SaysD fa fn K) :
    ∃ fd : FuncData, (∀ (s : Shared) (v : Value), BindsTo s fd ⟨[v], []⟩ [("script", v)]) ∧ ∀ base : Heap, K.In base → base.Ns mainGlobals mg → FnOk P w K mg base CX0 41 f fd ["script"] (spOf K (sem DD 41 30) 1) := by
  obtain ⟨fd, F⟩ := c.def_ 30 (d := D_f_law) rfl
  have e := hfa.symm.trans (He.glo_ok X G (c.fact 30 (f := .glo "law") rfl))
  cases e
  have b := FunD.bindsA (ps := ["script"]) F fun _ _ _ _ _ _ us hl => match us, hl with | [_], _ => rfl
  exact ⟨fd, fun s v => b s [v] rfl, fun base _ _ => fn_step (all_fn (defs X G c) (frees X G c) (csts X G c) 40) (frees X G c) (csts X G c) (g := 30) F sc_f_law rfl fun Φ X g hF => w_f_law g hF⟩
end
end MP.K02

/-! MP pure: how the evaluator is worked with, in plain Lean. -/
namespace MP
open PySem

section
variable {Φ : Fns} {ρ : Envi} {D : DS} {i : Nat} {a b c e k v : CE} {es : CEs}
@[simp] theorem ev_var : ev Φ (.var i) ρ D = (getS ρ i).map fun x => (x, D) := rfl
@[simp] theorem ev_bor : ev Φ (.bor i) ρ D = (borS ρ i).map fun x => (x, D) := rfl
@[simp] theorem ev_int {n : Int} : ev Φ (.int n) ρ D = some (.int n, D) := rfl
@[simp] theorem ev_bl {n : Bool} : ev Φ (.bl n) ρ D = some (.bl n, D) := rfl
@[simp] theorem ev_non : ev Φ .non ρ D = some (.non, D) := rfl
@[simp] theorem ev_str {s : Str} : ev Φ (.str s) ρ D = some (.str s, D) := rfl
@[simp] theorem ev_cst {x s : Str} : ev Φ (.cst x s) ρ D = some (.str s, D) := rfl
@[simp] theorem ev_tup : ev Φ (.tup es) ρ D = (evs Φ es ρ D).map fun r => (.tup r.1, r.2) := rfl
@[simp] theorem ev_lst : ev Φ (.lst es) ρ D = (evs Φ es ρ D).map fun r => (.lst r.1, r.2) := rfl
@[simp] theorem ev_dsp {t : Nat} {ps : CPs} : ev Φ (.dsp t ps) ρ D = (evd Φ ps ρ D).bind fun r => if (r.1.all fun p => isKey t p.1) then some (.dct t (dMerge [] r.1), r.2) else none := rfl
@[simp] theorem ev_bin {op : Bo} : ev Φ (.bin op a b) ρ D = (ev Φ a ρ D).bind fun r => (ev Φ b ρ r.2).bind fun q => (pBin op r.1 q.1).map fun z => (z, q.2) := rfl
@[simp] theorem ev_neg : ev Φ (.neg a) ρ D = (ev Φ a ρ D).bind fun r => (pNeg r.1).map fun z => (z, r.2) := rfl
@[simp] theorem ev_cmp {op : Co} : ev Φ (.cmp op a b) ρ D = (ev Φ a ρ D).bind fun r => (ev Φ b ρ r.2).bind fun q => (opd q.2 q.1).bind fun o => (pCmp op r.1 o).map fun z => (.bl z, q.2) := rfl
@[simp] theorem ev_chn {op op2 : Co} : ev Φ (.chn op op2 a b c) ρ D = (ev Φ a ρ D).bind fun r => (ev Φ b ρ r.2).bind fun q => (pCmp op r.1 q.1).bind fun z => if z then (ev Φ c ρ q.2).bind fun t => (pCmp op2 q.1 t.1).map fun y => (.bl y, t.2) else some (.bl false, q.2) := rfl
@[simp] theorem ev_and : ev Φ (.and_ es) ρ D = evand Φ es ρ D := rfl
@[simp] theorem ev_or : ev Φ (.or_ es) ρ D = evor Φ es ρ D := rfl
@[simp] theorem ev_not : ev Φ (.not_ a) ρ D = (ev Φ a ρ D).bind fun r => (blOf r.1).map fun z => (.bl (!z), r.2) := rfl
@[simp] theorem ev_ite : ev Φ (.ite c a b) ρ D = (ev Φ c ρ D).bind fun r => (blOf r.1).bind fun z => if z then ev Φ a ρ r.2 else ev Φ b ρ r.2 := rfl
@[simp] theorem ev_idx : ev Φ (.idx a k) ρ D = (ev Φ a ρ D).bind fun r => (ev Φ k ρ r.2).bind fun q => (opd q.2 r.1).bind fun o => (pIdx o q.1).map fun z => (z, q.2) := rfl
@[simp] theorem ev_cut {lo hi : CEs} : ev Φ (.cut a lo hi) ρ D = (ev Φ a ρ D).bind fun r => (evo Φ lo ρ r.2).bind fun l => (evo Φ hi ρ l.2).bind fun h => (pCut r.1 l.1 h.1).map fun z => (z, h.2) := rfl
@[simp] theorem ev_rev : ev Φ (.rev a) ρ D = (ev Φ a ρ D).bind fun r => (pRev r.1).map fun z => (z, r.2) := rfl
@[simp] theorem ev_call {g : Nat} : ev Φ (.call g es) ρ D = (evs Φ es ρ D).bind fun r => Φ g r.1 r.2 := rfl
@[simp] theorem ev_bi {b : Bi} : ev Φ (.bi b es) ρ D = (evs Φ es ρ D).bind fun r => (mapO (opd r.2) r.1).bind fun xs => (pBi b xs).map fun z => (z, r.2) := rfl
@[simp] theorem ev_isi {t : Ty} : ev Φ (.isi t a) ρ D = (ev Φ a ρ D).bind fun r => (pIs t r.1).map fun z => (.bl z, r.2) := rfl
@[simp] theorem ev_met {m : Me} : ev Φ (.met m a es) ρ D = (ev Φ a ρ D).bind fun r => (evs Φ es ρ r.2).bind fun q => (pMe m r.1 q.1).map fun z => (z, q.2) := rfl
@[simp] theorem ev_inr : ev Φ (.inr e a b) ρ D = (ev Φ e ρ D).bind fun r => (ev Φ a ρ r.2).bind fun q => (ev Φ b ρ q.2).bind fun t => (intOf r.1).bind fun i => (intOf q.1).bind fun m => (intOf t.1).map fun n => (.bl (decide (m ≤ i ∧ i < n)), t.2) := rfl
@[simp] theorem evs_nil : evs Φ .nil ρ D = some ([], D) := rfl
@[simp] theorem evs_cons : evs Φ (.cons e es) ρ D = (ev Φ e ρ D).bind fun r => (evs Φ es ρ r.2).map fun q => (r.1 :: q.1, q.2) := rfl
@[simp] theorem evd_nil : evd Φ .nil ρ D = some ([], D) := rfl
@[simp] theorem evd_cons {r : CPs} : evd Φ (.cons k v r) ρ D = (ev Φ k ρ D).bind fun x => (ev Φ v ρ x.2).bind fun q => (evd Φ r ρ q.2).map fun z => ((x.1, q.1) :: z.1, z.2) := rfl
@[simp] theorem evand_one : evand Φ (.cons e .nil) ρ D = ev Φ e ρ D := rfl
@[simp] theorem evand_cons {f : CE} : evand Φ (.cons e (.cons f es)) ρ D = (ev Φ e ρ D).bind fun r => (blOf r.1).bind fun z => if z then evand Φ (.cons f es) ρ r.2 else some (.bl false, r.2) := rfl
@[simp] theorem evor_one : evor Φ (.cons e .nil) ρ D = ev Φ e ρ D := rfl
@[simp] theorem evor_cons {f : CE} : evor Φ (.cons e (.cons f es)) ρ D = (ev Φ e ρ D).bind fun r => (blOf r.1).bind fun z => if z then some (.bl true, r.2) else evor Φ (.cons f es) ρ r.2 := rfl
@[simp] theorem evo_nil : evo Φ .nil ρ D = some (none, D) := rfl
@[simp] theorem evo_one : evo Φ (.cons e .nil) ρ D = (ev Φ e ρ D).bind fun r => (intOf r.1).map fun i => (some i, r.2) := rfl
@[simp] theorem evt_nil : evt Φ .nil ρ D = some (true, D) := rfl
@[simp] theorem evt_one : evt Φ (.cons e .nil) ρ D = (ev Φ e ρ D).bind fun r => (blOf r.1).map fun z => (z, r.2) := rfl
@[simp] theorem evi_over : evi Φ (.over e) ρ D = (ev Φ e ρ D).bind fun r => (itOf r.1).map fun xs => (xs, r.2) := rfl
@[simp] theorem evi_rng1 : evi Φ (.rng1 a) ρ D = (ev Φ a ρ D).bind fun r => (intOf r.1).bind fun n => if rngOk 0 n then some (rngL 0 n, r.2) else none := rfl
@[simp] theorem evi_rng2 : evi Φ (.rng2 a b) ρ D = (ev Φ a ρ D).bind fun r => (ev Φ b ρ r.2).bind fun q => (intOf r.1).bind fun m => (intOf q.1).bind fun n => if rngOk m n then some (rngL m n, q.2) else none := rfl
@[simp] theorem evi_enum : evi Φ (.enum e) ρ D = (ev Φ e ρ D).bind fun r => (seqOf r.1).map fun xs => (enumL xs, r.2) := rfl
@[simp] theorem evi_zip : evi Φ (.zip a b) ρ D = (ev Φ a ρ D).bind fun r => (ev Φ b ρ r.2).bind fun q => (zipOf r.1 q.1).map fun xs => (xs, q.2) := rfl
@[simp] theorem evi_keys : evi Φ (.keys i) ρ D = ((borS ρ i).bind keysOf).map fun xs => (xs, D) := rfl
end
/-- one turn of a comprehension with one clause -/
def st1 (Φ : Fns) (own : List Nat) (ce : CE) (pt : Pat) (ct : CEs) (ρ : Envi) : PV → DS → Option (List PV × DS) := fun x D1 =>
  (bindP pt x (wipE ρ own)).bind fun ρ1 => (evt Φ ct ρ1 D1).bind fun c => if c.1 then (ev Φ ce ρ1 c.2).map fun y => ([y.1], y.2) else some ([], c.2)
theorem ev_lc1 {Φ : Fns} {ρ : Envi} {D : DS} {own : List Nat} {ce : CE} {pt : Pat} {ci : CI} {ct : CEs} : ev Φ (.lc1 own ce pt ci ct) ρ D = (evi Φ ci ρ D).bind fun r => (lcF (st1 Φ own ce pt ct ρ) r.1 r.2).map fun q => (.lst q.1, q.2) := rfl
/-- a comprehension that changes nothing: what stands, and its value -/
theorem lcF_pure {f : PV → DS → Option (List PV × DS)} {D : DS} {h : PV → List PV} : ∀ {xs : List PV}, (∀ x ∈ xs, f x D = some (h x, D)) → lcF f xs D = some (xs.flatMap h, D)
  | [], _ => rfl
  | x :: xs, H => by
    rw [lcF, H x List.mem_cons_self, Option.bind_some, lcF_pure fun y hy => H y (List.mem_cons_of_mem _ hy)]
    rfl
theorem flatMap_if {α β : Type} (xs : List α) (p : α → Bool) (f : α → β) : (xs.flatMap fun x => if p x then [f x] else []) = (xs.filter p).map f := by
  induction xs with
  | nil => rfl
  | cons x xs ih =>
    rw [List.flatMap_cons, ih]
    by_cases h : p x = true
    · simp [h]
    · simp [h]
/-- .. over ints: the test and the value -/
theorem lc_ints {f : PV → DS → Option (List PV × DS)} {D : DS} {ns : List Int} {p : Int → Bool} {g : Int → PV} (H : ∀ n ∈ ns, f (.int n) D = some (if p n then [g n] else [], D)) : lcF f (ns.map .int) D = some ((ns.filter p).map g, D) := by
  rw [lcF_pure (h := fun x => match x with | .int n => if p n then [g n] else [] | _ => [])]
  · rw [List.flatMap_map, ← flatMap_if]
  · intro x hx
    obtain ⟨n, hn, rfl⟩ := List.mem_map.mp hx
    exact H n hn
/-- with some state threaded -/
theorem lcF_inv {f : PV → DS → Option (List PV × DS)} (I : DS → Prop) (R : PV → List PV → Prop) : ∀ {xs : List PV} {D : DS}, I D → (∀ x ∈ xs, ∀ D, I D → ∃ l D', f x D = some (l, D') ∧ I D' ∧ R x l) → ∃ ls D', lcF f xs D = some (ls.flatten, D') ∧ I D' ∧ ls.length = xs.length ∧ ∀ p ∈ xs.zip ls, R p.1 p.2
  | [], D, h, _ => ⟨[], D, rfl, h, rfl, fun p hp => absurd hp (by simp)⟩
  | x :: xs, D, h, H => by
    obtain ⟨l, D1, e1, h1, r1⟩ := H x List.mem_cons_self D h
    obtain ⟨ls, D2, e2, h2, hl, r2⟩ := lcF_inv I R h1 fun y hy => H y (List.mem_cons_of_mem _ hy)
    refine ⟨l :: ls, D2, ?_, h2, by simp [hl], fun p hp => ?_⟩
    · rw [lcF, e1, Option.bind_some, e2, Option.bind_some, List.flatten_cons]
    · rw [List.zip_cons_cons] at hp
      rcases List.mem_cons.mp hp with e | hp
      · rw [e]; exact r1
      · exact r2 p hp
/-! ### statements, a step at a time -/
section
variable {Φ : Fns} {ρ ρ1 : Envi} {D D1 : DS} {s : CS} {r : CSs} {R : XR}
theorem xs_nx (h : ex Φ s ρ D = some (.nx, ρ1, D1)) : exs Φ (.cons s r) ρ D = exs Φ r ρ1 D1 := by
  show (ex Φ s ρ D).bind _ = _
  rw [h]
  rfl
theorem xs_rt {x : PV} (h : ex Φ s ρ D = some (.rt x, ρ1, D1)) : exs Φ (.cons s r) ρ D = some (.rt x, ρ1, D1) := by
  show (ex Φ s ρ D).bind _ = _
  rw [h]
  rfl
@[simp] theorem exs_nil : exs Φ .nil ρ D = some (.nx, ρ, D) := rfl
@[simp] theorem exs_frz {is : List Nat} : exs Φ (.frz is r) ρ D = exs Φ r (frzL ρ is) D := rfl
@[simp] theorem exs_cons : exs Φ (.cons s r) ρ D = (ex Φ s ρ D).bind fun q => match q.1 with
    | .nx => exs Φ r q.2.1 q.2.2
    | _ => some q := rfl
variable {i : Nat} {e k c : CE} {a b : CSs} {op : Bo} {o : Bool}
@[simp] theorem ex_asg : ex Φ (.asg o i e) ρ D = (ev Φ e ρ D).map fun r => (.nx, ρ.set i (some (o, r.1)), r.2) := rfl
@[simp] theorem ex_asgP {p : Pat} : ex Φ (.asgP p e) ρ D = (ev Φ e ρ D).bind fun r => (bindP p r.1 ρ).map fun ρ1 => (.nx, ρ1, r.2) := rfl
@[simp] theorem ex_asgS : ex Φ (.asgS i e) ρ D = (ev Φ e ρ D).map fun r => (.nx, ρ.set i (some (false, .shr r.2.length)), r.2 ++ [r.1]) := rfl
@[simp] theorem ex_par {ts : List Tg} {os : List Bool} {es : CEs} : ex Φ (.par ts os es) ρ D = (evs Φ es ρ D).bind fun r => (storeT Φ ts os r.1 ρ r.2).map fun q => (.nx, q.1, q.2) := rfl
@[simp] theorem ex_aug : ex Φ (.aug i op e) ρ D = (getS ρ i).bind fun x => (ev Φ e ρ D).bind fun r => (pIp op x r.1).map fun z => (.nx, ρ.set i (some (false, z)), r.2) := rfl
@[simp] theorem ex_setI : ex Φ (.setI i k e) ρ D = (ev Φ e ρ D).bind fun r => (ev Φ k ρ r.2).bind fun q => (chg (fun y => pSet y q.1 r.1) i ρ q.2).map fun z => (.nx, z.1, z.2) := rfl
@[simp] theorem ex_augI : ex Φ (.augI i k op e) ρ D = (ev Φ k ρ D).bind fun q => (borS ρ i).bind fun c => (opd q.2 c).bind fun o => (if isLD o then pIdx o q.1 else none).bind fun old => (ev Φ e ρ q.2).bind fun r => (pIp op old r.1).bind fun z =>
      (chg (fun y => pSet y q.1 z) i ρ r.2).map fun t => (.nx, t.1, t.2) := rfl
@[simp] theorem ex_app : ex Φ (.app i e) ρ D = (ev Φ e ρ D).bind fun r => (chgO (pApp r.1) i ρ r.2).map fun z => (.nx, z.1, z.2) := rfl
@[simp] theorem ex_ext : ex Φ (.ext i e) ρ D = (ev Φ e ρ D).bind fun r => (chgO (pExt r.1) i ρ r.2).map fun z => (.nx, z.1, z.2) := rfl
@[simp] theorem ex_ins : ex Φ (.ins i k e) ρ D = (ev Φ k ρ D).bind fun q => (ev Φ e ρ q.2).bind fun r => (chgO (pInsAt q.1 r.1) i ρ r.2).map fun z => (.nx, z.1, z.2) := rfl
@[simp] theorem ex_rem : ex Φ (.rem i e) ρ D = (ev Φ e ρ D).bind fun r => (chgO (pRem r.1) i ρ r.2).map fun z => (.nx, z.1, z.2) := rfl
theorem ex_whl : ex Φ (.whl c b) ρ D = whlL (fun ρ D => (ev Φ c ρ D).bind fun r => (blOf r.1).map fun z => (z, r.2)) (fun ρ D => exs Φ b ρ D) WH ρ D := rfl
theorem ex_pop0 {p : Pat} : ex Φ (.pop0 p i) ρ D = match ρ[i]? with
    | some (some (true, .lst (y :: xs))) => (bindP p y (ρ.set i (some (true, .lst xs)))).map fun ρ1 => (.nx, ρ1, D)
    | _ => none := rfl
@[simp] theorem ex_expr : ex Φ (.expr e) ρ D = (ev Φ e ρ D).map fun r => (.nx, ρ, r.2) := rfl
@[simp] theorem ex_ret : ex Φ (.ret e) ρ D = (ev Φ e ρ D).map fun r => (.rt r.1, ρ, r.2) := rfl
@[simp] theorem ex_retN : ex Φ .retN ρ D = some (.rt .non, ρ, D) := rfl
@[simp] theorem ex_ife : ex Φ (.ife c a b) ρ D = (ev Φ c ρ D).bind fun r => (blOf r.1).bind fun z => if z then exs Φ a ρ r.2 else exs Φ b ρ r.2 := rfl
@[simp] theorem ex_brk : ex Φ .brk ρ D = some (.bk, ρ, D) := rfl
@[simp] theorem ex_cnt : ex Φ .cnt ρ D = some (.ct, ρ, D) := rfl
@[simp] theorem ex_pass : ex Φ .pass ρ D = some (.nx, ρ, D) := rfl
theorem ex_for {p : Pat} {it : CI} : ex Φ (.for_ p it b) ρ D = (evi Φ it ρ D).bind fun r => forL (fun x ρ D => (bindP p x ρ).bind fun ρ1 => exs Φ b ρ1 D) r.1 ρ r.2 := rfl
end
theorem run_rt {Φ : Fns} {d : Def} {args : List PV} {D D' : DS} {x : PV} {ρ' : Envi} (hl : args.length = d.np) (h : exs Φ d.body (args.map (fun x => some (false, x)) ++ List.replicate (d.nn - d.np) none) D = some (.rt x, ρ', D')) (hD : D'.length = D.length) : d.run Φ args D = some (x, D') := by
  unfold Def.run
  rw [if_pos hl, h, Option.bind_some]
  show (some x).bind _ = _
  rw [Option.bind_some, if_pos hD]
/-- a loop that ends by itself: an invariant by the items done -/
theorem for_inv {f : PV → Envi → DS → XR} {xs : List PV} (I : Nat → Envi → DS → Prop) {ρ : Envi} {D : DS} (h0 : I 0 ρ D) (hs : ∀ (i : Nat) (x : PV) (ρ : Envi) (D : DS), xs[i]? = some x → I i ρ D → ∃ o ρ' D', f x ρ D = some (o, ρ', D') ∧ (o = .nx ∨ o = .ct) ∧ I (i + 1) ρ' D') :
    ∃ ρ' D', forL f xs ρ D = some (.nx, ρ', D') ∧ I xs.length ρ' D' := by
  induction xs generalizing I ρ D with
  | nil => exact ⟨ρ, D, rfl, h0⟩
  | cons x xs ih =>
    obtain ⟨o, ρ1, D1, e1, ho, h1⟩ := hs 0 x ρ D rfl h0
    obtain ⟨ρ2, D2, e2, h2⟩ := ih (fun i => I (i + 1)) h1 fun i y ρ D hy hI => hs (i + 1) y ρ D (by simpa using hy) hI
    refine ⟨ρ2, D2, ?_, by simpa using h2⟩
    rw [forL, e1, Option.bind_some]
    rcases ho with rfl | rfl
    · exact e2
    · exact e2
/-- a while loop: an invariant by a measure -/
theorem while_inv {c : Envi → DS → Option (Bool × DS)} {f : Envi → DS → XR} {P : Envi → DS → Prop} (I : Nat → Envi → DS → Prop) (hs : ∀ (m : Nat) (ρ : Envi) (D : DS), I m ρ D → (∃ D', c ρ D = some (false, D') ∧ P ρ D') ∨ ∃ D1 ρ' D' m', c ρ D = some (true, D1) ∧ m = m' + 1 ∧ f ρ D1 = some (.nx, ρ', D') ∧ I m' ρ' D') :
    ∀ (m n : Nat) (ρ : Envi) (D : DS), m < n → I m ρ D → ∃ ρ' D', whlL c f n ρ D = some (.nx, ρ', D') ∧ P ρ' D' := by
  intro m
  induction m with
  | zero =>
    intro n ρ D hn h
    cases n with
    | zero => omega
    | succ n =>
      rcases hs 0 ρ D h with ⟨D', e, p⟩ | ⟨D1, ρ', D', m', e, z, _, _⟩
      · refine ⟨ρ, D', ?_, p⟩
        rw [whlL, e, Option.bind_some]
        rfl
      · omega
  | succ m ih =>
    intro n ρ D hn h
    cases n with
    | zero => omega
    | succ n =>
      rcases hs (m + 1) ρ D h with ⟨D', e, p⟩ | ⟨D1, ρ', D', m', e, z, e2, h2⟩
      · refine ⟨ρ, D', ?_, p⟩
        rw [whlL, e, Option.bind_some]
        rfl
      · obtain rfl : m' = m := by omega
        obtain ⟨ρ2, D2, e3, p⟩ := ih n ρ' D' (by omega) h2
        refine ⟨ρ2, D2, ?_, p⟩
        rw [whlL, e, Option.bind_some]
        show ((f ρ D1).bind _) = _
        rw [e2, Option.bind_some]
        exact e3
/-! ### values -/
section
variable {D : DS}
@[simp] theorem opd_int {i : Int} : opd D (.int i) = some (.int i) := rfl
@[simp] theorem opd_bl {i : Bool} : opd D (.bl i) = some (.bl i) := rfl
@[simp] theorem opd_non : opd D .non = some .non := rfl
@[simp] theorem opd_str {i : Str} : opd D (.str i) = some (.str i) := rfl
@[simp] theorem opd_lst {i : List PV} : opd D (.lst i) = some (.lst i) := rfl
@[simp] theorem opd_tup {i : List PV} : opd D (.tup i) = some (.tup i) := rfl
@[simp] theorem opd_dct {t : Nat} {i : List (PV × PV)} : opd D (.dct t i) = some (.dct t i) := rfl
@[simp] theorem opd_scr {i : List Int} : opd D (.scr i) = some (.scr i) := rfl
@[simp] theorem mapO_nil {α β : Type} {f : α → Option β} : mapO f [] = some [] := rfl
@[simp] theorem mapO_cons {α β : Type} {f : α → Option β} {x : α} {xs : List α} : mapO f (x :: xs) = (f x).bind fun y => (mapO f xs).bind fun ys => some (y :: ys) := rfl
@[simp] theorem blOf_bl {b : Bool} : blOf (.bl b) = some b := rfl
@[simp] theorem intOf_int {b : Int} : intOf (.int b) = some b := rfl
@[simp] theorem seqOf_lst {b : List PV} : seqOf (.lst b) = some b := rfl
@[simp] theorem seqOf_tup {b : List PV} : seqOf (.tup b) = some b := rfl
@[simp] theorem itOf_lst {b : List PV} : itOf (.lst b) = some b := rfl
@[simp] theorem itOf_tup {b : List PV} : itOf (.tup b) = some b := rfl
end
section
variable {ns ms : List Int} {i j : Int}
theorem shp_ints {n : Nat} : ∀ ns : List Int, (ns.map PV.int).all (shp n) = true
  | [] => rfl
  | _ :: r => by rw [List.map_cons, List.all_cons, shp_ints r]; cases n <;> rfl
@[simp] theorem shp_int {n : Nat} : shp n (.int i) = true := by cases n <;> rfl
@[simp] theorem shp_bl {n : Nat} {b : Bool} : shp n (.bl b) = true := by cases n <;> rfl
@[simp] theorem shp_non {n : Nat} : shp n .non = true := by cases n <;> rfl
@[simp] theorem peq_int : peq (.int i) (.int j) = (i == j) := by rw [peq]
theorem any_peq : ∀ ns : List Int, ((ns.map PV.int).any fun y => peq y (.int i)) = decide (i ∈ ns)
  | [] => rfl
  | n :: r => by
    rw [List.map_cons, List.any_cons, any_peq r, peq_int]
    by_cases h : n = i
    · subst h; simp
    · have : ¬ i = n := fun e => h e.symm
      simp [h, this]
@[simp] theorem pIn_tup : pIn (.int i) (.tup (ns.map .int)) = some (decide (i ∈ ns)) := by
  show (if (shp DEP (.int i) && (ns.map PV.int).all (shp DEP)) = true then some ((ns.map PV.int).any fun y => peq y (.int i)) else none) = _
  rw [shp_int, shp_ints, any_peq]; rfl
@[simp] theorem pIn_lst : pIn (.int i) (.lst (ns.map .int)) = some (decide (i ∈ ns)) := by
  show (if (shp DEP (.int i) && (ns.map PV.int).all (shp DEP)) = true then some ((ns.map PV.int).any fun y => peq y (.int i)) else none) = _
  rw [shp_int, shp_ints, any_peq]; rfl
@[simp] theorem pEq_int : pEq (.int i) (.int j) = some (i == j) := by
  show (if (shp DEP (.int i) && shp DEP (.int j)) = true then some (peq (.int i) (.int j)) else none) = _
  simp
@[simp] theorem pLt_int : pLt (.int i) (.int j) = some (decide (i < j)) := by
  show (if (shp DEP (.int i) && shp DEP (.int j) && cmpOk (.int i) (.int j)) = true then some (plt (.int i) (.int j)) else none) = _
  simp [cmpOk, plt]
/-- the ints a .. b - 1 -/
def rg (a b : Int) : List Int := (List.range (b - a).toNat).map fun (k : Nat) => a + k
theorem rngL_rg (a b : Int) : rngL a b = (rg a b).map .int := by unfold rngL rg; rw [List.map_map]; rfl
theorem mem_rg {a b x : Int} : x ∈ rg a b ↔ a ≤ x ∧ x < b := by
  unfold rg
  rw [List.mem_map]
  constructor
  · rintro ⟨k, hk, rfl⟩
    have := List.mem_range.mp hk
    omega
  · rintro ⟨h1, h2⟩
    exact ⟨(x - a).toNat, List.mem_range.mpr (by omega), by omega⟩
end
end MP

/-! MP law: the defs that all laws share. -/
namespace MP
open PySem

/-! ### draws -/
/-- the law's dict of draws -/
def wD (ds : List Int) (at_ : Int) : PV := .dct 0 [(.str "draws", .lst (ds.map .int)), (.str "at", .int at_)]
def Wst (D : DS) : Prop := ∃ (ds : List Int) (at_ : Int), D = [wD ds at_] ∧ 0 ≤ at_ ∧ ∀ d ∈ ds, 0 ≤ d
def cNext : CSs := (.cons (.augI 0 (.str "at") .add (.int 1))
 (.cons (.ife (.cmp .gt (.idx (.var 0) (.str "at")) (.bi .len (.cons (.idx (.var 0) (.str "draws")) .nil))) (.cons (.ret (.int 0))
 .nil) .nil)
 (.cons (.ret (.bin .mod (.bi .int (.cons (.idx (.idx (.var 0) (.str "draws")) (.bin .sub (.idx (.var 0) (.str "at")) (.int 1))) .nil)) (.var 1)))
 .nil)))
theorem k1 : peq (.str "draws") (.str "at") = false := by decide +kernel
theorem k2 : peq (.str "draws") (.str "draws") = true := by decide +kernel
theorem k3 : peq (.str "at") (.str "at") = true := by decide +kernel
theorem k4 : peq (.str "at") (.str "draws") = false := by decide +kernel
theorem idx_at (ds : List Int) (a : Int) : pIdx (wD ds a) (.str "at") = some (.int a) := by
  show (if isKey 0 (.str "at") = true then dGet (.str "at") _ else none) = _
  rw [if_pos (show isKey 0 (.str "at") = true from rfl), dGet, k1, if_neg Bool.false_ne_true, dGet, k3]
  rfl
theorem idx_dr (ds : List Int) (a : Int) : pIdx (wD ds a) (.str "draws") = some (.lst (ds.map .int)) := by
  show (if isKey 0 (.str "draws") = true then dGet (.str "draws") _ else none) = _
  rw [if_pos (show isKey 0 (.str "draws") = true from rfl), dGet, k2]
  rfl
theorem set_at (ds : List Int) (a b : Int) : pSet (wD ds a) (.str "at") (.int b) = some (wD ds b) := by
  show (if (isKey 0 (.str "at") && decide (2 < LIM)) = true then some (PV.dct 0 (dPut (.str "at") (.int b) _)) else none) = _
  rw [if_pos (by decide)]
  unfold dPut
  simp [k1, k3, wD]
theorem isLD_w (ds : List Int) (a : Int) : isLD (wD ds a) = true := rfl
theorem opd_w (ds : List Int) (a : Int) : opd [wD ds a] (.shr 0) = some (wD ds a) := rfl
theorem ixN_ok {n : Nat} {i : Int} (h0 : 0 ≤ i) (h1 : i < n) : ixN n i = some i.toNat := by
  unfold ixN
  rw [if_pos h0, if_pos h1]
theorem next_ok {Φ : Fns} {D : DS} {m : Int} (h : Wst D) (hm : 0 < m) : ∃ r D', (Def.mk 2 2 cNext).run Φ [.shr 0, .int m] D = some (.int r, D') ∧ 0 ≤ r ∧ r < m ∧ Wst D' := by
  obtain ⟨ds, a, rfl, ha, hd⟩ := h
  have e1 : ex Φ (.augI 0 (.str "at") .add (.int 1)) [some (false, .shr 0), some (false, .int m)] [wD ds a] = some (.nx, [some (false, .shr 0), some (false, .int m)], [wD ds (a + 1)]) := by
    simp [borS, opd_w, isLD_w, idx_at, pIp, chg, set_at]
  by_cases hl : a + 1 > ds.length
  · refine ⟨0, [wD ds (a + 1)], ?_, Int.le_refl _, hm, ds, a + 1, rfl, by omega, hd⟩
    refine run_rt (ρ' := [some (false, .shr 0), some (false, .int m)]) rfl ?_ rfl
    show exs Φ cNext [some (false, .shr 0), some (false, .int m)] _ = _
    unfold cNext
    rw [xs_nx e1]
    have e2 : ev Φ (.cmp .gt (.idx (.var 0) (.str "at")) (.bi .len (.cons (.idx (.var 0) (.str "draws")) .nil))) [some (false, .shr 0), some (false, .int m)] [wD ds (a + 1)] = some (.bl true, [wD ds (a + 1)]) := by
      simp [getS, opd_w, idx_at, idx_dr, pBi, pCmp]
      omega
    rw [exs_cons, ex_ife, e2]
    rfl
  · have hr : ∃ d, ds[a.toNat]? = some d := ⟨ds[a.toNat]'(by omega), List.getElem?_eq_getElem _⟩
    obtain ⟨d, hdd⟩ := hr
    have hd0 := hd d (List.mem_of_getElem? hdd)
    refine ⟨d.fmod m, [wD ds (a + 1)], ?_, Int.fmod_nonneg_of_pos _ hm, Int.fmod_lt_of_pos _ hm, ds, a + 1, rfl, by omega, hd⟩
    refine run_rt (ρ' := [some (false, .shr 0), some (false, .int m)]) rfl ?_ rfl
    show exs Φ cNext [some (false, .shr 0), some (false, .int m)] _ = _
    unfold cNext
    rw [xs_nx e1]
    have e2 : ev Φ (.cmp .gt (.idx (.var 0) (.str "at")) (.bi .len (.cons (.idx (.var 0) (.str "draws")) .nil))) [some (false, .shr 0), some (false, .int m)] [wD ds (a + 1)] = some (.bl false, [wD ds (a + 1)]) := by
      simp [getS, opd_w, idx_at, idx_dr, pBi, pCmp]
      omega
    have e3 : ev Φ (.bin .mod (.bi .int (.cons (.idx (.idx (.var 0) (.str "draws")) (.bin .sub (.idx (.var 0) (.str "at")) (.int 1))) .nil)) (.var 1)) [some (false, .shr 0), some (false, .int m)] [wD ds (a + 1)] = some (.int (d.fmod m), [wD ds (a + 1)]) := by
      have ix : pIdx (.lst (ds.map .int)) (.int a) = some (.int d) := by
        show (ixN (ds.map PV.int).length a).bind (fun j => (ds.map PV.int)[j]?) = _
        rw [List.length_map, ixN_ok ha (by omega), Option.bind_some, List.getElem?_map, hdd]
        rfl
      have hm0 : m ≠ 0 := by omega
      simp [getS, opd_w, idx_at, idx_dr, pBi, pBin, ix, hm0]
    rw [exs_cons, ex_ife, e2]
    show exs Φ (.cons _ .nil) _ _ = _
    rw [exs_cons, ex_ret, e3]
    rfl
def cDr2 : CSs := (.cons (.ife (.cmp .gt (.var 6) (.int 0)) (.cons (.app 2 (.bin .mod (.bi .int (.cons (.var 6) .nil)) (.int 997)))
 (.cons (.asg false 6 (.bin .div (.var 6) (.int 997)))
 .nil)) .nil)
 .nil)
def cDr1 : CSs := (.cons (.asg false 5 (.bi .abs (.cons (.bi .int (.cons (.idx (.var 0) (.var 4)) .nil)) .nil)))
 (.cons (.asg false 3 (.bin .mod (.bi .int (.cons (.bin .add (.bin .add (.bin .mul (.var 3) (.int 48271)) (.bin .mod (.var 5) (.int 1000003))) (.var 4)) .nil)) (.int 65537)))
 (.cons (.asg false 6 (.int 0))
 (.cons (.ife (.cmp .ge (.var 5) (.bin .pow (.int 10) (.int 18))) (.cons (.asg false 6 (.var 5))
 .nil) (.cons (.app 2 (.bin .mod (.bi .int (.cons (.var 5) .nil)) (.int 997)))
 (.cons (.app 2 (.bin .mod (.bin .mod (.bi .int (.cons (.bin .add (.bin .mul (.var 3) (.int 69621)) (.int 5)) .nil)) (.int 65521)) (.int 997)))
 .nil)))
 (.cons (.for_ (.nm 7) (.rng1 (.int 60)) cDr2)
 .nil)))))
def cDr3 : CSs := (.cons (.asg false 3 (.bin .mod (.bi .int (.cons (.bin .add (.bin .add (.bin .mul (.var 3) (.int 16807)) (.var 4)) (.int 1)) .nil)) (.int 65537)))
 (.cons (.app 2 (.bin .mod (.bi .int (.cons (.var 3) .nil)) (.int 997)))
 .nil))
def cDraws : CSs := (.cons (.asg true 2 (.lst .nil))
 (.cons (.asg false 3 (.int 7))
 (.cons (.for_ (.nm 4) (.rng1 (.bi .len (.cons (.var 0) .nil))) cDr1)
 (.cons (.for_ (.nm 4) (.rng1 (.var 1)) cDr3)
 (.cons (.ret (.cut (.bor 2) .nil (.cons (.var 1) .nil)))
 .nil)))))
theorem mul_ok {a b : Int} (h : b.natAbs < 1000000) : pBin .mul (.int a) (.int b) = some (.int (a * b)) := by
  show (if (-two64 < a ∧ a < two64) ∨ (-two64 < b ∧ b < two64) then some (PV.int (a * b)) else none) = _
  rw [if_pos]
  right
  unfold two64
  omega
theorem mod_ok {a b : Int} (h : b ≠ 0) : pBin .mod (.int a) (.int b) = some (.int (a.fmod b)) := by
  show (if b ≠ 0 then some (PV.int (a.fmod b)) else none) = _
  rw [if_pos h]
theorem div_ok {a b : Int} (h : b ≠ 0) (h2 : b.natAbs < 1073741824) : pBin .div (.int a) (.int b) = some (.int (a.fdiv b)) := by
  show (if b ≠ 0 ∧ b.natAbs < 1073741824 then some (PV.int (a.fdiv b)) else none) = _
  rw [if_pos ⟨h, h2⟩]
@[simp] theorem add_ok {a b : Int} : pBin .add (.int a) (.int b) = some (.int (a + b)) := rfl
@[simp] theorem sub_ok {a b : Int} : pBin .sub (.int a) (.int b) = some (.int (a - b)) := rfl
theorem app_ok {xs : List PV} {v : PV} (h : xs.length < LIM) : pApp v (.lst xs) = some (.lst (xs ++ [v])) := by
  show (if xs.length < LIM then some (PV.lst (xs ++ [v])) else none) = _
  rw [if_pos h]
/-- the state of the draws' def -/
def drI (q0 : Int) (ns : List Int) (D0 : DS) (k : Nat) (ρ : Envi) (D : DS) : Prop := ∃ (ds : List Int) (m : Int) (x4 x5 x6 x7 : Option (Bool × PV)), ρ = [some (false, .scr ns), some (false, .int q0), some (true, .lst (ds.map .int)), some (false, .int m), x4, x5, x6, x7] ∧ D = D0 ∧ (∀ d ∈ ds, 0 ≤ d) ∧ ds.length ≤ k
theorem pow18 : pBin .pow (.int 10) (.int 18) = some (.int 1000000000000000000) := by rfl
theorem draws_ok {q0 : Int} {Φ : Fns} {ns : List Int} {D0 : DS} (hn : ns.length ≤ 63) (q1 : 0 ≤ q0 := by decide) (q2 : q0 ≤ 1000 := by decide) : ∃ ds : List Int, (Def.mk 8 2 cDraws).run Φ [.scr ns, .int q0] D0 = some (.lst (ds.map .int), D0) ∧ ∀ d ∈ ds, 0 ≤ d := by
  have h997 : ∀ a : Int, 0 ≤ a.fmod 997 := fun a => Int.fmod_nonneg_of_pos _ (by decide)
  have rgk : ∀ n : Int, 0 ≤ n → n ≤ 1000 → rngOk 0 n = true := fun n h1 h2 => by
    unfold rngOk
    have : ((LIM : Nat) : Int) = 1000000 := rfl
    exact decide_eq_true (by omega)
  -- the inner loop
  have inner : ∀ (K : Nat) (ds : List Int) (m : Int) (x4 x5 x7 : Option (Bool × PV)) (rest : Int), (∀ d ∈ ds, 0 ≤ d) → ds.length ≤ K → K ≤ 100000 →
      ∃ ρ' D', forL (fun x ρ D => (bindP (.nm 7) x ρ).bind fun ρ1 => exs Φ cDr2 ρ1 D) (rngL 0 60)
        [some (false, .scr ns), some (false, .int q0), some (true, .lst (ds.map .int)), some (false, .int m), x4, x5, some (false, .int rest), x7] D0 = some (.nx, ρ', D') ∧ drI q0 ns D0 (K + 60) ρ' D' := by
    intro K ds m x4 x5 x7 rest hd hl hK
    obtain ⟨ρ', D', e, ds', m', r', x7', hρ, hD, h1, h2⟩ := for_inv (f := fun x ρ D => (bindP (.nm 7) x ρ).bind fun ρ1 => exs Φ cDr2 ρ1 D) (xs := rngL 0 60)
      (I := fun i ρ D => ∃ (ds : List Int) (m : Int) (r : Int) (x7 : Option (Bool × PV)), ρ = [some (false, .scr ns), some (false, .int q0), some (true, .lst (ds.map .int)), some (false, .int m), x4, x5, some (false, .int r), x7] ∧ D = D0 ∧ (∀ d ∈ ds, 0 ≤ d) ∧ ds.length ≤ K + i)
      (h0 := ⟨ds, m, rest, x7, rfl, rfl, hd, hl⟩) (fun i x ρ D hx ⟨ds, m, r, x7, hρ, hD, hd, hl⟩ => by
        subst hρ hD
        have hi : i < 60 := by
          have := (List.getElem?_eq_some_iff.mp hx).1
          simpa [rngL] using this
        have hlen : (ds.map PV.int).length < LIM := by rw [List.length_map]; have : LIM = 1000000 := rfl; omega
        by_cases hr : 0 < r
        · refine ⟨.nx, [some (false, .scr ns), some (false, .int q0), some (true, .lst ((ds ++ [r.fmod 997]).map .int)), some (false, .int m), x4, x5, some (false, .int (r.fdiv 997)), some (false, x)], D, ?_, .inl rfl, ds ++ [r.fmod 997], m, _, _, rfl, rfl, ?_, ?_⟩
          · simp [cDr2, bindP, getS, pCmp, hr, pBi, mod_ok, div_ok, chgO, app_ok hlen]
          · intro d hd'
            rcases List.mem_append.mp hd' with h | h
            · exact hd d h
            · rw [List.mem_singleton.mp h]; exact h997 r
          · rw [List.length_append, List.length_singleton]; omega
        · refine ⟨.nx, [some (false, .scr ns), some (false, .int q0), some (true, .lst (ds.map .int)), some (false, .int m), x4, x5, some (false, .int r), some (false, x)], D, ?_, .inl rfl, ds, m, _, _, rfl, rfl, hd, by omega⟩
          simp [cDr2, bindP, getS, pCmp, hr])
    have hl60 : (rngL 0 60).length = 60 := by simp [rngL]
    exact ⟨ρ', D', e, ds', m', _, _, _, _, hρ, hD, h1, by omega⟩
  -- the first loop
  obtain ⟨ρ1, D1, e1, ds1, m1, y4, y5, y6, y7, hρ1, hD1, h1, h2⟩ := for_inv (f := fun x ρ D => (bindP (.nm 4) x ρ).bind fun ρ1 => exs Φ cDr1 ρ1 D) (xs := rngL 0 ns.length)
    (I := fun i ρ D => drI q0 ns D0 (62 * i) ρ D) (h0 := ⟨[], 7, none, none, none, none, rfl, rfl, by simp, by simp⟩) (fun i x ρ D hx ⟨ds, m, x4, x5, x6, x7, hρ, hD, hd, hl⟩ => by
      subst hρ hD
      have hi : i < ns.length := by
        have := (List.getElem?_eq_some_iff.mp hx).1
        simpa [rngL] using this
      have hxi : x = .int i := by
        unfold rngL at hx
        rw [List.getElem?_map, List.getElem?_range (by simpa using hi)] at hx
        simpa using (Option.some.inj hx).symm
      subst hxi
      have ix : pIdx (.scr ns) (.int i) = some (.int ns[i]) := by
        show (ixN ns.length (i : Int)).bind (fun j => (ns[j]?).map PV.int) = _
        rw [ixN_ok (by omega) (by omega), Option.bind_some]
        simp [hi]
      have hlen : (ds.map PV.int).length < LIM := by rw [List.length_map]; have : LIM = 1000000 := rfl; omega
      generalize hcell : (if ns[i] < 0 then -ns[i] else ns[i]) = cell
      have hc0 : 0 ≤ cell := by rw [← hcell]; split <;> omega
      by_cases hbig : 1000000000000000000 ≤ cell
      · obtain ⟨ρ', D', e, hI⟩ := inner (62 * i) ds ((m * 48271 + cell.fmod 1000003 + i).fmod 65537) (some (false, .int i)) (some (false, .int cell)) x7 cell hd hl (by omega)
        refine ⟨.nx, ρ', D', ?_, .inl rfl, ?_⟩
        · simp [cDr1, bindP, getS, ix, pBi, hcell, mul_ok, mod_ok, pow18, pCmp, hbig, ex_for, rgk]
          simp [bindP] at e
          rw [e]
          rfl
        · obtain ⟨a1, a2, a3, a4, a5, a6, a7, a8, a9, a10⟩ := hI
          exact ⟨a1, a2, a3, a4, a5, a6, a7, a8, a9, by omega⟩
      · have hl2 : ((ds ++ [cell.fmod 997]).map PV.int).length < LIM := by rw [List.length_map, List.length_append, List.length_singleton]; have : LIM = 1000000 := rfl; omega
        obtain ⟨ρ', D', e, hI⟩ := inner (62 * i + 2) (ds ++ [cell.fmod 997] ++ [(((m * 48271 + cell.fmod 1000003 + i).fmod 65537 * 69621 + 5).fmod 65521).fmod 997]) ((m * 48271 + cell.fmod 1000003 + i).fmod 65537) (some (false, .int i)) (some (false, .int cell)) x7 0
          (by
            intro d hd'
            rcases List.mem_append.mp hd' with h | h
            · rcases List.mem_append.mp h with h | h
              · exact hd d h
              · rw [List.mem_singleton.mp h]; exact h997 _
            · rw [List.mem_singleton.mp h]; exact h997 _) (by rw [List.length_append, List.length_append, List.length_singleton, List.length_singleton]; omega) (by omega)
        refine ⟨.nx, ρ', D', ?_, .inl rfl, ?_⟩
        · simp [cDr1, bindP, getS, ix, pBi, hcell, mul_ok, mod_ok, pow18, pCmp, hbig, ex_for, rgk, chgO, app_ok hlen]
          rw [app_ok (by simpa using hl2)]
          simp [bindP] at e ⊢
          rw [e]
          rfl
        · obtain ⟨a1, a2, a3, a4, a5, a6, a7, a8, a9, a10⟩ := hI
          exact ⟨a1, a2, a3, a4, a5, a6, a7, a8, a9, by omega⟩)
  -- the second loop
  obtain ⟨ρ2, D2, e2, ds2, m2, z4, z5, z6, z7, hρ2, hD2, h3, h4⟩ := for_inv (f := fun x ρ D => (bindP (.nm 4) x ρ).bind fun ρ1 => exs Φ cDr3 ρ1 D) (xs := rngL 0 q0)
    (I := fun i ρ D => drI q0 ns D0 (62 * ns.length + i) ρ D) (h0 := ⟨ds1, m1, y4, y5, y6, y7, hρ1, hD1, h1, by simpa [rngL] using h2⟩) (fun i x ρ D hx ⟨ds, m, x4, x5, x6, x7, hρ, hD, hd, hl⟩ => by
      subst hρ hD
      have hi : i < q0.toNat := by
        have := (List.getElem?_eq_some_iff.mp hx).1
        simpa [rngL] using this
      have hxi : x = .int i := by
        unfold rngL at hx
        rw [List.getElem?_map, List.getElem?_range (by simpa using hi)] at hx
        simpa using (Option.some.inj hx).symm
      subst hxi
      have hlen : (ds.map PV.int).length < LIM := by rw [List.length_map]; have : LIM = 1000000 := rfl; omega
      refine ⟨.nx, [some (false, .scr ns), some (false, .int q0), some (true, .lst ((ds ++ [((m * 16807 + i + 1).fmod 65537).fmod 997]).map .int)), some (false, .int ((m * 16807 + i + 1).fmod 65537)), some (false, .int i), x5, x6, x7], D, ?_, .inl rfl, _, _, _, _, _, _, rfl, rfl, ?_, ?_⟩
      · simp [cDr3, bindP, getS, pBi, mul_ok, mod_ok, chgO, app_ok hlen]
      · intro d hd'
        rcases List.mem_append.mp hd' with h | h
        · exact hd d h
        · rw [List.mem_singleton.mp h]; exact h997 _
      · rw [List.length_append, List.length_singleton]; omega)
  subst hρ2 hD2
  refine ⟨ds2.take (min q0.toNat ds2.length), run_rt (ρ' := [some (false, .scr ns), some (false, .int q0), some (true, .lst (ds2.map .int)), some (false, .int m2), z4, z5, z6, z7]) rfl ?_ rfl, fun d hd => h3 d (List.mem_of_mem_take hd)⟩
  · show exs Φ cDraws [some (false, .scr ns), some (false, .int q0), none, none, none, none, none, none] D2 = _
    have s1 : ex Φ (.for_ (.nm 4) (.rng1 (.bi .len (.cons (.var 0) .nil))) cDr1) [some (false, .scr ns), some (false, .int q0), some (true, .lst []), some (false, .int 7), none, none, none, none] D2 = some (.nx, ρ1, D1) := by
      have q : evi Φ (.rng1 (.bi .len (.cons (.var 0) .nil))) [some (false, .scr ns), some (false, .int q0), some (true, .lst []), some (false, .int 7), none, none, none, none] D2 = some (rngL 0 ns.length, D2) := by
        simp [getS, pBi, rgk ns.length (by omega) (by omega)]
      rw [ex_for, q, Option.bind_some]
      exact e1
    have s2 : ex Φ (.for_ (.nm 4) (.rng1 (.var 1)) cDr3) ρ1 D1 = some (.nx, [some (false, .scr ns), some (false, .int q0), some (true, .lst (ds2.map .int)), some (false, .int m2), z4, z5, z6, z7], D2) := by
      have q : evi Φ (.rng1 (.var 1)) ρ1 D1 = some (rngL 0 q0, D1) := by
        subst hρ1
        simp [getS, rgk q0 q1 q2]
      rw [ex_for, q, Option.bind_some]
      exact e2
    unfold cDraws
    rw [xs_nx (show ex Φ _ _ _ = some (.nx, [some (false, .scr ns), some (false, .int q0), some (true, .lst []), none, none, none, none, none], D2) from rfl),
      xs_nx (show ex Φ _ _ _ = some (.nx, [some (false, .scr ns), some (false, .int q0), some (true, .lst []), some (false, .int 7), none, none, none, none], D2) from rfl), xs_nx s1, xs_nx s2]
    simp [borS, pCut, cutL, cutN, getS, show ¬ q0 < 0 by omega]
end MP

/-! MP srt: strictly rising lists of ints. -/
namespace MP
open PySem
abbrev Srt (xs : List Int) : Prop := xs.Pairwise (· < ·)
theorem srt_ext : ∀ {xs ys : List Int}, Srt xs → Srt ys → (∀ x, x ∈ xs ↔ x ∈ ys) → xs = ys
  | [], [], _, _, _ => rfl
  | [], y :: ys, _, _, h => absurd ((h y).mpr List.mem_cons_self) (by simp)
  | x :: xs, [], _, _, h => absurd ((h x).mp List.mem_cons_self) (by simp)
  | x :: xs, y :: ys, hx, hy, h => by
    have hx1 := List.pairwise_cons.mp hx
    have hy1 := List.pairwise_cons.mp hy
    have e : x = y := by
      rcases List.mem_cons.mp ((h x).mp List.mem_cons_self) with e | m
      · exact e
      · rcases List.mem_cons.mp ((h y).mpr List.mem_cons_self) with e | m2
        · exact e.symm
        · have := hx1.1 y m2
          have := hy1.1 x m
          omega
    subst e
    congr 1
    refine srt_ext hx1.2 hy1.2 fun z => ⟨fun m => ?_, fun m => ?_⟩
    · rcases List.mem_cons.mp ((h z).mp (List.mem_cons_of_mem _ m)) with e | m2
      · have := hx1.1 z m; omega
      · exact m2
    · rcases List.mem_cons.mp ((h z).mpr (List.mem_cons_of_mem _ m)) with e | m2
      · have := hy1.1 z m; omega
      · exact m2
theorem srt_rg (a b : Int) : Srt (rg a b) := by
  unfold rg
  refine List.Pairwise.map _ (fun x y (h : x < y) => ?_) List.pairwise_lt_range
  omega
theorem srt_filter {xs : List Int} (p : Int → Bool) (h : Srt xs) : Srt (xs.filter p) := h.sublist List.filter_sublist
theorem head_srt {xs : List Int} {r : Int} (h : Srt xs) (hm : r ∈ xs) (hl : ∀ x ∈ xs, r ≤ x) : xs[0]? = some r := by
  cases xs with
  | nil => exact absurd hm (by simp)
  | cons x xs =>
    rcases List.mem_cons.mp hm with e | m
    · subst e; rfl
    · have := (List.pairwise_cons.mp h).1 r m
      have := hl x List.mem_cons_self
      omega
theorem last_srt : ∀ {xs : List Int} {r : Int}, Srt xs → r ∈ xs → (∀ x ∈ xs, x ≤ r) → xs[xs.length - 1]? = some r
  | [], _, _, hm, _ => absurd hm (by simp)
  | [x], r, _, hm, _ => by
    rw [List.mem_singleton.mp hm]; rfl
  | x :: y :: xs, r, h, hm, hl => by
    have h1 := List.pairwise_cons.mp h
    have hr : r ∈ y :: xs := by
      rcases List.mem_cons.mp hm with e | m
      · have := h1.1 y List.mem_cons_self
        have := hl y (List.mem_cons_of_mem _ List.mem_cons_self)
        omega
      · exact m
    have := last_srt h1.2 hr fun z hz => hl z (List.mem_cons_of_mem _ hz)
    simpa using this
theorem mem_insU {x y : Int} : ∀ {r : List Int}, y ∈ insU x r ↔ y = x ∨ y ∈ r
  | [] => by simp [insU]
  | z :: r => by
    unfold insU
    split
    · simp
    · split
      · rename_i h; subst h; simp
      · simp [mem_insU (r := r)]
        constructor <;> rintro (h | h | h) <;> simp [h]
theorem srt_insU {x : Int} : ∀ {r : List Int}, Srt r → Srt (insU x r)
  | [], _ => by simp [insU]
  | z :: r, h => by
    have h1 := List.pairwise_cons.mp h
    unfold insU
    split
    · refine List.pairwise_cons.mpr ⟨fun y hy => ?_, h⟩
      rcases List.mem_cons.mp hy with e | m
      · omega
      · have := h1.1 y m; omega
    · split
      · exact h
      · refine List.pairwise_cons.mpr ⟨fun y hy => ?_, srt_insU h1.2⟩
        rcases mem_insU.mp hy with e | m
        · omega
        · exact h1.1 y m
theorem srt_sset : ∀ ns : List Int, Srt (sset ns)
  | [] => List.Pairwise.nil
  | n :: ns => srt_insU (srt_sset ns)
theorem mem_sset {y : Int} : ∀ {ns : List Int}, y ∈ sset ns ↔ y ∈ ns
  | [] => by simp [sset]
  | n :: ns => by
    show y ∈ insU n (sset ns) ↔ _
    rw [mem_insU, mem_sset (ns := ns), List.mem_cons]
/-- a rising list within bounds is short -/
theorem srt_len {a b : Int} : ∀ {xs : List Int}, Srt xs → (∀ x ∈ xs, a ≤ x ∧ x < b) → a ≤ b → (xs.length : Int) ≤ b - a
  | [], _, _, h => by simp; omega
  | x :: xs, h, hb, hab => by
    have h1 := List.pairwise_cons.mp h
    have hx := hb x List.mem_cons_self
    have := srt_len (a := x + 1) (b := b) h1.2 (fun y hy => ⟨by have := h1.1 y hy; omega, (hb y (List.mem_cons_of_mem _ hy)).2⟩) (by omega)
    simp
    omega
theorem mapO_pints : ∀ ns : List Int, mapO intOf (ns.map .int) = some ns
  | [] => rfl
  | n :: ns => by rw [List.map_cons, mapO, mapO_pints ns]; rfl
theorem sortedSet_tup {ns : List Int} (h : ns.length ≤ 4000) (h2 : (sset ns).length < 64) : pBi .sortedSet [.tup (ns.map .int)] = some (.lst ((sset ns).map .int)) := by
  show ((some (ns.map PV.int)).bind fun xs => (mapO intOf xs).bind _) = _
  rw [Option.bind_some, mapO_pints, Option.bind_some, if_pos ⟨h, h2⟩]
theorem sortedSet_lst {ns : List Int} (h : ns.length ≤ 4000) (h2 : (sset ns).length < 64) : pBi .sortedSet [.lst (ns.map .int)] = some (.lst ((sset ns).map .int)) := by
  show ((some (ns.map PV.int)).bind fun xs => (mapO intOf xs).bind _) = _
  rw [Option.bind_some, mapO_pints, Option.bind_some, if_pos ⟨h, h2⟩]
/-! ### sorting ints -/
theorem cmpOk_ints {ns : List Int} {m : Int} : ((ns.map PV.int).all fun y => cmpOk (.int m) y) = true := by
  rw [List.all_map, List.all_eq_true]; intro x _; rfl
theorem ordOk_ints (ns : List Int) : ordOk (ns.map .int) = true := by
  unfold ordOk
  rw [List.all_eq_true]
  intro x hx
  obtain ⟨n, _, rfl⟩ := List.mem_map.mp hx
  rw [shp_int, cmpOk_ints]; rfl
theorem srtOk_ints (ns : List Int) : srtOk (ns.map .int) = true := by
  unfold srtOk
  rw [Bool.or_eq_true]
  right
  rw [List.all_map, List.all_eq_true]; intro x _; rfl
/-- a list without doubles, sorted -/
theorem pSort_ints {ns : List Int} (hn : ns.Nodup) : pSort (ns.map .int) = some ((sset ns).map .int) := by
  unfold pSort
  rw [ordOk_ints, srtOk_ints, if_pos (show (true && true) = true from rfl)]
  congr 1
  have e : ((ns.map PV.int).mergeSort fun a b => !plt b a) = (ns.mergeSort fun a b => decide (a ≤ b)).map .int := by
    refine (List.map_mergeSort ?_).symm
    intro a _ b _
    by_cases h : a ≤ b
    · have : ¬ b < a := by omega
      simp [plt, h, this]
    · have : b < a := by omega
      simp [plt, h, this]
  rw [e]
  congr 1
  have hp := List.mergeSort_perm ns (fun a b => decide (a ≤ b))
  have hs : (ns.mergeSort fun a b => decide (a ≤ b)).Pairwise (fun a b => decide (a ≤ b) = true) := List.pairwise_mergeSort (fun a b c h1 h2 => by simp at *; omega) (fun a b => by simp; omega) ns
  have hnd : (ns.mergeSort fun a b => decide (a ≤ b)).Nodup := hp.nodup_iff.mpr hn
  refine srt_ext ?_ (srt_sset ns) fun x => by rw [hp.mem_iff, mem_sset]
  refine (hs.and hnd).imp ?_
  rintro a b ⟨h1, h2⟩
  simp at h1
  omega
/-- keys of a dict made from a list of pairs -/
theorem dMerge_keys (v : Int → PV) : ∀ (ns : List Int) (acc : List Int), acc.Nodup → ∃ ks : List Int, ks.Nodup ∧ (∀ x, x ∈ ks ↔ x ∈ acc ∨ x ∈ ns) ∧ ∃ kvs, dMerge (acc.map fun n => (PV.int n, v n)) (ns.map fun n => (PV.int n, v n)) = kvs ∧ kvs = ks.map fun n => (PV.int n, v n)
  | [], acc, h => ⟨acc, h, by simp, _, rfl, rfl⟩
  | n :: ns, acc, h => by
    have ha : ((acc.map fun n => (PV.int n, v n)).any fun p => peq p.1 (.int n)) = decide (n ∈ acc) := by
      have := any_peq (i := n) acc
      rw [← this, List.any_map, List.any_map]; rfl
    have e : dMerge (acc.map fun n => (PV.int n, v n)) ((n :: ns).map fun n => (PV.int n, v n)) = dMerge (dPut (.int n) (v n) (acc.map fun n => (PV.int n, v n))) (ns.map fun n => (PV.int n, v n)) := rfl
    by_cases hm : n ∈ acc
    · obtain ⟨ks, h1, h2, kvs, h3, h4⟩ := dMerge_keys v ns acc h
      refine ⟨ks, h1, fun x => ?_, kvs, ?_, h4⟩
      · rw [h2, List.mem_cons]
        constructor
        · rintro (h | h) <;> simp [h]
        · rintro (h | h | h)
          · exact .inl h
          · subst h; exact .inl hm
          · exact .inr h
      · rw [e, ← h3]
        congr 1
        unfold dPut
        rw [ha, if_pos (by simpa using hm), List.map_map]
        refine List.map_congr_left fun x _ => ?_
        show (if peq (PV.int x) (.int n) = true then (PV.int x, v n) else (PV.int x, v x)) = _
        rw [peq_int]
        by_cases hx : x = n
        · subst hx; simp
        · simp [hx]
    · obtain ⟨ks, h1, h2, kvs, h3, h4⟩ := dMerge_keys v ns (acc ++ [n]) (List.nodup_append.mpr ⟨h, by simp, by
        intro x hx y hy
        rw [List.mem_singleton.mp hy]
        rintro rfl
        exact hm hx⟩)
      refine ⟨ks, h1, fun x => ?_, kvs, ?_, h4⟩
      · rw [h2, List.mem_append, List.mem_singleton, List.mem_cons, or_assoc]
      · rw [e, ← h3]
        congr 1
        unfold dPut
        rw [ha, if_neg (by simpa using hm), List.map_append]
        rfl
/-- a comprehension over ints, with one test -/
theorem lcI {Φ : Fns} {ρ : Envi} {D : DS} {own : List Nat} {ce : CE} {pt : Pat} {ci : CI} {ct : CEs} {ns : List Int} {p : Int → Bool} {g : Int → PV} (hi : evi Φ ci ρ D = some (ns.map .int, D)) (H : ∀ n ∈ ns, st1 Φ own ce pt ct ρ (.int n) D = some (if p n then [g n] else [], D)) :
    ev Φ (.lc1 own ce pt ci ct) ρ D = some (.lst ((ns.filter p).map g), D) := by
  rw [ev_lc1, hi, Option.bind_some, lc_ints H]; rfl
/-- .. with no test -/
theorem lcA {Φ : Fns} {ρ : Envi} {D : DS} {own : List Nat} {ce : CE} {pt : Pat} {ci : CI} {ct : CEs} {ns : List Int} {g : Int → PV} (hi : evi Φ ci ρ D = some (ns.map .int, D)) (H : ∀ n ∈ ns, st1 Φ own ce pt ct ρ (.int n) D = some ([g n], D)) :
    ev Φ (.lc1 own ce pt ci ct) ρ D = some (.lst (ns.map g), D) := by
  rw [lcI (p := fun _ => true) hi (by simpa using H), List.filter_eq_self.mpr (fun _ _ => rfl)]
theorem rngOk_of {a b : Int} (h1 : -100000 ≤ a) (h2 : a ≤ 100000) (h3 : -100000 ≤ b) (h4 : b ≤ 100000) : rngOk a b = true := by
  unfold rngOk
  have : ((LIM : Nat) : Int) = 1000000 := rfl
  exact decide_eq_true (by omega)
/-- draws while a comprehension runs over ints: some of them stay -/
theorem lcW {Φ : Fns} {ρ : Envi} {own : List Nat} {ce : CE} {pt : Pat} {ci : CI} {ct : CEs} {ns : List Int} {D : DS} (Q : Int → Prop) (h : Wst D) (hi : evi Φ ci ρ D = some (ns.map .int, D)) (H : ∀ n ∈ ns, ∀ D, Wst D → ∃ (b : Bool) (D' : DS), st1 Φ own ce pt ct ρ (.int n) D = some (if b then [.int n] else [], D') ∧ Wst D' ∧ (b = true → Q n)) :
    ∃ (ms : List Int) (D' : DS), ev Φ (.lc1 own ce pt ci ct) ρ D = some (.lst (ms.map .int), D') ∧ Wst D' ∧ ms.Sublist ns ∧ ∀ m ∈ ms, Q m := by
  have key : ∀ (ns : List Int) (D : DS), Wst D → (∀ n ∈ ns, ∀ D, Wst D → ∃ (b : Bool) (D' : DS), st1 Φ own ce pt ct ρ (.int n) D = some (if b then [.int n] else [], D') ∧ Wst D' ∧ (b = true → Q n)) → ∃ (ms : List Int) (D' : DS), lcF (st1 Φ own ce pt ct ρ) (ns.map .int) D = some (ms.map .int, D') ∧ Wst D' ∧ ms.Sublist ns ∧ ∀ m ∈ ms, Q m := by
    intro ns
    induction ns with
    | nil => exact fun D h _ => ⟨[], D, rfl, h, List.Sublist.refl _, by simp⟩
    | cons n ns ih =>
      intro D h H
      obtain ⟨b, D1, e1, h1, hq⟩ := H n List.mem_cons_self D h
      obtain ⟨ms, D2, e2, h2, hs, hQ⟩ := ih D1 h1 fun m hm => H m (List.mem_cons_of_mem _ hm)
      cases b with
      | true =>
        refine ⟨n :: ms, D2, ?_, h2, List.Sublist.cons₂ _ hs, fun m hm => ?_⟩
        · rw [List.map_cons, lcF, e1, Option.bind_some, e2]; rfl
        · rcases List.mem_cons.mp hm with e | hm
          · rw [e]; exact hq rfl
          · exact hQ m hm
      | false =>
        refine ⟨ms, D2, ?_, h2, List.Sublist.cons _ hs, hQ⟩
        rw [List.map_cons, lcF, e1, Option.bind_some, e2]; rfl
  obtain ⟨ms, D', e, h1, h2⟩ := key ns D h H
  refine ⟨ms, D', ?_, h1, h2⟩
  rw [ev_lc1, hi, Option.bind_some, e]; rfl
/-- .. and other things are made -/
theorem lcV {α : Type} {Φ : Fns} {ρ : Envi} {own : List Nat} {ce : CE} {pt : Pat} {ci : CI} {ct : CEs} {xs : List PV} {D : DS} (f : α → PV) (Q : α → Prop) (h : Wst D) (hi : evi Φ ci ρ D = some (xs, D)) (H : ∀ x ∈ xs, ∀ D, Wst D → ∃ (l : List α) (D' : DS), st1 Φ own ce pt ct ρ x D = some (l.map f, D') ∧ Wst D' ∧ ∀ y ∈ l, Q y) :
    ∃ (ms : List α) (D' : DS), ev Φ (.lc1 own ce pt ci ct) ρ D = some (.lst (ms.map f), D') ∧ Wst D' ∧ ∀ m ∈ ms, Q m := by
  have key : ∀ (xs : List PV) (D : DS), Wst D → (∀ x ∈ xs, ∀ D, Wst D → ∃ (l : List α) (D' : DS), st1 Φ own ce pt ct ρ x D = some (l.map f, D') ∧ Wst D' ∧ ∀ y ∈ l, Q y) → ∃ (ms : List α) (D' : DS), lcF (st1 Φ own ce pt ct ρ) xs D = some (ms.map f, D') ∧ Wst D' ∧ ∀ m ∈ ms, Q m := by
    intro xs
    induction xs with
    | nil => exact fun D h _ => ⟨[], D, rfl, h, by simp⟩
    | cons x xs ih =>
      intro D h H
      obtain ⟨l, D1, e1, h1, hq⟩ := H x List.mem_cons_self D h
      obtain ⟨ms, D2, e2, h2, hQ⟩ := ih D1 h1 fun m hm => H m (List.mem_cons_of_mem _ hm)
      refine ⟨l ++ ms, D2, ?_, h2, fun m hm => ?_⟩
      · rw [lcF, e1, Option.bind_some, e2, List.map_append]; rfl
      · rcases List.mem_append.mp hm with hm | hm
        · exact hq m hm
        · exact hQ m hm
  obtain ⟨ms, D', e, h1, h2⟩ := key xs D h H
  refine ⟨ms, D', ?_, h1, h2⟩
  rw [ev_lc1, hi, Option.bind_some, e]; rfl
/-! ### pairs of ints -/
def pv2 (q : Int × Int) : PV := .tup [.int q.1, .int q.2]
def lexlt (q r : Int × Int) : Prop := q.1 < r.1 ∨ (q.1 = r.1 ∧ q.2 < r.2)
instance (q r : Int × Int) : Decidable (lexlt q r) := by unfold lexlt; infer_instance
theorem plt_pv2 (q r : Int × Int) : plt (pv2 q) (pv2 r) = decide (lexlt q r) := by
  unfold pv2 lexlt
  rw [plt, pltL, peq_int]
  by_cases h : q.1 = r.1
  · rw [if_pos (by simpa using h), pltL, peq_int, plt]
    by_cases h2 : q.2 = r.2
    · rw [if_pos (by simpa using h2), pltL]; simp [h, h2]
    · rw [if_neg (by simpa using h2)]; simp [h]
  · rw [if_neg (by simpa using h), plt]; simp [h]
theorem ordOk_pairs (L : List (Int × Int)) : ordOk (L.map pv2) = true := by
  unfold ordOk
  rw [List.all_eq_true]
  intro x hx
  obtain ⟨q, _, rfl⟩ := List.mem_map.mp hx
  rw [Bool.and_eq_true]
  refine ⟨rfl, ?_⟩
  rw [List.all_map, List.all_eq_true]
  intro r _
  show cmpOk (.tup [.int q.1, .int q.2]) (.tup [.int r.1, .int r.2]) = true
  rw [cmpOk, cmpOkL, cmpOkL, cmpOkL, cmpOk, cmpOk]
  · rfl
  · simp
theorem minL_pairs : ∀ (L : List (Int × Int)) (q : Int × Int), ∃ r, (r = q ∨ r ∈ L) ∧ minL (pv2 q) (L.map pv2) = pv2 r ∧ ¬ lexlt q r ∧ ∀ x ∈ L, ¬ lexlt x r
  | [], q => ⟨q, .inl rfl, rfl, by unfold lexlt; omega, by simp⟩
  | x :: L, q => by
    have e : minL (pv2 q) ((x :: L).map pv2) = minL (if plt (pv2 x) (pv2 q) then pv2 x else pv2 q) (L.map pv2) := rfl
    rw [plt_pv2] at e
    by_cases h : lexlt x q
    · rw [if_pos (by simpa using h)] at e
      obtain ⟨r, h1, h2, h3, h4⟩ := minL_pairs L x
      refine ⟨r, ?_, by rw [e, h2], ?_, ?_⟩
      · rcases h1 with h1 | h1 <;> simp [h1]
      · unfold lexlt at *; omega
      · intro y hy
        rcases List.mem_cons.mp hy with e | hy
        · rw [e]; exact h3
        · exact h4 y hy
    · rw [if_neg (by simpa using h)] at e
      obtain ⟨r, h1, h2, h3, h4⟩ := minL_pairs L q
      refine ⟨r, ?_, by rw [e, h2], h3, ?_⟩
      · rcases h1 with h1 | h1 <;> simp [h1]
      · intro y hy
        rcases List.mem_cons.mp hy with e | hy
        · rw [e]; unfold lexlt at *; omega
        · exact h4 y hy
theorem pMin_pairs {L : List (Int × Int)} (h : L ≠ []) : ∃ r ∈ L, (∀ x ∈ L, ¬ lexlt x r) ∧ pMin (L.map pv2) = some (pv2 r) := by
  cases L with
  | nil => exact absurd rfl h
  | cons q L =>
    obtain ⟨r, h1, h2, h3, h4⟩ := minL_pairs L q
    refine ⟨r, by rcases h1 with h1 | h1 <;> simp [h1], fun x hx => ?_, ?_⟩
    · rcases List.mem_cons.mp hx with e | hx
      · rw [e]; exact h3
      · exact h4 x hx
    · show (if ordOk ((q :: L).map pv2) = true then some (minL (pv2 q) (L.map pv2)) else none) = _
      rw [ordOk_pairs, if_pos rfl, h2]
theorem lex_anti {q r : Int × Int} (h : ¬ lexlt q r) (h2 : ¬ lexlt r q) : q = r := by
  unfold lexlt at *
  refine Prod.ext ?_ ?_ <;> omega
/-! ### the greatest of ints -/
theorem maxL_ints : ∀ (L : List Int) (q : Int), ∃ r, (r = q ∨ r ∈ L) ∧ maxL (.int q) (L.map .int) = .int r ∧ q ≤ r ∧ ∀ x ∈ L, x ≤ r
  | [], q => ⟨q, .inl rfl, rfl, by omega, by simp⟩
  | x :: L, q => by
    have e : maxL (.int q) ((x :: L).map .int) = maxL (if decide (q < x) then .int x else .int q) (L.map .int) := by
      show maxL (if plt (.int q) (.int x) then .int x else .int q) (L.map .int) = _
      rw [plt]
    by_cases h : q < x
    · rw [if_pos (by simpa using h)] at e
      obtain ⟨r, h1, h2, h3, h4⟩ := maxL_ints L x
      refine ⟨r, by rcases h1 with h1 | h1 <;> simp [h1], by rw [e, h2], by omega, fun y hy => ?_⟩
      rcases List.mem_cons.mp hy with e | hy
      · omega
      · exact h4 y hy
    · rw [if_neg (by simpa using h)] at e
      obtain ⟨r, h1, h2, h3, h4⟩ := maxL_ints L q
      refine ⟨r, by rcases h1 with h1 | h1 <;> simp [h1], by rw [e, h2], h3, fun y hy => ?_⟩
      rcases List.mem_cons.mp hy with e | hy
      · omega
      · exact h4 y hy
theorem pMax_ints {L : List Int} (h : L ≠ []) : ∃ r ∈ L, (∀ x ∈ L, x ≤ r) ∧ pMax (L.map .int) = some (.int r) := by
  cases L with
  | nil => exact absurd rfl h
  | cons q L =>
    obtain ⟨r, h1, h2, h3, h4⟩ := maxL_ints L q
    refine ⟨r, by rcases h1 with h1 | h1 <;> simp [h1], fun x hx => ?_, ?_⟩
    · rcases List.mem_cons.mp hx with e | hx
      · omega
      · exact h4 x hx
    · show (if ordOk ((q :: L).map .int) = true then some (maxL (.int q) (L.map .int)) else none) = _
      rw [ordOk_ints, if_pos rfl, h2]
/-! ### equality with an empty thing -/
@[simp] theorem pEq_tupN {ns : List Int} : pEq (.tup (ns.map .int)) (.tup []) = some (decide (ns = [])) := by
  have h1 : shp DEP (.tup (ns.map .int)) = true := shp_ints ns
  have h2 : shp DEP (.tup []) = true := rfl
  show (if (shp DEP (.tup (ns.map .int)) && shp DEP (.tup [])) = true then some (peq _ _) else none) = _
  rw [h1, h2, if_pos (show (true && true) = true from rfl)]
  cases ns with
  | nil => rfl
  | cons n ns => simp [peq, peqs]
@[simp] theorem pEq_lstN {ns : List Int} : pEq (.lst (ns.map .int)) (.lst []) = some (decide (ns = [])) := by
  have h1 : shp DEP (.lst (ns.map .int)) = true := shp_ints ns
  have h2 : shp DEP (.lst []) = true := rfl
  show (if (shp DEP (.lst (ns.map .int)) && shp DEP (.lst [])) = true then some (peq _ _) else none) = _
  rw [h1, h2, if_pos (show (true && true) = true from rfl)]
  cases ns with
  | nil => rfl
  | cons n ns => simp [peq, peqs]
@[simp] theorem pEq_lst2N {ns : List (Int × Int)} : pEq (.lst (ns.map pv2)) (.lst []) = some (decide (ns = [])) := by
  have h1 : shp DEP (.lst (ns.map pv2)) = true := by
    show (ns.map pv2).all (shp 19) = true
    rw [List.all_map, List.all_eq_true]; intro x _; rfl
  have h2 : shp DEP (.lst []) = true := rfl
  show (if (shp DEP (.lst (ns.map pv2)) && shp DEP (.lst [])) = true then some (peq _ _) else none) = _
  rw [h1, h2, if_pos (show (true && true) = true from rfl)]
  cases ns with
  | nil => rfl
  | cons n ns => simp [peq, peqs]
theorem all_bl {α : Type} (p : α → Bool) (ns : List α) : pBi .all [.lst (ns.map fun x => .bl (p x))] = some (.bl (ns.all p)) := by
  have : mapO blOf (ns.map fun x => PV.bl (p x)) = some (ns.map p) := by
    induction ns with
    | nil => rfl
    | cons n ns ih => rw [List.map_cons, mapO, ih]; rfl
  show ((mapO blOf _).map _) = _
  rw [this, Option.map_some, List.all_map]; rfl
/-! ### deep equality of a thing with itself -/
def ag : Nat → PV → Bool
  | _, .non | _, .bl _ | _, .int _ => true
  | _, .str s => PySem.PyData.strOk s
  | n + 1, .tup xs => decide (xs.length ≤ 100000) && xs.all (ag n)
  | _, _ => false
def cAlike (g : Nat) : CSs := (.cons (.ife (.isi .ttup (.var 1)) (.cons (.ife (.or_ (.cons (.not_ (.isi .ttup (.var 0))) (.cons (.cmp .ne (.bi .len (.cons (.var 0) .nil)) (.bi .len (.cons (.var 1) .nil))) .nil))) (.cons (.ret (.bl false))
 .nil) .nil)
 (.cons (.ret (.cmp .eq (.lc1 [2] (.var 2) (.nm 2) (.rng1 (.bi .len (.cons (.var 1) .nil))) (.cons (.not_ (.call g (.cons (.idx (.var 0) (.var 2)) (.cons (.idx (.var 1) (.var 2)) .nil)))) .nil)) (.lst .nil)))
 .nil)) .nil)
 (.cons (.ife (.cmp .is_ (.var 1) .non) (.cons (.ret (.cmp .is_ (.var 0) .non))
 .nil) .nil)
 (.cons (.ife (.isi .tbool (.var 1)) (.cons (.ret (.and_ (.cons (.isi .tbool (.var 0)) (.cons (.cmp .eq (.var 0) (.var 1)) .nil))))
 .nil) .nil)
 (.cons (.ife (.isi .tint (.var 1)) (.cons (.ret (.and_ (.cons (.isi .tint (.var 0)) (.cons (.not_ (.isi .tbool (.var 0))) (.cons (.cmp .eq (.var 0) (.var 1)) .nil)))))
 .nil) .nil)
 (.cons (.ret (.and_ (.cons (.isi .tstr (.var 0)) (.cons (.cmp .eq (.var 0) (.var 1)) .nil))))
 .nil)))))
theorem alike_non {Φ : Fns} {g : Nat} {D : DS} : (Def.mk 3 2 (cAlike g)).run Φ [.non, .non] D = some (.bl true, D) := by
  refine run_rt (ρ' := [some (false, .non), some (false, .non), none]) rfl ?_ rfl
  simp [cAlike, getS, pIs, pCmp, isNon]
theorem alike_int {Φ : Fns} {g : Nat} {D : DS} {i : Int} : (Def.mk 3 2 (cAlike g)).run Φ [.int i, .int i] D = some (.bl true, D) := by
  refine run_rt (ρ' := [some (false, .int i), some (false, .int i), none]) rfl ?_ rfl
  simp [cAlike, getS, pIs, pCmp, isNon]
theorem pEq_bl {a b : Bool} : pEq (.bl a) (.bl b) = some (a == b) := by
  cases a <;> cases b <;> rfl
theorem alike_bl {Φ : Fns} {g : Nat} {D : DS} {i : Bool} : (Def.mk 3 2 (cAlike g)).run Φ [.bl i, .bl i] D = some (.bl true, D) := by
  refine run_rt (ρ' := [some (false, .bl i), some (false, .bl i), none]) rfl ?_ rfl
  simp [cAlike, getS, pIs, pCmp, isNon, pEq_bl]
theorem alike_str {Φ : Fns} {g : Nat} {D : DS} {i : Str} (h : PySem.PyData.strOk i = true) : (Def.mk 3 2 (cAlike g)).run Φ [.str i, .str i] D = some (.bl true, D) := by
  refine run_rt (ρ' := [some (false, .str i), some (false, .str i), none]) rfl ?_ rfl
  have e : pEq (.str i) (.str i) = some true := by
    show (if (shp DEP (.str i) && shp DEP (.str i)) = true then some (peq (.str i) (.str i)) else none) = _
    rw [if_pos (by show (PySem.PyData.strOk i && PySem.PyData.strOk i) = true; rw [h]; rfl)]
    simp [peq]
  simp [cAlike, getS, pIs, pCmp, isNon, e]
theorem pLen_tup {xs : List PV} : pBi .len [.tup xs] = some (.int xs.length) := rfl
theorem pLen_lst {xs : List PV} : pBi .len [.lst xs] = some (.int xs.length) := rfl
theorem alike_tup {Φ : Fns} {g : Nat} {D : DS} {xs : List PV} (hl : xs.length ≤ 100000) (H : ∀ x ∈ xs, Φ g [x, x] D = some (.bl true, D)) : (Def.mk 3 2 (cAlike g)).run Φ [.tup xs, .tup xs] D = some (.bl true, D) := by
  refine run_rt (ρ' := [some (false, .tup xs), some (false, .tup xs), none]) rfl ?_ rfl
  have q := lcI (Φ := Φ) (D := D) (ρ := [some (false, .tup xs), some (false, .tup xs), none]) (own := [2]) (ce := .var 2) (pt := .nm 2) (ci := .rng1 (.bi .len (.cons (.var 1) .nil)))
    (ct := .cons (.not_ (.call g (.cons (.idx (.var 0) (.var 2)) (.cons (.idx (.var 1) (.var 2)) .nil)))) .nil) (ns := rg 0 xs.length) (p := fun _ => false) (g := .int)
    (by simp [getS, pLen_tup, rngOk_of (a := 0) (b := xs.length) (by omega) (by omega) (by omega) (by omega), rngL_rg])
    (fun i hi => by
      obtain ⟨h0, h1⟩ := mem_rg.mp hi
      obtain ⟨x, hx⟩ : ∃ x, xs[i.toNat]? = some x := ⟨xs[i.toNat]'(by omega), List.getElem?_eq_getElem _⟩
      have ix : pIdx (.tup xs) (.int i) = some x := by
        show (ixN xs.length i).bind (fun j => xs[j]?) = _
        rw [ixN_ok h0 h1, Option.bind_some, hx]
      simp [st1, bindP, wipE, getS, ix, H x (List.mem_of_getElem? hx)])
  have e : (List.filter (fun _ => false) (rg 0 xs.length)).map PV.int = [] := by simp
  rw [e] at q
  have e2 : pCmp .eq (.lst []) (.lst []) = some true := rfl
  have e3 : pCmp .ne (.int xs.length) (.int xs.length) = some false := by simp [pCmp]
  simp [cAlike, getS, pIs, pLen_tup, e3, q, e2]
theorem alike_ok {Fs : Nat → Fns} {g : Nat} {D : DS} (hF : ∀ n args D, Fs (n + 1) g args D = (Def.mk 3 2 (cAlike g)).run (Fs n) args D) : ∀ (k n : Nat) (x : PV), ag k x = true → k < n → Fs n g [x, x] D = some (.bl true, D) := by
  intro k
  induction k with
  | zero =>
    intro n x hx hn
    obtain ⟨m, rfl⟩ : ∃ m, n = m + 1 := ⟨n - 1, by omega⟩
    rw [hF]
    cases x with
    | non => exact alike_non
    | bl b => exact alike_bl
    | int i => exact alike_int
    | str s => exact alike_str hx
    | _ => exact absurd hx (by simp [ag])
  | succ k ih =>
    intro n x hx hn
    obtain ⟨m, rfl⟩ : ∃ m, n = m + 1 := ⟨n - 1, by omega⟩
    rw [hF]
    cases x with
    | non => exact alike_non
    | bl b => exact alike_bl
    | int i => exact alike_int
    | str s => exact alike_str hx
    | tup xs =>
      unfold ag at hx
      rw [Bool.and_eq_true, List.all_eq_true] at hx
      exact alike_tup (of_decide_eq_true hx.1) fun x h => ih m x (hx.2 x h) (by omega)
    | _ => exact absurd hx (by simp [ag])
theorem ag_ints {k : Nat} {ns : List Int} (h : ns.length ≤ 100000) : ag (k + 1) (.tup (ns.map .int)) = true := by
  unfold ag
  rw [List.length_map, List.all_map, Bool.and_eq_true, List.all_eq_true]
  exact ⟨decide_eq_true h, fun x _ => by cases k <;> rfl⟩
end MP

/-! MP tk: more of the plain side: slots, comprehensions and loops over encoded lists, order, subsets. -/
namespace MP
open PySem
/-! ### slots -/
@[simp] theorem getS_set {ρ : Envi} {i j : Nat} {v : PV} : getS (ρ.set i (some (false, v))) j = if i = j then (if i < ρ.length then some v else none) else getS ρ j := by
  unfold getS
  by_cases h : i = j
  · subst h
    by_cases h2 : i < ρ.length
    · simp [h2]
    · simp [h2]
  · simp [h]
@[simp] theorem getS_setO {ρ : Envi} {i j : Nat} {v : PV} : getS (ρ.set i (some (true, v))) j = if i = j then none else getS ρ j := by
  unfold getS
  by_cases h : i = j
  · subst h
    by_cases h2 : i < ρ.length
    · simp [h2]
    · simp [h2]
  · simp [h]
@[simp] theorem getS_setN {ρ : Envi} {i j : Nat} : getS (ρ.set i none) j = if i = j then none else getS ρ j := by
  unfold getS
  by_cases h : i = j
  · subst h
    by_cases h2 : i < ρ.length
    · simp [h2]
    · simp [h2]
  · simp [h]
@[simp] theorem borS_set {ρ : Envi} {i j : Nat} {o : Bool} {v : PV} : borS (ρ.set i (some (o, v))) j = if i = j then (if i < ρ.length then some v else none) else borS ρ j := by
  unfold borS
  by_cases h : i = j
  · subst h
    by_cases h2 : i < ρ.length
    · simp [h2]
    · simp [h2]
  · simp [h]
@[simp] theorem borS_setN {ρ : Envi} {i j : Nat} : borS (ρ.set i none) j = if i = j then none else borS ρ j := by
  unfold borS
  by_cases h : i = j
  · subst h
    by_cases h2 : i < ρ.length
    · simp [h2]
    · simp [h2]
  · simp [h]
theorem slotv_of {ρ : Envi} {i : Nat} {v : PV} (h : getS ρ i = some v) : ρ[i]? = some (some (false, v)) := by
  unfold getS at h
  split at h
  · rename_i x e
    cases h; exact e
  · cases h
theorem bor_of {ρ : Envi} {i : Nat} {v : PV} (h : getS ρ i = some v) : borS ρ i = some v := by
  unfold borS; rw [slotv_of h]
theorem frz_of {ρ : Envi} {i : Nat} {v : PV} (h : getS ρ i = some v) : frzL ρ [i] = ρ := by
  unfold frzL frzL frz1; rw [slotv_of h]
/-! ### subscripts -/
theorem ix_lst {α : Type} (enc : α → PV) {L : List α} {i : Int} {x : α} (h0 : 0 ≤ i) (h : L[i.toNat]? = some x) : pIdx (.lst (L.map enc)) (.int i) = some (enc x) := by
  have hk := (List.getElem?_eq_some_iff.mp h).1
  show (ixN (L.map enc).length i).bind (fun j => (L.map enc)[j]?) = _
  rw [List.length_map, ixN_ok h0 (by omega), Option.bind_some, List.getElem?_map, h]; rfl
theorem ix_tup {α : Type} (enc : α → PV) {L : List α} {i : Int} {x : α} (h0 : 0 ≤ i) (h : L[i.toNat]? = some x) : pIdx (.tup (L.map enc)) (.int i) = some (enc x) := ix_lst enc h0 h
theorem ix_last {α : Type} (enc : α → PV) {L : List α} {x : α} (h : L.getLast? = some x) : pIdx (.lst (L.map enc)) (.int (-1)) = some (enc x) := by
  rw [List.getLast?_eq_getElem?] at h
  have hk := (List.getElem?_eq_some_iff.mp h).1
  show (ixN (L.map enc).length (-1)).bind (fun j => (L.map enc)[j]?) = _
  have : ixN L.length (-1) = some (L.length - 1) := by
    unfold ixN
    rw [if_neg (by decide), if_pos (by omega)]
    congr 1
    omega
  rw [List.length_map, this, Option.bind_some, List.getElem?_map, h]; rfl
theorem lst_add {a b : List PV} (h : a.length + b.length ≤ 1000000) : pBin .add (.lst a) (.lst b) = some (.lst (a ++ b)) := by
  show (if a.length + b.length ≤ LIM then some (PV.lst (a ++ b)) else none) = _
  rw [if_pos h]
theorem tup_add {a b : List PV} (h : a.length + b.length ≤ 1000000) : pBin .add (.tup a) (.tup b) = some (.tup (a ++ b)) := by
  show (if a.length + b.length ≤ LIM then some (PV.tup (a ++ b)) else none) = _
  rw [if_pos h]
/-- xs + (k,) of ints -/
theorem row_add {r : List Int} {k : Int} (h : r.length ≤ 1000) : pBin .add (.tup (r.map .int)) (.tup [.int k]) = some (.tup ((r ++ [k]).map .int)) := by
  rw [tup_add (by simp; omega)]; simp
/-! ### comprehensions over encoded lists -/
section
variable {α β : Type} {Φ : Fns} {ρ : Envi} {D : DS} {own own2 : List Nat} {ce : CE} {pt pt2 : Pat} {ci ci2 : CI} {ct ct2 : CEs}
theorem lcG (enc : α → PV) (xs : List α) (f : α → List PV) (hi : evi Φ ci ρ D = some (xs.map enc, D)) (H : ∀ x ∈ xs, st1 Φ own ce pt ct ρ (enc x) D = some (f x, D)) : ev Φ (.lc1 own ce pt ci ct) ρ D = some (.lst (xs.flatMap f), D) := by
  have : lcF (st1 Φ own ce pt ct ρ) (xs.map enc) D = some (xs.flatMap f, D) := by
    clear hi
    induction xs with
    | nil => rfl
    | cons x xs ih =>
      rw [List.map_cons, lcF, H x List.mem_cons_self, Option.bind_some, ih fun y hy => H y (List.mem_cons_of_mem _ hy)]
      rfl
  rw [ev_lc1, hi, Option.bind_some, this]; rfl
theorem lcP (enc : α → PV) (xs : List α) (p : α → Bool) (g : α → PV) (hi : evi Φ ci ρ D = some (xs.map enc, D)) (H : ∀ x ∈ xs, st1 Φ own ce pt ct ρ (enc x) D = some (if p x then [g x] else [], D)) : ev Φ (.lc1 own ce pt ci ct) ρ D = some (.lst ((xs.filter p).map g), D) := by
  rw [lcG enc xs _ hi H, flatMap_if]
theorem lcM (enc : α → PV) (xs : List α) (g : α → PV) (hi : evi Φ ci ρ D = some (xs.map enc, D)) (H : ∀ x ∈ xs, st1 Φ own ce pt ct ρ (enc x) D = some ([g x], D)) : ev Φ (.lc1 own ce pt ci ct) ρ D = some (.lst (xs.map g), D) := by
  rw [lcG enc xs _ hi H]
  have : ∀ xs : List α, (xs.flatMap fun x => [g x]) = xs.map g := fun xs => by
    induction xs with
    | nil => rfl
    | cons x xs ih => rw [List.flatMap_cons, ih]; rfl
  rw [this]
theorem lc2G (enc : α → PV) (xs : List α) (enc2 : β → PV) (ys : α → List β) (h : α → β → List PV) (r1 : α → Envi) (hi : evi Φ ci ρ D = some (xs.map enc, D)) (H1 : ∀ x ∈ xs, bindP pt (enc x) (wipE ρ own) = some (r1 x)) (H2 : ∀ x ∈ xs, evt Φ ct (r1 x) D = some (true, D))
    (H3 : ∀ x ∈ xs, evi Φ ci2 (r1 x) D = some ((ys x).map enc2, D)) (H4 : ∀ x ∈ xs, ∀ y ∈ ys x, st1 Φ own2 ce pt2 ct2 (r1 x) (enc2 y) D = some (h x y, D)) (hl : (xs.flatMap fun x => (ys x).flatMap (h x)).length ≤ 1000000) :
    ev Φ (.lc2 own ce pt ci ct own2 pt2 ci2 ct2) ρ D = some (.lst (xs.flatMap fun x => (ys x).flatMap (h x)), D) := by
  have inner : ∀ (ys : List β) (ρ1 : Envi) (h : β → List PV), (∀ y ∈ ys, st1 Φ own2 ce pt2 ct2 ρ1 (enc2 y) D = some (h y, D)) → lcF (st1 Φ own2 ce pt2 ct2 ρ1) (ys.map enc2) D = some (ys.flatMap h, D) := fun ys ρ1 h H => by
    induction ys with
    | nil => rfl
    | cons x xs ih =>
      rw [List.map_cons, lcF, H x List.mem_cons_self, Option.bind_some, ih fun y hy => H y (List.mem_cons_of_mem _ hy)]
      rfl
  have outer : lcF (fun x D1 => (bindP pt x (wipE ρ own)).bind fun ρ1 => (evt Φ ct ρ1 D1).bind fun c => if c.1 then (evi Φ ci2 ρ1 c.2).bind fun r2 => lcF (st1 Φ own2 ce pt2 ct2 ρ1) r2.1 r2.2 else some ([], c.2)) (xs.map enc) D = some (xs.flatMap fun x => (ys x).flatMap (h x), D) := by
    clear hi hl
    induction xs with
    | nil => rfl
    | cons x xs ih =>
      rw [List.map_cons, lcF, H1 x List.mem_cons_self, Option.bind_some, H2 x List.mem_cons_self, Option.bind_some, if_pos rfl, H3 x List.mem_cons_self, Option.bind_some, inner _ _ _ (H4 x List.mem_cons_self), Option.bind_some,
        ih (fun y hy => H1 y (List.mem_cons_of_mem _ hy)) (fun y hy => H2 y (List.mem_cons_of_mem _ hy)) (fun y hy => H3 y (List.mem_cons_of_mem _ hy)) (fun y hy => H4 y (List.mem_cons_of_mem _ hy))]
      rfl
  show ((evi Φ ci ρ D).bind fun r => (lcF (fun x D1 => (bindP pt x (wipE ρ own)).bind fun ρ1 => (evt Φ ct ρ1 D1).bind fun c => if c.1 then (evi Φ ci2 ρ1 c.2).bind fun r2 => lcF (st1 Φ own2 ce pt2 ct2 ρ1) r2.1 r2.2 else some ([], c.2)) r.1 r.2).bind fun q => if q.1.length ≤ LIM then some (PV.lst q.1, q.2) else none) = _
  rw [hi, Option.bind_some, outer, Option.bind_some, if_pos hl]
/-! ### loops over encoded lists -/
theorem forF {σ : Type} {f : PV → Envi → DS → XR} (enc : α → PV) (R : σ → Envi → Prop) (step : σ → α → σ) : ∀ (xs : List α) (s : σ) (ρ : Envi), R s ρ → (∀ s x ρ, x ∈ xs → R s ρ → ∃ o ρ', f (enc x) ρ D = some (o, ρ', D) ∧ (o = .nx ∨ o = .ct) ∧ R (step s x) ρ') →
    ∃ ρ', forL f (xs.map enc) ρ D = some (.nx, ρ', D) ∧ R (xs.foldl step s) ρ'
  | [], s, ρ, h, _ => ⟨ρ, rfl, h⟩
  | x :: xs, s, ρ, h, H => by
    obtain ⟨o, ρ1, e1, ho, h1⟩ := H s x ρ List.mem_cons_self h
    obtain ⟨ρ2, e2, h2⟩ := forF enc R step xs (step s x) ρ1 h1 fun s y ρ hy hr => H s y ρ (List.mem_cons_of_mem _ hy) hr
    refine ⟨ρ2, ?_, h2⟩
    rw [List.map_cons, forL, e1, Option.bind_some]
    rcases ho with rfl | rfl <;> exact e2
/-- .. that may end by a value -/
theorem forE {σ : Type} {f : PV → Envi → DS → XR} (enc : α → PV) (R : σ → Envi → Prop) (step : σ → α → Except PV σ) : ∀ (xs : List α) (s : σ) (ρ : Envi), R s ρ → (∀ s x ρ, x ∈ xs → R s ρ → match step s x with
      | .ok s' => ∃ o ρ', f (enc x) ρ D = some (o, ρ', D) ∧ (o = .nx ∨ o = .ct) ∧ R s' ρ'
      | .error v => ∃ ρ', f (enc x) ρ D = some (.rt v, ρ', D)) →
    match xs.foldlM step s with
      | .ok s' => ∃ ρ', forL f (xs.map enc) ρ D = some (.nx, ρ', D) ∧ R s' ρ'
      | .error v => ∃ ρ', forL f (xs.map enc) ρ D = some (.rt v, ρ', D)
  | [], s, ρ, h, _ => ⟨ρ, rfl, h⟩
  | x :: xs, s, ρ, h, H => by
    have h1 := H s x ρ List.mem_cons_self h
    rw [List.foldlM_cons]
    cases e : step s x with
    | error v =>
      rw [e] at h1
      obtain ⟨ρ1, e1⟩ := h1
      show ∃ ρ', _
      refine ⟨ρ1, ?_⟩
      rw [List.map_cons, forL, e1, Option.bind_some]
    | ok s1 =>
      rw [e] at h1
      obtain ⟨o, ρ1, e1, ho, h1⟩ := h1
      have h2 := forE enc R step xs s1 ρ1 h1 fun s y ρ hy hr => H s y ρ (List.mem_cons_of_mem _ hy) hr
      show match xs.foldlM step s1 with
        | .ok s' => _
        | .error v => _
      have cn : forL f ((x :: xs).map enc) ρ D = forL f (xs.map enc) ρ1 D := by
        rw [List.map_cons, forL, e1, Option.bind_some]
        rcases ho with rfl | rfl <;> rfl
      rw [cn]
      exact h2
end
/-! ### the order of ints and tuples of these -/
mutual
def gd : PV → Bool
  | .int _ => true
  | .tup xs => gdL xs
  | _ => false
def gdL : List PV → Bool
  | [] => true
  | x :: xs => gd x && gdL xs
end
theorem gdL_all : ∀ {xs : List PV}, gdL xs = xs.all gd
  | [] => rfl
  | x :: xs => by rw [gdL, List.all_cons, gdL_all]
theorem gdL_ints (ns : List Int) : gdL (ns.map .int) = true := by
  induction ns with
  | nil => rfl
  | cons n ns ih => rw [List.map_cons, gdL, ih]; rfl
mutual
theorem peq_gd : ∀ (x y : PV), gd x = true → gd y = true → (peq x y = true ↔ x = y)
  | .int i, .int j, _, _ => by rw [peq_int]; simp
  | .int i, .tup ys, _, _ => by rw [peq] <;> simp
  | .tup xs, .int j, _, _ => by rw [peq] <;> simp
  | .tup xs, .tup ys, h1, h2 => by
    rw [peq, peqs_gd xs ys h1 h2]; simp
theorem peqs_gd : ∀ (xs ys : List PV), gdL xs = true → gdL ys = true → (peqs xs ys = true ↔ xs = ys)
  | [], [], _, _ => by rw [peqs]; simp
  | [], _ :: _, _, _ => by rw [peqs] <;> simp
  | _ :: _, [], _, _ => by rw [peqs] <;> simp
  | x :: xs, y :: ys, h1, h2 => by
    rw [gdL, Bool.and_eq_true] at h1 h2
    rw [peqs, Bool.and_eq_true, peq_gd x y h1.1 h2.1, peqs_gd xs ys h1.2 h2.2]; simp
end
mutual
theorem plt_irr : ∀ (x : PV), gd x = true → plt x x = false
  | .int i, _ => by rw [plt]; simp
  | .tup xs, h => by rw [plt]; exact pltL_irr xs h
theorem pltL_irr : ∀ (xs : List PV), gdL xs = true → pltL xs xs = false
  | [], _ => by rw [pltL]
  | x :: xs, h => by
    rw [gdL, Bool.and_eq_true] at h
    rw [pltL, if_pos ((peq_gd x x h.1 h.1).mpr rfl)]
    exact pltL_irr xs h.2
end
mutual
theorem plt_con : ∀ (x y : PV), gd x = true → gd y = true → cmpOk x y = true → plt x y = false → plt y x = false → x = y
  | .int i, .int j, _, _, _, h1, h2 => by
    rw [plt] at h1 h2
    have a := of_decide_eq_false h1
    have b := of_decide_eq_false h2
    congr 1; omega
  | .int i, .tup ys, _, _, h, _, _ => absurd h (by simp [cmpOk])
  | .tup xs, .int j, _, _, h, _, _ => absurd h (by simp [cmpOk])
  | .tup xs, .tup ys, g1, g2, h, h1, h2 => by
    rw [cmpOk] at h
    rw [plt] at h1 h2
    rw [pltL_con xs ys g1 g2 h h1 h2]
theorem pltL_con : ∀ (xs ys : List PV), gdL xs = true → gdL ys = true → cmpOkL xs ys = true → pltL xs ys = false → pltL ys xs = false → xs = ys
  | [], [], _, _, _, _, _ => rfl
  | [], _ :: _, _, _, _, h, _ => by rw [pltL] at h; cases h
  | _ :: _, [], _, _, _, _, h => by rw [pltL] at h; cases h
  | x :: xs, y :: ys, g1, g2, h, h1, h2 => by
    rw [gdL, Bool.and_eq_true] at g1 g2
    rw [cmpOkL, Bool.and_eq_true] at h
    rw [pltL] at h1 h2
    by_cases e : x = y
    · subst e
      rw [if_pos ((peq_gd x x g1.1 g1.1).mpr rfl)] at h1 h2
      rw [pltL_con xs ys g1.2 g2.2 h.2 h1 h2]
    · rw [if_neg (fun q => e ((peq_gd x y g1.1 g2.1).mp q))] at h1
      rw [if_neg (fun q => e ((peq_gd y x g2.1 g1.1).mp q).symm)] at h2
      exact absurd (plt_con x y g1.1 g2.1 h.1 h1 h2) e
end
mutual
theorem plt_tr : ∀ (x y z : PV), gd x = true → gd y = true → gd z = true → plt x y = true → plt y z = true → plt x z = true
  | .int i, .int j, .int k, _, _, _, h1, h2 => by
    rw [plt] at h1 h2 ⊢
    have a := of_decide_eq_true h1
    have b := of_decide_eq_true h2
    exact decide_eq_true (by omega)
  | .int i, .int j, .tup zs, _, _, _, _, h => absurd h (by simp [plt])
  | .int i, .tup ys, _, _, _, _, h, _ => absurd h (by simp [plt])
  | .tup xs, .int j, _, _, _, _, h, _ => absurd h (by simp [plt])
  | .tup xs, .tup ys, .int k, _, _, _, _, h => absurd h (by simp [plt])
  | .tup xs, .tup ys, .tup zs, g1, g2, g3, h1, h2 => by
    rw [plt] at h1 h2 ⊢
    exact pltL_tr xs ys zs g1 g2 g3 h1 h2
theorem pltL_tr : ∀ (xs ys zs : List PV), gdL xs = true → gdL ys = true → gdL zs = true → pltL xs ys = true → pltL ys zs = true → pltL xs zs = true
  | [], [], _, _, _, _, h, _ => by rw [pltL] at h; cases h
  | _ :: _, [], _, _, _, _, h, _ => by rw [pltL] at h; cases h
  | _, _ :: _, [], _, _, _, _, h => by rw [pltL] at h; cases h
  | [], _ :: _, _ :: _, _, _, _, _, _ => by rw [pltL]
  | x :: xs, y :: ys, z :: zs, g1, g2, g3, h1, h2 => by
    rw [gdL, Bool.and_eq_true] at g1 g2 g3
    rw [pltL] at h1 h2 ⊢
    by_cases e1 : x = y
    · subst e1
      rw [if_pos ((peq_gd x x g1.1 g1.1).mpr rfl)] at h1
      by_cases e2 : x = z
      · subst e2
        rw [if_pos ((peq_gd x x g1.1 g1.1).mpr rfl)] at h2 ⊢
        exact pltL_tr xs ys zs g1.2 g2.2 g3.2 h1 h2
      · have e3 : ¬ peq x z = true := fun q => e2 ((peq_gd x z g1.1 g3.1).mp q)
        rw [if_neg e3] at h2 ⊢
        exact h2
    · rw [if_neg (fun q => e1 ((peq_gd x y g1.1 g2.1).mp q))] at h1
      by_cases e2 : y = z
      · subst e2
        rw [if_neg (fun q => e1 ((peq_gd x y g1.1 g2.1).mp q))]
        exact h1
      · rw [if_neg (fun q => e2 ((peq_gd y z g2.1 g3.1).mp q))] at h2
        have t := plt_tr x y z g1.1 g2.1 g3.1 h1 h2
        have e3 : ¬ peq x z = true := fun q => by
          obtain rfl := (peq_gd x z g1.1 g3.1).mp q
          rw [plt_irr x g1.1] at t; cases t
        rw [if_neg e3]
        exact t
end
/-- ints and tuples of these, any two of them comparable -/
structure Cmp (xs : List PV) : Prop where
  g : ∀ x ∈ xs, gd x = true
  o : ordOk xs = true
theorem Cmp.c {xs : List PV} (h : Cmp xs) {x y : PV} (hx : x ∈ xs) (hy : y ∈ xs) : cmpOk x y = true := by
  have := List.all_eq_true.mp h.o x hx
  rw [Bool.and_eq_true] at this
  exact List.all_eq_true.mp this.2 y hy
theorem Cmp.ext {xs ys : List PV} (h : Cmp xs) (e : ∀ y ∈ ys, y ∈ xs) : Cmp ys := by
  refine ⟨fun x hx => h.g x (e x hx), List.all_eq_true.mpr fun x hx => ?_⟩
  have := List.all_eq_true.mp h.o x (e x hx)
  rw [Bool.and_eq_true] at this ⊢
  exact ⟨this.1, List.all_eq_true.mpr fun y hy => List.all_eq_true.mp this.2 y (e y hy)⟩
theorem Cmp.of {α : Type} {enc : α → PV} (L : List α) (h1 : ∀ a, gd (enc a) = true) (h2 : ∀ a, shp DEP (enc a) = true) (h3 : ∀ a b, cmpOk (enc a) (enc b) = true) : Cmp (L.map enc) := by
  refine ⟨fun x hx => ?_, List.all_eq_true.mpr fun x hx => ?_⟩
  · obtain ⟨a, _, rfl⟩ := List.mem_map.mp hx
    exact h1 a
  · obtain ⟨a, _, rfl⟩ := List.mem_map.mp hx
    rw [h2, Bool.true_and]
    refine List.all_eq_true.mpr fun y hy => ?_
    obtain ⟨b, _, rfl⟩ := List.mem_map.mp hy
    exact h3 a b
theorem minL_ok : ∀ (xs : List PV) (a : PV), Cmp (a :: xs) → ∃ r, minL a xs = r ∧ r ∈ a :: xs ∧ ∀ y ∈ a :: xs, plt y r = false
  | [], a, h => ⟨a, rfl, List.mem_cons_self, fun y hy => by
    rw [List.mem_singleton] at hy
    subst hy
    exact plt_irr y (h.g y List.mem_cons_self)⟩
  | x :: xs, a, h => by
    have gx := h.g x (List.mem_cons_of_mem _ List.mem_cons_self)
    have ga := h.g a List.mem_cons_self
    by_cases e : plt x a = true
    · obtain ⟨r, h1, h2, h3⟩ := minL_ok xs x (h.ext fun y hy => List.mem_cons_of_mem _ hy)
      refine ⟨r, ?_, List.mem_cons_of_mem _ h2, fun y hy => ?_⟩
      · show (xs.foldl _ (if plt x a = true then x else a)) = r
        rw [if_pos e]; exact h1
      · rcases List.mem_cons.mp hy with rfl | hy
        · cases q : plt y r with
          | false => rfl
          | true =>
            have := plt_tr x y r gx ga (h.g r (List.mem_cons_of_mem _ h2)) e q
            rw [h3 x List.mem_cons_self] at this; cases this
        · exact h3 y hy
    · obtain ⟨r, h1, h2, h3⟩ := minL_ok xs a (h.ext fun y hy => by
        rcases List.mem_cons.mp hy with rfl | hy
        · exact List.mem_cons_self
        · exact List.mem_cons_of_mem _ (List.mem_cons_of_mem _ hy))
      have hr : r ∈ a :: x :: xs := by
        rcases List.mem_cons.mp h2 with rfl | h2
        · exact List.mem_cons_self
        · exact List.mem_cons_of_mem _ (List.mem_cons_of_mem _ h2)
      refine ⟨r, ?_, hr, fun y hy => ?_⟩
      · show (xs.foldl _ (if plt x a = true then x else a)) = r
        rw [if_neg e]; exact h1
      · rcases List.mem_cons.mp hy with rfl | hy
        · exact h3 y List.mem_cons_self
        · rcases List.mem_cons.mp hy with rfl | hy
          · cases q : plt y r with
            | false => rfl
            | true =>
              have e' : plt y a = false := by simpa using e
              cases q2 : plt a y with
              | true =>
                have := plt_tr a y r ga gx (h.g r hr) q2 q
                rw [h3 a List.mem_cons_self] at this; cases this
              | false =>
                have := plt_con a y ga gx (h.c List.mem_cons_self (List.mem_cons_of_mem _ List.mem_cons_self)) q2 e'
                subst this
                rw [h3 a List.mem_cons_self] at q; cases q
          · exact h3 y (List.mem_cons_of_mem _ hy)
theorem pMin_ok {xs : List PV} (h : Cmp xs) (hne : xs ≠ []) : ∃ r, pMin xs = some r ∧ r ∈ xs ∧ ∀ y ∈ xs, plt y r = false := by
  cases xs with
  | nil => exact absurd rfl hne
  | cons a xs =>
    obtain ⟨r, h1, h2, h3⟩ := minL_ok xs a h
    refine ⟨r, ?_, h2, h3⟩
    show (if ordOk (a :: xs) then some (minL a xs) else none) = _
    rw [if_pos h.o, h1]
theorem min_uni {xs : List PV} (h : Cmp xs) {r s : PV} (hr : r ∈ xs) (hs : s ∈ xs) (h1 : ∀ y ∈ xs, plt y r = false) (h2 : ∀ y ∈ xs, plt y s = false) : r = s :=
  plt_con r s (h.g r hr) (h.g s hs) (h.c hr hs) (h2 r hr) (h1 s hs)
/-- the least of lists with the same members is the same -/
theorem pMin_ext {xs ys : List PV} (h : Cmp xs) (hne : xs ≠ []) (e : ∀ x, x ∈ xs ↔ x ∈ ys) : pMin xs = pMin ys := by
  have hy : Cmp ys := h.ext fun y hy => (e y).mpr hy
  have hne2 : ys ≠ [] := fun z => by
    cases xs with
    | nil => exact hne rfl
    | cons a xs =>
      have := (e a).mp List.mem_cons_self
      rw [z] at this; cases this
  obtain ⟨r, e1, m1, l1⟩ := pMin_ok h hne
  obtain ⟨s, e2, m2, l2⟩ := pMin_ok hy hne2
  rw [e1, e2, min_uni h m1 ((e s).mpr m2) l1 fun y hy => l2 y ((e y).mp hy)]
theorem pSort_ok {xs : List PV} (h : Cmp xs) (ht : srtOk xs = true) : ∃ s, pSort xs = some s ∧ s.Perm xs ∧ s.Pairwise fun a b => plt b a = false := by
  refine ⟨xs.mergeSort fun a b => !plt b a, ?_, List.mergeSort_perm _ _, ?_⟩
  · show (if ordOk xs && srtOk xs then some _ else none) = _
    rw [if_pos (by rw [h.o, ht]; rfl)]
  · have tot : ∀ a b : {x // x ∈ xs}, (!plt b.1 a.1 || !plt a.1 b.1) = true := fun a b => by
      cases q : plt b.1 a.1 with
      | false => rfl
      | true =>
        cases q2 : plt a.1 b.1 with
        | false => rfl
        | true =>
          have := plt_tr _ _ _ (h.g _ a.2) (h.g _ b.2) (h.g _ a.2) q2 q
          rw [plt_irr _ (h.g _ a.2)] at this; cases this
    have tr : ∀ a b c : {x // x ∈ xs}, (!plt b.1 a.1) = true → (!plt c.1 b.1) = true → (!plt c.1 a.1) = true := fun a b c h1 h2 => by
      rw [Bool.not_eq_true'] at h1 h2 ⊢
      cases q : plt c.1 a.1 with
      | false => rfl
      | true =>
        cases q2 : plt b.1 c.1 with
        | true =>
          have := plt_tr _ _ _ (h.g _ b.2) (h.g _ c.2) (h.g _ a.2) q2 q
          rw [h1] at this; cases this
        | false =>
          have := plt_con _ _ (h.g _ b.2) (h.g _ c.2) (h.c b.2 c.2) q2 h2
          rw [this, q] at h1; cases h1
    have p := List.pairwise_mergeSort (le := fun a b : {x // x ∈ xs} => !plt b.1 a.1) (fun a b c => tr a b c) (fun a b => tot a b) xs.attach
    have e : (xs.attach.mergeSort fun a b => !plt b.1 a.1).map Subtype.val = xs.mergeSort fun a b => !plt b a := by
      rw [List.map_mergeSort (s := fun a b => !plt b a) (fun _ _ _ _ => rfl), List.attach_map_subtype_val]
    rw [← e, List.pairwise_map]
    exact p.imp fun {a b} q => by simpa using q
/-- the first of those that stay in a sorted list is the least of them -/
theorem srt_head {s : List PV} (h : Cmp s) (hp : s.Pairwise fun a b => plt b a = false) (p : PV → Bool) (hne : s.filter p ≠ []) : pMin (s.filter p) = (s.filter p)[0]? := by
  have hc : Cmp (s.filter p) := h.ext fun y hy => (List.mem_filter.mp hy).1
  obtain ⟨r, e1, m1, l1⟩ := pMin_ok hc hne
  have hp2 := hp.sublist (List.filter_sublist (p := p))
  cases q : s.filter p with
  | nil => exact absurd q hne
  | cons a t =>
    rw [q] at hp2 hc m1 l1 e1
    rw [e1]
    show some r = some a
    rw [min_uni hc m1 List.mem_cons_self l1 fun y hy => ?_]
    rcases List.mem_cons.mp hy with rfl | hy
    · exact plt_irr y (hc.g y List.mem_cons_self)
    · exact (List.pairwise_cons.mp hp2).1 y hy
/-! ### subsets -/
section
variable {α : Type}
def subsP (p : List α → Bool) (ks : List α) : List (List α) := ks.foldl (fun rows k => rows ++ (rows.filter p).map (· ++ [k])) [[]]
def subs (ks : List α) : List (List α) := ks.foldl (fun rows k => rows ++ rows.map (· ++ [k])) [[]]
theorem snoc_ind {P : List α → Prop} (h0 : P []) (h1 : ∀ ks k, P ks → P (ks ++ [k])) (ks : List α) : P ks := by
  have : ∀ l : List α, P l.reverse := fun l => by
    induction l with
    | nil => exact h0
    | cons a l ih => rw [List.reverse_cons]; exact h1 _ _ ih
  rw [← List.reverse_reverse ks]
  exact this _
theorem sub_snoc {r ks : List α} {k : α} : r.Sublist (ks ++ [k]) ↔ r.Sublist ks ∨ ∃ s, r = s ++ [k] ∧ s.Sublist ks := by
  rw [List.sublist_append_iff]
  constructor
  · rintro ⟨l1, l2, rfl, h1, h2⟩
    rcases List.sublist_cons_iff.mp h2 with h3 | ⟨r, e, h3⟩
    · have e := List.sublist_nil.mp h3
      subst e
      rw [List.append_nil]; exact .inl h1
    · have e2 := List.sublist_nil.mp h3
      subst e2 e
      exact .inr ⟨l1, rfl, h1⟩
  · rintro (h | ⟨s, rfl, h⟩)
    · exact ⟨r, [], by simp, h, List.nil_sublist _⟩
    · exact ⟨s, [k], rfl, h, List.Sublist.refl _⟩
theorem mem_subs {r : List α} (ks : List α) : r ∈ subs ks ↔ r.Sublist ks := by
  unfold subs
  revert r
  refine snoc_ind (P := fun ks => ∀ {r : List α}, r ∈ ks.foldl (fun rows k => rows ++ rows.map (· ++ [k])) [[]] ↔ r.Sublist ks) ?_ ?_ ks
  · intro r; simp
  · intro ks k ih r
    rw [List.foldl_append, List.foldl_cons, List.foldl_nil, List.mem_append, ih, sub_snoc, List.mem_map]
    constructor
    · rintro (h | ⟨s, hs, rfl⟩)
      · exact .inl h
      · exact .inr ⟨s, rfl, ih.mp hs⟩
    · rintro (h | ⟨s, rfl, hs⟩)
      · exact .inl h
      · exact .inr ⟨s, ih.mpr hs, rfl⟩
/-- at most m of them -/
theorem mem_subsP {r : List α} {m : Int} (hm : 0 ≤ m) (ks : List α) : r ∈ subsP (fun r => decide ((r.length : Int) < m)) ks ↔ r.Sublist ks ∧ (r.length : Int) ≤ m := by
  unfold subsP
  revert r
  refine snoc_ind (P := fun ks => ∀ {r : List α}, r ∈ ks.foldl (fun rows k => rows ++ (rows.filter fun r => decide ((r.length : Int) < m)).map (· ++ [k])) [[]] ↔ r.Sublist ks ∧ (r.length : Int) ≤ m) ?_ ?_ ks
  · intro r
    simp
    intro h; subst h; simpa using hm
  · intro ks k ih r
    rw [List.foldl_append, List.foldl_cons, List.foldl_nil, List.mem_append, ih, sub_snoc, List.mem_map]
    constructor
    · rintro (h | ⟨s, hs, rfl⟩)
      · exact ⟨.inl h.1, h.2⟩
      · rw [List.mem_filter, ih] at hs
        have := of_decide_eq_true hs.2
        exact ⟨.inr ⟨s, rfl, hs.1.1⟩, by simp; omega⟩
    · rintro ⟨h | ⟨s, rfl, hs⟩, hl⟩
      · exact .inl ⟨h, hl⟩
      · right
        have : (s.length : Int) < m := by simp at hl; omega
        exact ⟨s, List.mem_filter.mpr ⟨ih.mpr ⟨hs, by omega⟩, decide_eq_true this⟩, rfl⟩
theorem subs_len (ks : List α) : (subs ks).length = 2 ^ ks.length := by
  unfold subs
  refine snoc_ind (P := fun ks => (ks.foldl (fun rows k => rows ++ rows.map (· ++ [k])) [[]]).length = 2 ^ ks.length) rfl (fun ks k ih => ?_) ks
  · rw [List.foldl_append, List.foldl_cons, List.foldl_nil, List.length_append, List.length_map, ih, List.length_append, List.length_singleton, Nat.pow_succ]; omega
theorem sub_filter {p : α → Bool} {r ks : List α} : r.Sublist (ks.filter p) ↔ r.Sublist ks ∧ ∀ x ∈ r, p x = true := by
  constructor
  · intro h
    exact ⟨h.trans List.filter_sublist, fun x hx => (List.mem_filter.mp (h.subset hx)).2⟩
  · rintro ⟨h1, h2⟩
    have := h1.filter p
    rwa [List.filter_eq_self.mpr h2] at this
end
/-! ### a def's run, a statement at a time -/
section
variable {α : Type} {Φ : Fns} {ρ : Envi} {D D1 D' : DS} {v : PV} {r b : CSs} {e : CE} {i : Nat} {o : Bool} {p : Pat} {it : CI}
theorem run_ex {d : Def} {args : List PV} (hl : args.length = d.np) (h : ∃ ρ', exs Φ d.body (args.map (fun x => some (false, x)) ++ List.replicate (d.nn - d.np) none) D = some (.rt v, ρ', D')) (hD : D'.length = D.length := by rfl) : d.run Φ args D = some (v, D') := by
  obtain ⟨ρ', h⟩ := h
  exact run_rt hl h hD
theorem go_nx {s : CS} {ρ1 : Envi} (h : ex Φ s ρ D = some (.nx, ρ1, D1)) (k : ∃ ρ', exs Φ r ρ1 D1 = some (.rt v, ρ', D')) : ∃ ρ', exs Φ (.cons s r) ρ D = some (.rt v, ρ', D') := by
  obtain ⟨ρ', k⟩ := k
  exact ⟨ρ', by rw [xs_nx h, k]⟩
theorem go_asg (x : PV) (h : ev Φ e ρ D = some (x, D)) (k : ∃ ρ', exs Φ r (ρ.set i (some (o, x))) D = some (.rt v, ρ', D')) : ∃ ρ', exs Φ (.cons (.asg o i e) r) ρ D = some (.rt v, ρ', D') :=
  go_nx (by rw [ex_asg, h]; rfl) k
theorem go_asgD (x : PV) (h : ev Φ e ρ D = some (x, D1)) (k : ∃ ρ', exs Φ r (ρ.set i (some (o, x))) D1 = some (.rt v, ρ', D')) : ∃ ρ', exs Φ (.cons (.asg o i e) r) ρ D = some (.rt v, ρ', D') :=
  go_nx (by rw [ex_asg, h]; rfl) k
theorem go_ret (h : ev Φ e ρ D = some (v, D')) : ∃ ρ', exs Φ (.cons (.ret e) r) ρ D = some (.rt v, ρ', D') :=
  ⟨ρ, by rw [xs_rt (by rw [ex_ret, h]; rfl)]⟩
theorem go_forF {σ : Type} (enc : α → PV) (xs : List α) (R : σ → Envi → Prop) (step : σ → α → σ) (s0 : σ) (hi : evi Φ it ρ D = some (xs.map enc, D)) (h0 : R s0 ρ)
    (H : ∀ s x ρ, x ∈ xs → R s ρ → ∃ o ρ', ((bindP p (enc x) ρ).bind fun ρ1 => exs Φ b ρ1 D) = some (o, ρ', D) ∧ (o = .nx ∨ o = .ct) ∧ R (step s x) ρ')
    (k : ∀ ρ1, R (xs.foldl step s0) ρ1 → ∃ ρ', exs Φ r ρ1 D = some (.rt v, ρ', D')) : ∃ ρ', exs Φ (.cons (.for_ p it b) r) ρ D = some (.rt v, ρ', D') := by
  obtain ⟨ρ1, e1, h1⟩ := forF (f := fun x ρ D => (bindP p x ρ).bind fun ρ1 => exs Φ b ρ1 D) enc R step xs s0 ρ h0 H
  exact go_nx (by rw [ex_for, hi, Option.bind_some]; exact e1) (k ρ1 h1)
theorem go_forE {σ : Type} (enc : α → PV) (xs : List α) (R : σ → Envi → Prop) (step : σ → α → Except PV σ) (s0 : σ) (hi : evi Φ it ρ D = some (xs.map enc, D)) (h0 : R s0 ρ)
    (H : ∀ s x ρ, x ∈ xs → R s ρ → match step s x with
      | .ok s' => ∃ o ρ', ((bindP p (enc x) ρ).bind fun ρ1 => exs Φ b ρ1 D) = some (o, ρ', D) ∧ (o = .nx ∨ o = .ct) ∧ R s' ρ'
      | .error v => ∃ ρ', ((bindP p (enc x) ρ).bind fun ρ1 => exs Φ b ρ1 D) = some (.rt v, ρ', D))
    (k : ∀ s1, xs.foldlM step s0 = .ok s1 → ∀ ρ1, R s1 ρ1 → ∃ ρ', exs Φ r ρ1 D = some (.rt v, ρ', D)) (ke : ∀ w, xs.foldlM step s0 = .error w → v = w) : ∃ ρ', exs Φ (.cons (.for_ p it b) r) ρ D = some (.rt v, ρ', D) := by
  have h := forE (f := fun x ρ D => (bindP p x ρ).bind fun ρ1 => exs Φ b ρ1 D) enc R step xs s0 ρ h0 H
  cases e : xs.foldlM step s0 with
  | ok s1 =>
    rw [e] at h
    obtain ⟨ρ1, e1, h1⟩ := h
    exact go_nx (by rw [ex_for, hi, Option.bind_some]; exact e1) (k s1 e ρ1 h1)
  | error w =>
    rw [e] at h
    obtain ⟨ρ1, e1⟩ := h
    obtain rfl := ke w e
    exact ⟨ρ1, by rw [xs_rt (by rw [ex_for, hi, Option.bind_some]; exact e1)]⟩
end
section
variable {α : Type} {Φ : Fns} {ρ : Envi} {D D1 D' : DS} {v : PV} {r b : CSs} {p : Pat} {it : CI}
theorem forP {σ : Type} {f : PV → Envi → DS → XR} (enc : α → PV) (R : σ → Envi → Prop) (step : σ → α → σ) (s0 : σ) (xs : List α) : ∀ (post pre : List α) (ρ : Envi), xs = pre ++ post → R (pre.foldl step s0) ρ →
    (∀ pre x post ρ, xs = pre ++ x :: post → R (pre.foldl step s0) ρ → ∃ o ρ', f (enc x) ρ D = some (o, ρ', D) ∧ (o = .nx ∨ o = .ct) ∧ R (step (pre.foldl step s0) x) ρ') →
    ∃ ρ', forL f (post.map enc) ρ D = some (.nx, ρ', D) ∧ R (xs.foldl step s0) ρ'
  | [], pre, ρ, e, h, _ => ⟨ρ, rfl, by rw [e, List.append_nil]; exact h⟩
  | x :: post, pre, ρ, e, h, H => by
    obtain ⟨o, ρ1, e1, ho, h1⟩ := H pre x post ρ e h
    obtain ⟨ρ2, e2, h2⟩ := forP enc R step s0 xs post (pre ++ [x]) ρ1 (by rw [e]; simp) (by rw [List.foldl_append]; exact h1) H
    refine ⟨ρ2, ?_, h2⟩
    rw [List.map_cons, forL, e1, Option.bind_some]
    rcases ho with rfl | rfl <;> exact e2
theorem go_forP {σ : Type} (enc : α → PV) (xs : List α) (R : σ → Envi → Prop) (step : σ → α → σ) (s0 : σ) (hi : evi Φ it ρ D = some (xs.map enc, D)) (h0 : R s0 ρ)
    (H : ∀ pre x post ρ, xs = pre ++ x :: post → R (pre.foldl step s0) ρ → ∃ o ρ', ((bindP p (enc x) ρ).bind fun ρ1 => exs Φ b ρ1 D) = some (o, ρ', D) ∧ (o = .nx ∨ o = .ct) ∧ R (step (pre.foldl step s0) x) ρ')
    (k : ∀ ρ1, R (xs.foldl step s0) ρ1 → ∃ ρ', exs Φ r ρ1 D = some (.rt v, ρ', D')) : ∃ ρ', exs Φ (.cons (.for_ p it b) r) ρ D = some (.rt v, ρ', D') := by
  obtain ⟨ρ1, e1, h1⟩ := forP (f := fun x ρ D => (bindP p x ρ).bind fun ρ1 => exs Φ b ρ1 D) enc R step s0 xs xs [] ρ rfl h0 H
  exact go_nx (by rw [ex_for, hi, Option.bind_some]; exact e1) (k ρ1 h1)
theorem mapO_map (f : α → Int) (xs : List α) : mapO intOf (xs.map fun x => PV.int (f x)) = some (xs.map f) := by
  induction xs with
  | nil => rfl
  | cons x xs ih => rw [List.map_cons, mapO_cons, ih]; rfl
theorem pSum_lst (f : α → Int) (xs : List α) : pBi .sum [.lst (xs.map fun x => PV.int (f x))] = some (.int (xs.map f).sum) := by
  show (some (xs.map fun x => PV.int (f x))).bind (fun xs => (mapO intOf xs).map fun ns => PV.int ns.sum) = _
  rw [Option.bind_some, mapO_map]; rfl
theorem rg_succ {a b : Int} (h : a ≤ b) : rg a (b + 1) = rg a b ++ [b] := by
  unfold rg
  have : (b + 1 - a).toNat = (b - a).toNat + 1 := by omega
  rw [this, List.range_succ, List.map_append]
  simp
  omega
theorem rg_nil {a b : Int} (h : b ≤ a) : rg a b = [] := by
  unfold rg
  have : (b - a).toNat = 0 := by omega
  rw [this]; rfl
theorem rg_len (a b : Int) : (rg a b).length = (b - a).toNat := by unfold rg; simp
theorem evi_r1 {e : CE} {m : Int} (h : ev Φ e ρ D = some (.int m, D1)) (h0 : -1000 ≤ m) (h1 : m ≤ 100000) : evi Φ (.rng1 e) ρ D = some ((rg 0 m).map .int, D1) := by
  rw [evi_rng1, h, Option.bind_some, intOf_int, Option.bind_some, if_pos (rngOk_of (by omega) (by omega) (by omega) (by omega)), rngL_rg]
theorem evi_r2 {e f : CE} {a b : Int} {D2 : DS} (h : ev Φ e ρ D = some (.int a, D1)) (h' : ev Φ f ρ D1 = some (.int b, D2)) (h0 : -1000 ≤ a) (h1 : a ≤ 100000) (h2 : -1000 ≤ b) (h3 : b ≤ 100000) : evi Φ (.rng2 e f) ρ D = some ((rg a b).map .int, D2) := by
  rw [evi_rng2, h, Option.bind_some, h', Option.bind_some, intOf_int, Option.bind_some, intOf_int, Option.bind_some, if_pos (rngOk_of (by omega) (by omega) (by omega) (by omega)), rngL_rg]
theorem evi_ov {e : CE} {xs : List PV} (h : ev Φ e ρ D = some (.lst xs, D1)) : evi Φ (.over e) ρ D = some (xs, D1) := by rw [evi_over, h]; rfl
theorem evi_ovT {e : CE} {xs : List PV} (h : ev Φ e ρ D = some (.tup xs, D1)) : evi Φ (.over e) ρ D = some (xs, D1) := by rw [evi_over, h]; rfl
end
theorem foldlM_all {α : Type} (p : α → Bool) (v : PV) (xs : List α) : xs.foldlM (fun (_ : Unit) x => if p x then (.ok () : Except PV Unit) else .error v) () = if xs.all p then .ok () else .error v := by
  induction xs with
  | nil => rfl
  | cons x xs ih =>
    rw [List.foldlM_cons]
    by_cases h : p x = true
    · rw [if_pos h, List.all_cons, h, Bool.true_and]; exact ih
    · rw [if_neg h, List.all_cons, Bool.eq_false_iff.mpr h]; rfl
def hE {β : Type} (w : β → PV) : Option β → Except PV Unit
  | some y => .error (w y)
  | none => .ok ()
/-- a loop that ends at the first c -/
theorem foldlM_find {α : Type} (c : α → Bool) (w : α → PV) (xs : List α) : xs.foldlM (fun (_ : Unit) x => if c x then (.error (w x) : Except PV Unit) else .ok ()) () = hE w (xs.filter c).head? := by
  induction xs with
  | nil => rfl
  | cons x xs ih =>
    rw [List.foldlM_cons]
    by_cases h : c x = true
    · rw [if_pos h, List.filter_cons_of_pos h]; rfl
    · rw [if_neg h, List.filter_cons_of_neg h]; exact ih
theorem foldlM_find2 {α β : Type} (F : α → Except PV Unit) (L : α → List β) (w : β → PV) (hF : ∀ x, F x = hE w (L x).head?) (xs : List α) : xs.foldlM (fun (_ : Unit) x => F x) () = hE w (xs.flatMap L).head? := by
  induction xs with
  | nil => rfl
  | cons x xs ih =>
    rw [List.foldlM_cons, hF, List.flatMap_cons]
    cases e : L x with
    | nil => exact ih
    | cons y ys => rfl
/-- a body that is one loop -/
theorem bd_forE {α σ : Type} {Φ : Fns} {ρ ρ0 : Envi} {D : DS} {b : CSs} {p p0 : Pat} {x0 : PV} {it : CI} {R0 : σ → Envi → Prop} (enc : α → PV) (xs : List α) (R : σ → Envi → Prop) (hR : ∀ s ρ, R s ρ → R0 s ρ) (step : σ → α → Except PV σ) (s0 : σ) (hb : bindP p0 x0 ρ0 = some ρ) (hi : evi Φ it ρ D = some (xs.map enc, D)) (h0 : R s0 ρ)
    (H : ∀ s x ρ, x ∈ xs → R s ρ → match step s x with
      | .ok s' => ∃ o ρ', ((bindP p (enc x) ρ).bind fun ρ1 => exs Φ b ρ1 D) = some (o, ρ', D) ∧ (o = .nx ∨ o = .ct) ∧ R s' ρ'
      | .error v => ∃ ρ', ((bindP p (enc x) ρ).bind fun ρ1 => exs Φ b ρ1 D) = some (.rt v, ρ', D)) :
    match xs.foldlM step s0 with
      | .ok s' => ∃ o ρ', ((bindP p0 x0 ρ0).bind fun ρ1 => exs Φ (.cons (.for_ p it b) .nil) ρ1 D) = some (o, ρ', D) ∧ (o = .nx ∨ o = .ct) ∧ R0 s' ρ'
      | .error v => ∃ ρ', ((bindP p0 x0 ρ0).bind fun ρ1 => exs Φ (.cons (.for_ p it b) .nil) ρ1 D) = some (.rt v, ρ', D) := by
  have h := forE (f := fun x ρ D => (bindP p x ρ).bind fun ρ1 => exs Φ b ρ1 D) enc R step xs s0 ρ h0 H
  rw [hb, Option.bind_some]
  cases e : xs.foldlM step s0 with
  | ok s1 =>
    rw [e] at h
    obtain ⟨ρ1, e1, h1⟩ := h
    exact ⟨.nx, ρ1, by rw [xs_nx (by rw [ex_for, hi, Option.bind_some]; exact e1)]; rfl, .inl rfl, hR _ _ h1⟩
  | error w =>
    rw [e] at h
    obtain ⟨ρ1, e1⟩ := h
    exact ⟨ρ1, by rw [xs_rt (by rw [ex_for, hi, Option.bind_some]; exact e1)]⟩
/-- slices with both ends -/
theorem cut_mid {α : Type} {xs : List α} {i j : Int} (h0 : 0 ≤ i) (h1 : i ≤ j) (h2 : j ≤ xs.length) : cutL xs (some i) (some j) = (xs.drop i.toNat).take (j.toNat - i.toNat) := by
  unfold cutL cutN
  simp only
  rw [if_neg (by omega), if_neg (by omega)]
  rw [Nat.min_eq_left (by omega), Nat.min_eq_left (by omega)]
theorem cut_pre {α : Type} {xs : List α} {j : Int} (h1 : 0 ≤ j) (h2 : j ≤ xs.length) : cutL xs none (some j) = xs.take j.toNat := by
  unfold cutL cutN
  simp only
  rw [if_neg (by omega), Nat.min_eq_left (by omega)]
  simp
theorem pCut_lst {xs : List PV} {lo hi : Option Int} : pCut (.lst xs) lo hi = some (.lst (cutL xs lo hi)) := rfl
theorem pCut_tup {xs : List PV} {lo hi : Option Int} : pCut (.tup xs) lo hi = some (.tup (cutL xs lo hi)) := rfl
theorem cutL_map {α β : Type} (f : α → β) (xs : List α) (lo hi : Option Int) : cutL (xs.map f) lo hi = (cutL xs lo hi).map f := by
  unfold cutL
  rw [List.length_map, List.map_take, List.map_drop]
section
variable {α : Type} {Φ : Fns} {ρ : Envi} {D D1 D' : DS} {v : PV} {r b : CSs} {p : Pat} {it : CI}
/-- .. the state being what the items so far give -/
theorem forEP {σ : Type} {f : PV → Envi → DS → XR} (enc : α → PV) (R : σ → Envi → Prop) (step : σ → α → Except PV σ) (s0 : σ) (xs : List α) : ∀ (post pre : List α) (s : σ) (ρ : Envi), xs = pre ++ post → pre.foldlM step s0 = .ok s → R s ρ →
    (∀ pre x post s ρ, xs = pre ++ x :: post → pre.foldlM step s0 = .ok s → R s ρ → match step s x with
      | .ok s' => ∃ o ρ', f (enc x) ρ D = some (o, ρ', D) ∧ (o = .nx ∨ o = .ct) ∧ R s' ρ'
      | .error v => ∃ ρ', f (enc x) ρ D = some (.rt v, ρ', D)) →
    match xs.foldlM step s0 with
      | .ok s' => ∃ ρ', forL f (post.map enc) ρ D = some (.nx, ρ', D) ∧ R s' ρ'
      | .error v => ∃ ρ', forL f (post.map enc) ρ D = some (.rt v, ρ', D)
  | [], pre, s, ρ, e, hs, h, _ => by
    rw [List.append_nil] at e
    subst e
    rw [hs]
    exact ⟨ρ, rfl, h⟩
  | x :: post, pre, s, ρ, e, hs, h, H => by
    have h1 := H pre x post s ρ e hs h
    cases q : step s x with
    | error v =>
      rw [q] at h1
      obtain ⟨ρ1, e1⟩ := h1
      have : xs.foldlM step s0 = .error v := by
        rw [e, List.foldlM_append, hs]
        show (x :: post).foldlM step s = _
        rw [List.foldlM_cons, q]; rfl
      rw [this]
      show ∃ ρ', _
      refine ⟨ρ1, ?_⟩
      rw [List.map_cons, forL, e1, Option.bind_some]
    | ok s1 =>
      rw [q] at h1
      obtain ⟨o, ρ1, e1, ho, h1⟩ := h1
      have hs2 : (pre ++ [x]).foldlM step s0 = .ok s1 := by
        rw [List.foldlM_append, hs]
        show [x].foldlM step s = _
        rw [List.foldlM_cons, q]; rfl
      have h2 := forEP enc R step s0 xs post (pre ++ [x]) s1 ρ1 (by rw [e]; simp) hs2 h1 H
      have cn : forL f ((x :: post).map enc) ρ D = forL f (post.map enc) ρ1 D := by
        rw [List.map_cons, forL, e1, Option.bind_some]
        rcases ho with rfl | rfl <;> rfl
      rw [cn]
      exact h2
theorem go_forEP {σ : Type} (enc : α → PV) (xs : List α) (R : σ → Envi → Prop) (step : σ → α → Except PV σ) (s0 : σ) (hi : evi Φ it ρ D = some (xs.map enc, D)) (h0 : R s0 ρ)
    (H : ∀ pre x post s ρ, xs = pre ++ x :: post → pre.foldlM step s0 = .ok s → R s ρ → match step s x with
      | .ok s' => ∃ o ρ', ((bindP p (enc x) ρ).bind fun ρ1 => exs Φ b ρ1 D) = some (o, ρ', D) ∧ (o = .nx ∨ o = .ct) ∧ R s' ρ'
      | .error v => ∃ ρ', ((bindP p (enc x) ρ).bind fun ρ1 => exs Φ b ρ1 D) = some (.rt v, ρ', D))
    (k : ∀ s1, xs.foldlM step s0 = .ok s1 → ∀ ρ1, R s1 ρ1 → ∃ ρ', exs Φ r ρ1 D = some (.rt v, ρ', D)) (ke : ∀ w, xs.foldlM step s0 = .error w → v = w) : ∃ ρ', exs Φ (.cons (.for_ p it b) r) ρ D = some (.rt v, ρ', D) := by
  have h := forEP (f := fun x ρ D => (bindP p x ρ).bind fun ρ1 => exs Φ b ρ1 D) enc R step s0 xs xs [] s0 ρ rfl rfl h0 H
  cases e : xs.foldlM step s0 with
  | ok s1 =>
    rw [e] at h
    obtain ⟨ρ1, e1, h1⟩ := h
    exact go_nx (by rw [ex_for, hi, Option.bind_some]; exact e1) (k s1 e ρ1 h1)
  | error w =>
    rw [e] at h
    obtain ⟨ρ1, e1⟩ := h
    obtain rfl := ke w e
    exact ⟨ρ1, by rw [xs_rt (by rw [ex_for, hi, Option.bind_some]; exact e1)]⟩
/-! ### lists with the same first items -/
def FE (xs ys : List α) : Prop := ∀ p : α → Bool, xs.find? p = ys.find? p
theorem findSome_find {β : Type} (g : α → Option β) : ∀ xs : List α, xs.findSome? g = (xs.find? fun x => (g x).isSome).bind g
  | [] => rfl
  | x :: xs => by
    rw [List.findSome?_cons, List.find?_cons]
    cases e : g x with
    | some y => simp [e]
    | none => simp [findSome_find g xs]
theorem FE.flatMap {β : Type} {xs ys : List α} {f g : α → List β} (h : FE xs ys) (h2 : ∀ x ∈ xs, FE (f x) (g x)) (h3 : ∀ x ∈ ys, x ∈ xs) : FE (xs.flatMap f) (ys.flatMap g) := fun p => by
  rw [List.find?_flatMap, List.find?_flatMap, findSome_find, findSome_find]
  have e1 : ∀ zs : List α, (∀ z ∈ zs, z ∈ xs) → (zs.find? fun x => ((f x).find? p).isSome) = zs.find? fun x => ((g x).find? p).isSome := fun zs hz => by
    induction zs with
    | nil => rfl
    | cons z zs ih =>
      rw [List.find?_cons, List.find?_cons, h2 z (hz z List.mem_cons_self) p, ih fun y hy => hz y (List.mem_cons_of_mem _ hy)]
  rw [h, e1 ys h3]
  cases q : ys.find? fun x => ((g x).find? p).isSome with
  | none => rfl
  | some x =>
    show (f x).find? p = (g x).find? p
    exact h2 x (h3 x (List.mem_of_find?_eq_some q)) p
theorem FE.map {β : Type} {xs ys : List α} (h : FE xs ys) (f : α → β) : FE (xs.map f) (ys.map f) := fun p => by
  rw [List.find?_map, List.find?_map, h]
theorem FE.filter {xs ys : List α} (h : FE xs ys) (q : α → Bool) : FE (xs.filter q) (ys.filter q) := fun p => by
  rw [List.find?_filter, List.find?_filter, h]
theorem FE.mem {xs ys : List α} [DecidableEq α] (h : FE xs ys) (x : α) : x ∈ xs ↔ x ∈ ys := by
  have := h fun y => decide (y = x)
  have k : ∀ zs : List α, x ∈ zs ↔ (zs.find? fun y => decide (y = x)).isSome := fun zs => by
    rw [List.find?_isSome]
    exact ⟨fun h => ⟨x, h, by simp⟩, fun ⟨y, h, e⟩ => by simp at e; rw [← e]; exact h⟩
  rw [k, k, this]
theorem FE.head {xs ys : List α} (h : FE xs ys) : xs.head? = ys.head? := by
  have k : ∀ zs : List α, zs.head? = zs.find? fun _ => true := fun zs => by cases zs <;> rfl
  rw [k, k, h]
end
theorem find_srt : ∀ {s : List Int} (p : Int → Bool), s.Pairwise (· ≤ ·) → match s.find? p with
    | some x => x ∈ s ∧ p x = true ∧ ∀ y ∈ s, p y = true → x ≤ y
    | none => ∀ y ∈ s, p y = false
  | [], p, _ => by simp
  | a :: s, p, h => by
    rw [List.pairwise_cons] at h
    rw [List.find?_cons]
    cases e : p a with
    | true =>
      refine ⟨List.mem_cons_self, e, fun y hy _ => ?_⟩
      rcases List.mem_cons.mp hy with rfl | hy
      · exact Int.le_refl _
      · exact h.1 y hy
    | false =>
      have ih := find_srt p h.2
      simp only
      cases q : s.find? p with
      | some x =>
        rw [q] at ih
        refine ⟨List.mem_cons_of_mem _ ih.1, ih.2.1, fun y hy hp => ?_⟩
        rcases List.mem_cons.mp hy with rfl | hy
        · rw [e] at hp; cases hp
        · exact ih.2.2 y hy hp
      | none =>
        rw [q] at ih
        intro y hy
        rcases List.mem_cons.mp hy with rfl | hy
        · exact e
        · exact ih y hy
theorem FE_srt {s t : List Int} (hs : s.Pairwise (· ≤ ·)) (ht : t.Pairwise (· ≤ ·)) (h : ∀ x, x ∈ s ↔ x ∈ t) : FE s t := fun p => by
  have a := find_srt p hs
  have b := find_srt p ht
  cases e1 : s.find? p with
  | none =>
    rw [e1] at a
    cases e2 : t.find? p with
    | none => rfl
    | some y =>
      rw [e2] at b
      have := a y ((h y).mpr b.1)
      rw [b.2.1] at this; cases this
  | some x =>
    rw [e1] at a
    cases e2 : t.find? p with
    | none =>
      rw [e2] at b
      have := b x ((h x).mp a.1)
      rw [a.2.1] at this; cases this
    | some y =>
      rw [e2] at b
      have h1 := a.2.2 y ((h y).mpr b.1) b.2.1
      have h2 := b.2.2 x ((h x).mp a.1) a.2.1
      have : x = y := by omega
      rw [this]
/-! ### sorted ints, with doubles -/
def sI (L : List Int) : List Int := L.mergeSort fun a b => decide (a ≤ b)
theorem pSort_I (L : List Int) : pSort (L.map .int) = some ((sI L).map .int) := by
  show (if ordOk (L.map .int) && srtOk (L.map .int) then some ((L.map PV.int).mergeSort fun a b => !plt b a) else none) = _
  rw [ordOk_ints, srtOk_ints]
  show some ((L.map PV.int).mergeSort fun a b => !plt b a) = _
  unfold sI
  rw [List.map_mergeSort (s := fun a b => !plt b a)]
  intro a _ b _
  rw [plt]
  by_cases h : b < a
  · have : ¬ a ≤ b := by omega
    simp [h, this]
  · have : a ≤ b := by omega
    simp [h, this]
theorem sI_srt (L : List Int) : (sI L).Pairwise (· ≤ ·) := by
  have := List.pairwise_mergeSort (le := fun a b : Int => decide (a ≤ b)) (fun a b c h1 h2 => by simp at *; omega) (fun a b => by simp; omega) L
  exact this.imp fun {a b} h => by simpa using h
theorem sI_mem {L : List Int} {x : Int} : x ∈ sI L ↔ x ∈ L := List.mem_mergeSort
theorem sI_len (L : List Int) : (sI L).length = L.length := List.length_mergeSort L
theorem zipL_map {α β : Type} (f : α → PV) (g : β → PV) : ∀ (a : List α) (b : List β), zipL (a.map f) (b.map g) = (a.zip b).map fun p => .tup [f p.1, g p.2]
  | [], _ => rfl
  | _ :: _, [] => rfl
  | x :: a, y :: b => by
    show (PV.tup [f x, g y]) :: zipL (a.map f) (b.map g) = _
    rw [zipL_map f g a b]; rfl
end MP

/-! MP tl: general lemmas first proved for k13, for the later laws. -/
namespace MP
open PySem
section
variable {D : DS} {n : Nat}
abbrev ET (r : List Int) : PV := .tup (r.map .int)
@[simp] theorem pLenT {xs : List PV} : pBi .len [.tup xs] = some (.int xs.length) := rfl
@[simp] theorem pLenL {xs : List PV} : pBi .len [.lst xs] = some (.int xs.length) := rfl
@[simp] theorem pTupL {xs : List PV} : pBi .tuple [.lst xs] = some (.tup xs) := rfl
@[simp] theorem pTupT {xs : List PV} : pBi .tuple [.tup xs] = some (.tup xs) := rfl
theorem evi_len {Φ : Fns} {ρ : Envi} {e : CE} {xs : List PV} (h : ev Φ e ρ D = some (.tup xs, D)) (hl : xs.length ≤ 1000) : evi Φ (.rng1 (.bi .len (.cons e .nil))) ρ D = some ((rg 0 xs.length).map .int, D) := by
  simp [h, rngOk_of (a := 0) (b := xs.length) (by omega) (by omega) (by omega) (by omega), rngL_rg]
abbrev vI (i : Int) : Option (Bool × PV) := some (false, .int i)
theorem sum_nn : ∀ {xs : List Int}, (∀ x ∈ xs, 0 ≤ x) → 0 ≤ xs.sum
  | [], _ => by simp
  | x :: xs, h => by
    have := sum_nn fun y hy => h y (List.mem_cons_of_mem x hy)
    have := h x List.mem_cons_self
    rw [List.sum_cons]; omega
theorem sum_le {m : Int} : ∀ {xs : List Int}, (∀ x ∈ xs, x ≤ m) → xs.sum ≤ m * xs.length
  | [], _ => by simp
  | x :: xs, h => by
    have := sum_le fun y hy => h y (List.mem_cons_of_mem x hy)
    have := h x List.mem_cons_self
    rw [List.sum_cons, List.length_cons]
    have : m * ((xs.length + 1 : Nat) : Int) = m * xs.length + m := by rw [Int.natCast_add, Int.mul_add]; simp
    omega
def kv (r : List Int) : PV := .tup [.int r.length, ET r]
theorem shp_ET {m : Nat} {r : List Int} : shp (m + 1) (ET r) = true := shp_ints r
theorem kv_gd (r : List Int) : gd (kv r) = true := by
  show (gd (.int r.length) && (gd (ET r) && true)) = true
  have : gd (ET r) = true := gdL_ints r
  rw [this]; rfl
theorem kv_shp (r : List Int) : shp DEP (kv r) = true := by
  show (shp 19 (.int r.length) && (shp 19 (ET r) && true)) = true
  rw [shp_ET]; rfl
theorem cmpL_ints : ∀ a b : List Int, cmpOkL (a.map .int) (b.map .int) = true
  | [], [] => by simp [cmpOkL]
  | [], _ :: _ => by simp [cmpOkL]
  | _ :: _, [] => by simp [cmpOkL]
  | x :: a, y :: b => by simp [cmpOkL, cmpOk, cmpL_ints a b]
theorem kv_cmp (a b : List Int) : cmpOk (kv a) (kv b) = true := by simp [kv, cmpOk, cmpOkL, cmpL_ints]
theorem kv_C (L : List (List Int)) : Cmp (L.map kv) := Cmp.of L kv_gd kv_shp kv_cmp
theorem kv_lt {a b : List Int} (h : a.length < b.length) : plt (kv a) (kv b) = true := by
  have : ¬ (peq (.int a.length) (.int b.length) = true) := by rw [peq_int]; simp; omega
  simp only [kv, plt, pltL]
  rw [if_neg this]
  exact decide_eq_true (by omega)
theorem kv1 {r : List Int} : pIdx (kv r) (.int 1) = some (ET r) := rfl
theorem okv {r : List Int} : opd D (kv r) = some (kv r) := rfl
theorem ints_inj : ∀ {a b : List Int}, a.map PV.int = b.map PV.int → a = b
  | [], [], _ => rfl
  | [], _ :: _, h => by cases h
  | _ :: _, [], h => by cases h
  | x :: a, y :: b, h => by
    rw [List.map_cons, List.map_cons, List.cons.injEq] at h
    have h1 : x = y := by injection h.1
    rw [h1, ints_inj h.2]
theorem kv_inj {a b : List Int} (h : kv a = kv b) : a = b := by
  have : ET a = ET b := by
    have := congrArg (fun v => pIdx v (.int 1)) h
    simpa [kv1] using this
  have h2 : a.map PV.int = b.map PV.int := by injection this
  exact ints_inj h2
theorem min_kv {L : List (List Int)} (h : L ≠ []) : ∃ r ∈ L, pMin (L.map kv) = some (kv r) ∧ ∀ y ∈ L, plt (kv y) (kv r) = false := by
  obtain ⟨v, h1, h2, h3⟩ := pMin_ok (kv_C L) (by simpa using h)
  obtain ⟨r, hr, rfl⟩ := List.mem_map.mp h2
  exact ⟨r, hr, h1, fun y hy => h3 _ (List.mem_map.mpr ⟨y, hy, rfl⟩)⟩
theorem min_kv_uni {a b : List Int} (h1 : plt (kv a) (kv b) = false) (h2 : plt (kv b) (kv a) = false) : a = b :=
  kv_inj (plt_con _ _ (kv_gd a) (kv_gd b) (kv_cmp a b) h1 h2)
theorem yy : pEq (.str "yes") (.str "yes") = some true := by decide +kernel
theorem ny : pEq (.str "no") (.str "yes") = some false := by decide +kernel
theorem enumL_g {α : Type} (enc : α → PV) (d : α) (xs : List α) : enumL (xs.map enc) = (rg 0 xs.length).map fun k => .tup [.int k, enc (xs.getD k.toNat d)] := by
  unfold enumL rg
  apply List.ext_getElem
  · simp
  · intro i h1 h2
    have : i < xs.length := by simpa using h1
    simp [this]
theorem ixT {W : List Int} {k : Int} (h0 : 0 ≤ k) (h1 : k < W.length) : pIdx (ET W) (.int k) = some (.int (W.getD k.toNat 0)) := by
  have hk : k.toNat < W.length := by omega
  refine ix_tup PV.int h0 ?_
  rw [List.getD_eq_getElem?_getD, List.getElem?_eq_getElem hk] <;> rfl
theorem ev_brk {Φ : Fns} {ρ : Envi} {a : CE} {L : List Int} (ha : ev Φ a ρ D = some (.lst (L.map .int), D)) : ev Φ (.ite (.cmp .ne a (.lst .nil)) (.idx a (.int 0)) .non) ρ D = some (match L.head? with
    | some k => PV.int k
    | none => .non, D) := by
  cases L with
  | nil =>
    rw [ev_ite, ev_cmp, ha]
    simp [pCmp]
    rfl
  | cons x L =>
    have e : pCmp .ne (.lst ((x :: L).map .int)) (.lst []) = some true := by
      show (pEq _ _).map _ = _
      rw [pEq_lstN]; simp
    have i0 : pIdx (.lst ((x :: L).map .int)) (.int 0) = some (.int x) := ix_lst PV.int (by decide) rfl
    rw [ev_ite, ev_cmp, ha]
    simp only [Option.bind_some, ev_lst, evs_nil, Option.map_some, opd_lst, e, blOf_bl, if_true, ev_idx, ha, ev_int, i0]
    rfl
def mxf (W : List Int) : Int := W.foldl (fun a y => if a < y then y else a) 0
theorem pMax_mxf (W : List Int) : pBi .max [.tup (.int 0 :: W.map .int)] = some (.int (mxf W)) := by
  have key : ∀ (W : List Int) (a : Int), maxL (.int a) (W.map .int) = .int (W.foldl (fun a y => if a < y then y else a) a) := fun W => by
    induction W with
    | nil => exact fun a => rfl
    | cons x W ih =>
      intro a
      show ((W.map PV.int).foldl _ (if plt (.int a) (.int x) = true then PV.int x else .int a)) = _
      rw [List.foldl_cons]
      have : (if plt (.int a) (.int x) = true then PV.int x else .int a) = .int (if a < x then x else a) := by
        by_cases h : a < x <;> simp [plt, h]
      rw [this]
      exact ih _
  have o : ordOk (.int 0 :: W.map .int) = true := ordOk_ints (0 :: W)
  show (if ordOk (.int 0 :: W.map .int) then some (maxL (.int 0) (W.map .int)) else none) = _
  rw [if_pos o, key]; rfl
abbrev EP (q : Int × Int) : PV := pv2 q
def jst (f : List (Int × Int)) (q : Int × Int) : List (Int × Int) := match f.getLast? with
  | some w => if w.2 = q.1 then f.dropLast ++ [(w.1, q.2)] else f ++ [q]
  | none => f ++ [q]
theorem jst_ne (f : List (Int × Int)) (q : Int × Int) : ∃ h b, jst f q = h ++ [(b, q.2)] := by
  unfold jst
  split
  · split
    · exact ⟨_, _, rfl⟩
    · exact ⟨f, q.1, rfl⟩
  · exact ⟨f, q.1, rfl⟩
theorem jstL (h : List (Int × Int)) (w : Int × Int) (c : Int) : jst (h ++ [w]) (w.2, c) = h ++ [(w.1, c)] := by
  unfold jst
  have e : (h ++ [w]).getLast? = some w := by simp
  rw [e]
  simp
theorem jst_jst (f : List (Int × Int)) (a b c : Int) : jst (jst f (a, b)) (b, c) = jst f (a, c) := by
  cases e : f.getLast? with
  | none =>
    have h1 : ∀ q, jst f q = f ++ [q] := fun q => by unfold jst; rw [e]
    rw [h1, h1]; exact jstL f (a, b) c
  | some w =>
    by_cases hw : w.2 = a
    · have h1 : ∀ d, jst f (a, d) = f.dropLast ++ [(w.1, d)] := fun d => by unfold jst; rw [e]; simp [hw]
      rw [h1, h1]; exact jstL f.dropLast (w.1, b) c
    · have h1 : ∀ d, jst f (a, d) = f ++ [(a, d)] := fun d => by unfold jst; rw [e]; simp [hw]
      rw [h1, h1]; exact jstL f (a, b) c
theorem jst_days (f : List (Int × Int)) (a : Int) : ∀ (m : Nat), ((rg a (a + (m + 1 : Nat))).map fun d => (d, d + 1)).foldl jst f = jst f (a, a + (m + 1 : Nat))
  | 0 => by
    have : rg a (a + (0 + 1 : Nat)) = [a] := by
      show rg a (a + 1) = [a]
      rw [rg_succ (Int.le_refl a), rg_nil (Int.le_refl a)]; rfl
    rw [this]; rfl
  | m + 1 => by
    have e : a + ((m + 1 + 1 : Nat) : Int) = a + ((m + 1 : Nat) : Int) + 1 := by omega
    rw [e, rg_succ (by omega), List.map_append, List.foldl_append, jst_days f a m]
    exact jst_jst f a _ _
theorem jst_span (f : List (Int × Int)) {a b : Int} (h : a < b) : ((rg a b).map fun d => (d, d + 1)).foldl jst f = jst f (a, b) := by
  have e : b = a + (((b - a).toNat - 1 + 1 : Nat) : Int) := by omega
  rw [e]; exact jst_days f a _
theorem join_days : ∀ (G : List (Int × Int)) (f : List (Int × Int)), (∀ q ∈ G, q.1 < q.2) → (((G.flatMap fun q => rg q.1 q.2).map fun d => (d, d + 1))).foldl jst f = G.foldl jst f
  | [], _, _ => rfl
  | q :: G, f, h => by
    rw [List.flatMap_cons, List.map_append, List.foldl_append, jst_span f (h q List.mem_cons_self), join_days G _ fun y hy => h y (List.mem_cons_of_mem _ hy)]; rfl
theorem rg_split {a b c : Int} (h1 : a ≤ b) (h2 : b ≤ c) : rg a c = rg a b ++ rg b c := by
  refine srt_ext (srt_rg _ _) ?_ fun x => ?_
  · show ((rg a b) ++ (rg b c)).Pairwise (· < ·)
    rw [List.pairwise_append]
    refine ⟨srt_rg _ _, srt_rg _ _, fun x hx y hy => ?_⟩
    rw [mem_rg] at hx hy; omega
  · rw [List.mem_append, mem_rg, mem_rg, mem_rg]; omega
theorem filt_all {p : Int → Bool} {xs : List Int} (h : ∀ x ∈ xs, p x = true) : xs.filter p = xs := List.filter_eq_self.mpr h
theorem filt_none {p : Int → Bool} {xs : List Int} (h : ∀ x ∈ xs, p x = false) : xs.filter p = [] := List.filter_eq_nil_iff.mpr fun x hx => by rw [h x hx]; simp
theorem jst_len (f : List (Int × Int)) (q : Int × Int) : (jst f q).length ≤ f.length + 1 := by
  unfold jst
  split
  · split <;> simp
  · simp
theorem jst_lens (L : List (Int × Int)) : ∀ f, (L.foldl jst f).length ≤ f.length + L.length := by
  induction L with
  | nil => exact fun f => Nat.le_refl _
  | cons q L ih =>
    intro f
    have := ih (jst f q)
    have := jst_len f q
    rw [List.foldl_cons, List.length_cons]; omega
theorem cut_last {xs : List PV} : cutL xs none (some (-1)) = xs.dropLast := by
  unfold cutL cutN
  simp only
  rw [if_pos (by decide), List.dropLast_eq_take]
  simp
  congr 1
  omega
theorem ev_jst {Φ : Fns} {ρ : Envi} {a b c : CE} {f : List (Int × Int)} {x y : Int} (hf : f.length ≤ 1000) (ha : ev Φ a ρ D = some (.lst (f.map pv2), D)) (hb : ev Φ b ρ D = some (.int x, D)) (hc : ev Φ c ρ D = some (.int y, D)) :
    ev Φ (.ite (.and_ (.cons (.cmp .ne a (.lst .nil)) (.cons (.cmp .eq (.idx (.idx a (.neg (.int 1))) (.int 1)) b) .nil))) (.bin .add (.cut a .nil (.cons (.neg (.int 1)) .nil)) (.lst (.cons (.tup (.cons (.idx (.idx a (.neg (.int 1))) (.int 0)) (.cons c .nil))) .nil))) (.bin .add a (.lst (.cons (.tup (.cons b (.cons c .nil))) .nil)))) ρ D = some (.lst ((jst f (x, y)).map pv2), D) := by
  have ng : pNeg (.int 1) = some (.int (-1)) := rfl
  have ad : ∀ (f : List (Int × Int)) (u w : Int), f.length ≤ 1000 → pBin .add (.lst (f.map pv2)) (.lst [.tup [.int u, .int w]]) = some (.lst ((f ++ [(u, w)]).map pv2)) := fun f u w h => by
    rw [lst_add (by simp; omega)]; simp [pv2]
  have p0 : ∀ w : Int × Int, pIdx (pv2 w) (.int 0) = some (.int w.1) := fun w => rfl
  have p1 : ∀ w : Int × Int, pIdx (pv2 w) (.int 1) = some (.int w.2) := fun w => rfl
  have po : ∀ w : Int × Int, opd D (pv2 w) = some (pv2 w) := fun w => rfl
  cases e : f.getLast? with
  | none =>
    have hf0 : f = [] := by simpa using e
    subst hf0
    have := ad [] x y (by simp)
    simp at this ha
    have n0 : pEq (.lst []) (.lst []) = some true := rfl
    simp [ha, hb, hc, pCmp, this, jst, n0, pv2]
  | some w =>
    have hne : f ≠ [] := fun z => by rw [z] at e; cases e
    have il := ix_last pv2 e
    have ne : pCmp .ne (.lst (f.map pv2)) (.lst []) = some true := by
      show (pEq _ _).map _ = _
      rw [pEq_lst2N]; simp [hne]
    have hd : (f.map pv2).dropLast = f.dropLast.map pv2 := by rw [List.map_dropLast]
    have a1 := ad f x y hf
    have a2 := ad f.dropLast w.1 y (by simp; omega)
    have hj : jst f (x, y) = if w.2 = x then f.dropLast ++ [(w.1, y)] else f ++ [(x, y)] := by unfold jst; rw [e]
    rw [hj]
    have il1 : ev Φ (.idx a (.neg (.int 1))) ρ D = some (pv2 w, D) := by simp [ha, ng, il]
    have i1 : ev Φ (.idx (.idx a (.neg (.int 1))) (.int 1)) ρ D = some (.int w.2, D) := by rw [ev_idx, il1]; simp [p1, po]
    have i0 : ev Φ (.idx (.idx a (.neg (.int 1))) (.int 0)) ρ D = some (.int w.1, D) := by rw [ev_idx, il1]; simp [p0, po]
    have t : ev Φ (.and_ (.cons (.cmp .ne a (.lst .nil)) (.cons (.cmp .eq (.idx (.idx a (.neg (.int 1))) (.int 1)) b) .nil))) ρ D = some (.bl (w.2 == x), D) := by
      rw [ev_and, evand_cons, ev_cmp, ha, Option.bind_some]
      simp only [ev_lst, evs_nil, Option.map_some, Option.bind_some, opd_lst, ne, blOf_bl, if_true]
      rw [evand_one, ev_cmp, i1, Option.bind_some, hb]
      simp [pCmp]
    rw [ev_ite, t, Option.bind_some, blOf_bl, Option.bind_some]
    by_cases hw : w.2 = x
    · rw [if_pos hw, if_pos (by simpa using hw)]
      have cu : ev Φ (.cut a .nil (.cons (.neg (.int 1)) .nil)) ρ D = some (.lst (f.dropLast.map pv2), D) := by
        rw [ev_cut, ha]
        simp only [Option.bind_some, evo_nil, evo_one, ev_neg, ev_int, ng, Option.map_some, intOf_int, pCut_lst, cut_last, hd]
      rw [ev_bin, cu, Option.bind_some, ev_lst, evs_cons, ev_tup, evs_cons, i0]
      simp only [Option.bind_some, evs_cons, hc, evs_nil, Option.map_some, a2]
    · rw [if_neg hw, if_neg (by simpa using hw)]
      rw [ev_bin, ha, Option.bind_some, ev_lst, evs_cons, ev_tup, evs_cons, hb]
      simp only [Option.bind_some, evs_cons, hc, evs_nil, Option.map_some, a1]
theorem flat_len {α β : Type} (f : α → List β) (c : Nat) : ∀ xs : List α, (∀ x ∈ xs, (f x).length ≤ c) → (xs.flatMap f).length ≤ xs.length * c
  | [], _ => by simp
  | x :: xs, h => by
    have := flat_len f c xs fun y hy => h y (List.mem_cons_of_mem _ hy)
    have := h x List.mem_cons_self
    rw [List.flatMap_cons, List.length_append, List.length_cons, Nat.add_mul]; omega
theorem ET_shp (r : List Int) : shp DEP (ET r) = true := shp_ET
theorem pEq_rows {rows : List (List Int)} : pEq (.lst (rows.map ET)) (.lst []) = some (decide (rows = [])) := by
  show (if (shp DEP (.lst (rows.map ET)) && shp DEP (.lst [])) = true then some (peq (.lst (rows.map ET)) (.lst [])) else none) = _
  have : shp DEP (.lst (rows.map ET)) = true := by
    show (rows.map ET).all (shp 19) = true
    rw [List.all_map, List.all_eq_true]
    exact fun r _ => shp_ET
  rw [this]
  cases rows <;> simp [peq, peqs, shp]
def arow (rows : List (List Int)) (m : Int) : List (List Int) := rows.flatMap fun r => (rg 0 m).map fun k => r ++ [k]
def kc (q : Int × List Int) : PV := .tup [.int q.1, ET q.2]
theorem kc_C (L : List (Int × List Int)) : Cmp (L.map kc) := by
  refine Cmp.of L (fun r => ?_) (fun r => ?_) fun a b => by simp [kc, cmpOk, cmpOkL, cmpL_ints]
  · have : gd (ET r.2) = true := gdL_ints r.2
    simp [kc, gd, gdL, this] <;> exact gdL_ints r.2
  · show (shp 19 (.int r.1) && (shp 19 (ET r.2) && true)) = true
    rw [shp_ET]; simp
theorem kc_lt {a b : Int × List Int} (h : plt (kc a) (kc b) = false) : b.1 ≤ a.1 := by
  by_cases h2 : a.1 < b.1
  · exfalso
    have : ¬ (peq (.int a.1) (.int b.1) = true) := by rw [peq_int]; simp; omega
    simp only [kc, plt, pltL] at h
    rw [if_neg this] at h
    exact absurd h2 (of_decide_eq_false h)
  · omega
theorem min_kc {L : List (Int × List Int)} (h : L ≠ []) : ∃ q ∈ L, pMin (L.map kc) = some (kc q) ∧ ∀ y ∈ L, q.1 ≤ y.1 := by
  obtain ⟨v, h1, h2, h3⟩ := pMin_ok (kc_C L) (by simpa using h)
  obtain ⟨q, hq, rfl⟩ := List.mem_map.mp h2
  exact ⟨q, hq, h1, fun y hy => kc_lt (h3 _ (List.mem_map.mpr ⟨y, hy, rfl⟩))⟩
/-! ### pairs in order -/
theorem pv2_C (L : List (Int × Int)) : Cmp (L.map pv2) := by
  refine Cmp.of L (fun r => ?_) (fun r => ?_) fun a b => by simp [pv2, cmpOk, cmpOkL]
  · simp [pv2, gd, gdL]
  · show (shp 19 (.int r.1) && (shp 19 (.int r.2) && true)) = true
    simp
theorem sort_ex (L : List (Int × Int)) : ∃ S : List (Int × Int), pSort (L.map pv2) = some (S.map pv2) ∧ S.Perm L ∧ S.Pairwise fun a b => ¬ lexlt b a := by
  have ht : srtOk (L.map pv2) = true := by
    unfold srtOk
    rw [Bool.or_eq_true]
    exact .inl (List.all_eq_true.mpr fun x hx => by
      obtain ⟨r, _, rfl⟩ := List.mem_map.mp hx; rfl)
  obtain ⟨s, e, hp, hw⟩ := pSort_ok (pv2_C L) ht
  have : ∀ t : List PV, (∀ x ∈ t, x ∈ L.map pv2) → ∃ S : List (Int × Int), t = S.map pv2 := fun t => by
    induction t with
    | nil => exact fun _ => ⟨[], rfl⟩
    | cons x t ih =>
      intro h
      obtain ⟨S, rfl⟩ := ih fun y hy => h y (List.mem_cons_of_mem _ hy)
      obtain ⟨q, _, rfl⟩ := List.mem_map.mp (h x List.mem_cons_self)
      exact ⟨q :: S, rfl⟩
  obtain ⟨S, rfl⟩ := this s fun x hx => hp.mem_iff.mp hx
  have inj : ∀ a b : Int × Int, pv2 a = pv2 b → a = b := fun a b h => by
    have := congrArg (fun v => (pIdx v (.int 0), pIdx v (.int 1))) h
    simp only [pv2] at this
    have h1 : (PV.int a.1) = .int b.1 := by
      have := (Prod.mk.injEq _ _ _ _ ▸ this).1
      exact Option.some.inj this
    have h2 : (PV.int a.2) = .int b.2 := by
      have := (Prod.mk.injEq _ _ _ _ ▸ this).2
      exact Option.some.inj this
    exact Prod.ext (by injection h1) (by injection h2)
  refine ⟨S, e, ?_, ?_⟩
  · have hinv : ∀ (S L : List (Int × Int)), (S.map pv2).Perm (L.map pv2) → S.Perm L := fun S L h => by
      have g := h.map fun x => match x with
        | .tup [.int a, .int b] => (a, b)
        | _ => (0, 0)
      rw [List.map_map, List.map_map] at g
      have e : ((fun x => match x with
        | PV.tup [.int a, .int b] => (a, b)
        | _ => ((0 : Int), (0 : Int))) ∘ pv2) = id := by funext q; rfl
      rw [e, List.map_id, List.map_id] at g
      exact g
    exact hinv S L hp
  · rw [List.pairwise_map] at hw
    exact hw.imp fun {a b} h => by
      rw [plt_pv2] at h
      exact of_decide_eq_false h
/-- the pairs sorted -/
noncomputable def srtP (L : List (Int × Int)) : List (Int × Int) := (sort_ex L).choose
theorem srtP_eq (L : List (Int × Int)) : pSort (L.map pv2) = some ((srtP L).map pv2) := (sort_ex L).choose_spec.1
theorem srtP_perm (L : List (Int × Int)) : (srtP L).Perm L := (sort_ex L).choose_spec.2.1
theorem srtP_pw (L : List (Int × Int)) : (srtP L).Pairwise fun a b => ¬ lexlt b a := (sort_ex L).choose_spec.2.2
theorem pSorted_pairs (L : List (Int × Int)) : pBi .sorted [.lst (L.map pv2)] = some (.lst ((srtP L).map pv2)) := by
  show (pSort (L.map pv2)).map PV.lst = _
  rw [srtP_eq]; rfl
/-! ### tables of ints by ints -/
def lk (as : List (Int × Int)) (k : Int) : Option Int := (as.find? fun p => decide (p.1 = k)).map (·.2)
def kvI (as : List (Int × Int)) : List (PV × PV) := as.map fun p => (PV.int p.1, PV.int p.2)
theorem lk_none {as : List (Int × Int)} {k : Int} : lk as k = none ↔ k ∉ as.map (·.1) := by
  unfold lk
  rw [Option.map_eq_none_iff, List.find?_eq_none]
  constructor
  · intro h hm
    obtain ⟨p, hp, e⟩ := List.mem_map.mp hm
    exact h p hp (decide_eq_true e)
  · exact fun h p hp e => h (List.mem_map.mpr ⟨p, hp, of_decide_eq_true e⟩)
theorem lk_app {as : List (Int × Int)} {k t j : Int} (h : lk as k = none) : lk (as ++ [(k, t)]) j = if j = k then some t else lk as j := by
  unfold lk at *
  rw [List.find?_append]
  by_cases c : j = k
  · subst c
    rw [if_pos rfl, Option.map_eq_none_iff.mp h]
    simp
  · rw [if_neg c]
    have : ([(k, t)].find? fun p => decide (p.1 = j)) = none := by
      have : ¬ k = j := fun e => c e.symm
      simp [this]
    rw [this, Option.or_none]
theorem lk_mem {as : List (Int × Int)} {k t : Int} (h : lk as k = some t) : (k, t) ∈ as := by
  unfold lk at h
  obtain ⟨p, h1, h2⟩ := Option.map_eq_some_iff.mp h
  have := List.find?_some h1
  have := of_decide_eq_true this
  subst this; subst h2
  exact List.mem_of_find?_eq_some h1
theorem lk_of_mem {as : List (Int × Int)} {k t : Int} (hn : (as.map (·.1)).Nodup) (h : (k, t) ∈ as) : lk as k = some t := by
  induction as with
  | nil => cases h
  | cons p as ih =>
    rw [List.map_cons, List.nodup_cons] at hn
    unfold lk
    rcases List.mem_cons.mp h with rfl | h
    · simp
    · have : ¬ p.1 = k := fun e => hn.1 (by rw [e]; exact List.mem_map.mpr ⟨_, h, rfl⟩)
      rw [List.find?_cons_of_neg (by simpa using this)]
      exact ih hn.2 h
theorem dGet_I (as : List (Int × Int)) (k : Int) : dGet (.int k) (kvI as) = (lk as k).map .int := by
  induction as with
  | nil => rfl
  | cons p as ih =>
    show (if peq (.int p.1) (.int k) then some (PV.int p.2) else dGet (.int k) (kvI as)) = _
    unfold lk
    rw [peq_int, ih]
    by_cases c : p.1 = k
    · simp [c]
    · rw [if_neg (by simpa using c), List.find?_cons_of_neg (by simpa using c)]; rfl
theorem dPut_I {as : List (Int × Int)} {k t : Int} (h : lk as k = none) : dPut (.int k) (.int t) (kvI as) = kvI (as ++ [(k, t)]) := by
  unfold dPut
  have : ((kvI as).any fun p => peq p.1 (.int k)) = false := by
    unfold kvI
    rw [List.any_map, List.any_eq_false]
    intro p hp
    show ¬ peq (.int p.1) (.int k) = true
    rw [peq_int]
    intro e
    rw [beq_iff_eq] at e
    exact lk_none.mp h (List.mem_map.mpr ⟨p, hp, e⟩)
  rw [if_neg (by rw [this]; simp)]
  simp [kvI]
theorem dMerge_I : ∀ (fx acc : List (Int × Int)), ((acc ++ fx).map (·.1)).Nodup → dMerge (kvI acc) (kvI fx) = kvI (acc ++ fx)
  | [], acc, _ => by rw [List.append_nil]; rfl
  | p :: fx, acc, h => by
    have hk : lk acc p.1 = none := lk_none.mpr fun hm => by
      rw [List.map_append, List.nodup_append] at h
      exact h.2.2 p.1 hm p.1 (by simp) rfl
    show dMerge (dPut (.int p.1) (.int p.2) (kvI acc)) (kvI fx) = _
    rw [dPut_I hk, dMerge_I fx (acc ++ [p]) (by simpa using h)]
    simp
theorem dict_I {fx : List (Int × Int)} (h : (fx.map (·.1)).Nodup) : pBi .dict [.lst (fx.map pv2)] = some (.dct 0 (kvI fx)) := by
  have m : ∀ fx : List (Int × Int), mapO pairOf (fx.map pv2) = some (kvI fx) := fun fx => by
    induction fx with
    | nil => rfl
    | cons p t ih => rw [List.map_cons, mapO_cons, ih]; rfl
  have a : ((kvI fx).all fun p => isKey 0 p.1) = true := by
    unfold kvI
    rw [List.all_map, List.all_eq_true]; intro x _; rfl
  show ((mapO pairOf _).bind _) = _
  rw [m, Option.bind_some, if_pos a]
  have := dMerge_I fx [] (by simpa using h)
  rw [show dMerge [] (kvI fx) = dMerge (kvI []) (kvI fx) from rfl, this]; rfl
/-! ### the first that is free, and no doubles -/
theorem nodup_len : ∀ {ks ns : List Int}, ks.Nodup → (∀ x ∈ ks, x ∈ ns) → ks.length ≤ ns.length
  | [], _, _, _ => Nat.zero_le _
  | x :: ks, ns, h, hm => by
    have hx := hm x List.mem_cons_self
    rw [List.nodup_cons] at h
    have := nodup_len (ns := ns.erase x) h.2 fun y hy => (List.mem_erase_of_ne (by rintro rfl; exact h.1 hy)).mpr (hm y (List.mem_cons_of_mem _ hy))
    rw [List.length_erase_of_mem hx] at this
    have : 0 < ns.length := List.length_pos_of_mem hx
    rw [List.length_cons]; omega
theorem nodup_of_len : ∀ {ks ns : List Int}, ks.Nodup → (∀ x ∈ ks, x ∈ ns) → ks.length = ns.length → ns.Nodup
  | [], [], _, _, _ => List.nodup_nil
  | [], _ :: _, _, _, h => by cases h
  | x :: ks, ns, h, hm, hl => by
    have hx := hm x List.mem_cons_self
    have h' := List.nodup_cons.mp h
    have hsub : ∀ y ∈ ks, y ∈ ns.erase x := fun y hy => (List.mem_erase_of_ne (by rintro rfl; exact h'.1 hy)).mpr (hm y (List.mem_cons_of_mem _ hy))
    have hel := List.length_erase_of_mem hx
    have hp : 0 < ns.length := List.length_pos_of_mem hx
    rw [List.length_cons] at hl
    have e := nodup_of_len (ns := ns.erase x) h'.2 hsub (by omega)
    have hx2 : x ∉ ns.erase x := fun hx2 => by
      have := nodup_len (ks := x :: ks) (ns := ns.erase x) h fun y hy => by
        rcases List.mem_cons.mp hy with rfl | hy
        · exact hx2
        · exact hsub y hy
      rw [List.length_cons] at this; omega
    exact (List.perm_cons_erase hx).nodup_iff.mpr (List.nodup_cons.mpr ⟨hx2, e⟩)
def fre (T : Int) (L : List Int) : List Int := (rg 0 T).filter fun t => !decide (t ∈ L)
theorem srt_nodup {L : List Int} (h : Srt L) : L.Nodup := h.imp fun {a b} h e => by omega
theorem fre_ne {T : Int} {L : List Int} (h : (L.length : Int) < T) : fre T L ≠ [] := fun z => by
  have := nodup_len (ks := rg 0 T) (ns := L) (srt_nodup (srt_rg _ _)) fun x hx => by
    have := List.filter_eq_nil_iff.mp z x hx
    simpa using this
  rw [rg_len] at this
  omega
theorem fm_lt {α β : Type} {f : α → Option β} : ∀ {L : List α} {x : α}, x ∈ L → f x = none → (L.filterMap f).length < L.length
  | y :: L, x, hx, h => by
    have hle := List.length_filterMap_le f L
    rcases List.mem_cons.mp hx with e | hx
    · rw [List.filterMap_cons_none (by rw [← e]; exact h), List.length_cons]; omega
    · have ih := fm_lt hx h
      cases q : f y with
      | none => rw [List.filterMap_cons_none q, List.length_cons]; omega
      | some z => rw [List.filterMap_cons_some q, List.length_cons, List.length_cons]; omega
/-- a loop over rows that ends early when none is left -/
theorem early {α β : Type} (f : List α → β → List α) (w : PV) (hf : ∀ x, f [] x = []) : ∀ (xs : List β) (s : List α), s ≠ [] → match xs.foldlM (fun s x => if f s x = [] then (.error w : Except PV (List α)) else .ok (f s x)) s with
    | .ok t => t = xs.foldl f s ∧ t ≠ []
    | .error v => v = w ∧ xs.foldl f s = []
  | [], s, h => ⟨rfl, h⟩
  | x :: xs, s, h => by
    have nil : ∀ xs : List β, xs.foldl f [] = [] := fun xs => by
      induction xs with
      | nil => rfl
      | cons x xs ih => rw [List.foldl_cons, hf, ih]
    rw [List.foldlM_cons, List.foldl_cons]
    by_cases c : f s x = []
    · rw [if_pos c, c, nil]
      exact ⟨rfl, rfl⟩
    · rw [if_neg c]
      exact early f w hf xs (f s x) c
theorem evi_rng_len {Φ : Fns} {ρ : Envi} {e : CE} {xs : List PV} (h : ev Φ e ρ D = some (.lst xs, D)) (hl : xs.length ≤ 1000) : evi Φ (.rng1 (.bi .len (.cons e .nil))) ρ D = some ((rg 0 xs.length).map .int, D) := by
  simp [h, rngOk_of (a := 0) (b := xs.length) (by omega) (by omega) (by omega) (by omega), rngL_rg]
theorem chgO_of {f : PV → Option PV} {i : Nat} {x : PV} {ρ : Envi} (h : ρ[i]? = some (some (true, x))) : chgO f i ρ D = (f x).map fun y => (ρ.set i (some (true, y)), D) := by
  unfold chgO; rw [h]
theorem chg_of {f : PV → Option PV} {i : Nat} {x : PV} {ρ : Envi} (h : ρ[i]? = some (some (true, x))) : chg f i ρ D = (f x).map fun y => (ρ.set i (some (true, y)), D) := by
  unfold chg; rw [h]
theorem any_bl {α : Type} (p : α → Bool) (L : List α) : pBi .any [.lst (L.map fun i => .bl (p i))] = some (.bl (L.any p)) := by
  show ((mapO blOf _).map _) = _
  have : mapO blOf (L.map fun i => PV.bl (p i)) = some (L.map p) := by
    induction L with
    | nil => rfl
    | cons a t ih => rw [List.map_cons, mapO_cons, ih]; rfl
  rw [this]
  simp [List.any_map]
end
end MP

/-! MP tm: for the turns of a law: slots kept, statements one by one, draws in comprehensions. -/
namespace MP
open PySem
section
variable {Φ : Fns} {ρ ρ1 : Envi} {D D1 : DS}
/-- nothing but these slots has changed -/
def Kp (L : List Nat) (ρ ρ' : Envi) : Prop := ρ'.length = ρ.length ∧ ∀ j, j ∉ L → getS ρ' j = getS ρ j
theorem Kp.refl (L : List Nat) (ρ : Envi) : Kp L ρ ρ := ⟨rfl, fun _ _ => rfl⟩
theorem Kp.trans {L : List Nat} {ρ ρ' ρ2 : Envi} (h : Kp L ρ ρ') (h2 : Kp L ρ' ρ2) : Kp L ρ ρ2 := ⟨h2.1.trans h.1, fun j hj => (h2.2 j hj).trans (h.2 j hj)⟩
theorem Kp.set {L : List Nat} {ρ ρ' : Envi} (h : Kp L ρ ρ') {i : Nat} {x : PV} (hi : i ∈ L := by decide) : Kp L ρ (ρ'.set i (some (false, x))) :=
  ⟨by rw [List.length_set, h.1], fun j hj => by
    have : i ≠ j := fun e => hj (by rw [← e]; exact hi)
    rw [getS_set, if_neg this]; exact h.2 j hj⟩
theorem Kp.setO {L : List Nat} {ρ ρ' : Envi} (h : Kp L ρ ρ') {i : Nat} {x : PV} (hi : i ∈ L := by decide) : Kp L ρ (ρ'.set i (some (true, x))) :=
  ⟨by rw [List.length_set, h.1], fun j hj => by
    have : i ≠ j := fun e => hj (by rw [← e]; exact hi)
    rw [getS_setO, if_neg this]; exact h.2 j hj⟩
theorem Kp.get {L : List Nat} {ρ ρ' : Envi} (h : Kp L ρ ρ') {j : Nat} {x : PV} (g : getS ρ j = some x) (hj : j ∉ L := by decide) : getS ρ' j = some x := (h.2 j hj).trans g
theorem go {s : CS} {r : CSs} {Q : Envi → DS → Prop} (h : ex Φ s ρ D = some (.nx, ρ1, D1)) (k : ∃ ρ' D', exs Φ r ρ1 D1 = some (.nx, ρ', D') ∧ Q ρ' D') : ∃ ρ' D', exs Φ (.cons s r) ρ D = some (.nx, ρ', D') ∧ Q ρ' D' := by
  rw [xs_nx h]; exact k
theorem gof {r : CSs} {Q : Envi → DS → Prop} {i : Nat} {v : PV} (h : getS ρ i = some v) (k : ∃ ρ' D', exs Φ r ρ D = some (.nx, ρ', D') ∧ Q ρ' D') : ∃ ρ' D', exs Φ (.frz [i] r) ρ D = some (.nx, ρ', D') ∧ Q ρ' D' := by
  rw [exs_frz, frz_of h]; exact k
theorem bor_own {i : Nat} {x : PV} (h : ρ[i]? = some (some (true, x))) : borS ρ i = some x := by
  unfold borS; rw [h]
theorem ex_forP {α σ : Type} {b : CSs} {p : Pat} {it : CI} (enc : α → PV) (xs : List α) (R : σ → Envi → Prop) (step : σ → α → σ) (s0 : σ) (hi : evi Φ it ρ D = some (xs.map enc, D)) (h0 : R s0 ρ)
    (H : ∀ pre x post ρ, xs = pre ++ x :: post → R (pre.foldl step s0) ρ → ∃ o ρ', ((bindP p (enc x) ρ).bind fun ρ1 => exs Φ b ρ1 D) = some (o, ρ', D) ∧ (o = .nx ∨ o = .ct) ∧ R (step (pre.foldl step s0) x) ρ') : ∃ ρ', ex Φ (.for_ p it b) ρ D = some (.nx, ρ', D) ∧ R (xs.foldl step s0) ρ' := by
  obtain ⟨ρ1, e1, h1⟩ := forP (f := fun x ρ D => (bindP p x ρ).bind fun ρ1 => exs Φ b ρ1 D) enc R step s0 xs xs [] ρ rfl h0 H
  exact ⟨ρ1, by rw [ex_for, hi, Option.bind_some]; exact e1, h1⟩
/-- a comprehension that draws one thing for each item -/
theorem lcX {α : Type} {own : List Nat} {ce : CE} {pt : Pat} {ci : CI} {ct : CEs} {xs : List PV} {D0 : DS} (f : α → PV) (Q : α → Prop) (h : Wst D) (hi : evi Φ ci ρ D0 = some (xs, D)) (H : ∀ x ∈ xs, ∀ D, Wst D → ∃ (y : α) (D' : DS), st1 Φ own ce pt ct ρ x D = some ([f y], D') ∧ Wst D' ∧ Q y) :
    ∃ (ms : List α) (D' : DS), ev Φ (.lc1 own ce pt ci ct) ρ D0 = some (.lst (ms.map f), D') ∧ Wst D' ∧ ms.length = xs.length ∧ ∀ m ∈ ms, Q m := by
  have key : ∀ (xs : List PV) (D : DS), Wst D → (∀ x ∈ xs, ∀ D, Wst D → ∃ (y : α) (D' : DS), st1 Φ own ce pt ct ρ x D = some ([f y], D') ∧ Wst D' ∧ Q y) → ∃ (ms : List α) (D' : DS), lcF (st1 Φ own ce pt ct ρ) xs D = some (ms.map f, D') ∧ Wst D' ∧ ms.length = xs.length ∧ ∀ m ∈ ms, Q m := by
    intro xs
    induction xs with
    | nil => exact fun D h _ => ⟨[], D, rfl, h, rfl, by simp⟩
    | cons x xs ih =>
      intro D h H
      obtain ⟨y, D1, e1, h1, hq⟩ := H x List.mem_cons_self D h
      obtain ⟨ms, D2, e2, h2, hl, hQ⟩ := ih D1 h1 fun m hm => H m (List.mem_cons_of_mem _ hm)
      refine ⟨y :: ms, D2, ?_, h2, by rw [List.length_cons, List.length_cons, hl], fun m hm => ?_⟩
      · rw [lcF, e1, Option.bind_some, e2]; rfl
      · rcases List.mem_cons.mp hm with rfl | hm
        · exact hq
        · exact hQ m hm
  obtain ⟨ms, D', e, h1, h2, h3⟩ := key xs D h H
  refine ⟨ms, D', ?_, h1, h2, h3⟩
  rw [ev_lc1, hi, Option.bind_some, e]; rfl
/-- .. that draws whether and what, for keys -/
theorem lcK {own : List Nat} {ce : CE} {pt : Pat} {ci : CI} {ct : CEs} {ns : List Int} {D0 : DS} (Q : Int × Int → Prop) (h : Wst D) (hi : evi Φ ci ρ D0 = some (ns.map .int, D)) (H : ∀ x ∈ ns, ∀ D, Wst D → ∃ (l : List (Int × Int)) (D' : DS), st1 Φ own ce pt ct ρ (.int x) D = some (l.map pv2, D') ∧ Wst D' ∧ (l = [] ∨ ∃ t, l = [(x, t)] ∧ Q (x, t))) :
    ∃ (fx : List (Int × Int)) (D' : DS), ev Φ (.lc1 own ce pt ci ct) ρ D0 = some (.lst (fx.map pv2), D') ∧ Wst D' ∧ (fx.map (·.1)).Sublist ns ∧ ∀ m ∈ fx, Q m := by
  have key : ∀ (ns : List Int) (D : DS), Wst D → (∀ x ∈ ns, ∀ D, Wst D → ∃ (l : List (Int × Int)) (D' : DS), st1 Φ own ce pt ct ρ (.int x) D = some (l.map pv2, D') ∧ Wst D' ∧ (l = [] ∨ ∃ t, l = [(x, t)] ∧ Q (x, t))) → ∃ (fx : List (Int × Int)) (D' : DS), lcF (st1 Φ own ce pt ct ρ) (ns.map .int) D = some (fx.map pv2, D') ∧ Wst D' ∧ (fx.map (·.1)).Sublist ns ∧ ∀ m ∈ fx, Q m := by
    intro ns
    induction ns with
    | nil => exact fun D h _ => ⟨[], D, rfl, h, List.Sublist.refl _, by simp⟩
    | cons x ns ih =>
      intro D h H
      obtain ⟨l, D1, e1, h1, hq⟩ := H x List.mem_cons_self D h
      obtain ⟨fx, D2, e2, h2, hs, hQ⟩ := ih D1 h1 fun m hm => H m (List.mem_cons_of_mem _ hm)
      refine ⟨l ++ fx, D2, ?_, h2, ?_, fun m hm => ?_⟩
      · rw [List.map_cons, lcF, e1, Option.bind_some, e2, List.map_append]; rfl
      · rcases hq with rfl | ⟨t, rfl, _⟩
        · exact hs.cons _
        · exact hs.cons₂ _
      · rcases List.mem_append.mp hm with hm | hm
        · rcases hq with rfl | ⟨t, rfl, ht⟩
          · cases hm
          · rw [List.mem_singleton.mp hm]; exact ht
        · exact hQ m hm
  obtain ⟨fx, D', e, h1, h2, h3⟩ := key ns D h H
  refine ⟨fx, D', ?_, h1, h2, h3⟩
  rw [ev_lc1, hi, Option.bind_some, e]; rfl
/-- two values asked whether they are alike -/
theorem chkE {c : Nat} {a b : CE} {v : PV} (ak : Φ c [v, v] D = some (.bl true, D)) (hA : ev Φ a ρ D = some (v, D)) (hB : ev Φ b ρ D = some (v, D)) : ev Φ (.not_ (.call c (.cons a (.cons b .nil)))) ρ D = some (.bl false, D) := by
  simp [hA, hB, ak]
theorem chkS {c : Nat} {a b : CE} {v : PV} {s : CSs} (ak : Φ c [v, v] D = some (.bl true, D)) (hA : ev Φ a ρ D = some (v, D)) (hB : ev Φ b ρ D = some (v, D)) : ex Φ (.ife (.not_ (.call c (.cons a (.cons b .nil)))) s .nil) ρ D = some (.nx, ρ, D) := by
  rw [ex_ife, chkE ak hA hB]; rfl
theorem ev_vr {i : Nat} {v : PV} (h : getS ρ i = some v) : ev Φ (.var i) ρ D = some (v, D) := by rw [ev_var, h]; rfl
theorem ev_br {i : Nat} {v : PV} (h : borS ρ i = some v) : ev Φ (.bor i) ρ D = some (v, D) := by rw [ev_bor, h]; rfl
/-- calls with one to four arguments -/
theorem ev_c1 {g : Nat} {a : CE} {x v : PV} {D2 : DS} (h : ev Φ a ρ D = some (x, D1)) (hv : Φ g [x] D1 = some (v, D2)) : ev Φ (.call g (.cons a .nil)) ρ D = some (v, D2) := by
  rw [ev_call, evs_cons, h]
  simp only [evs_nil, Option.bind_some, Option.map_some]
  exact hv
theorem ev_c2 {g : Nat} {a b : CE} {x y v : PV} {D2 D3 : DS} (h : ev Φ a ρ D = some (x, D1)) (h2 : ev Φ b ρ D1 = some (y, D2)) (hv : Φ g [x, y] D2 = some (v, D3)) : ev Φ (.call g (.cons a (.cons b .nil))) ρ D = some (v, D3) := by
  rw [ev_call, evs_cons, h, Option.bind_some, evs_cons, h2]
  simp only [evs_nil, Option.bind_some, Option.map_some]
  exact hv
theorem ev_c3 {g : Nat} {a b c : CE} {x y z v : PV} (h : ev Φ a ρ D = some (x, D)) (h2 : ev Φ b ρ D = some (y, D)) (h3 : ev Φ c ρ D = some (z, D)) (hv : Φ g [x, y, z] D = some (v, D1)) : ev Φ (.call g (.cons a (.cons b (.cons c .nil)))) ρ D = some (v, D1) := by
  rw [ev_call, evs_cons, h, Option.bind_some, evs_cons, h2, Option.bind_some, evs_cons, h3]
  simp only [evs_nil, Option.bind_some, Option.map_some]
  exact hv
theorem ev_c4 {g : Nat} {a b c d : CE} {x y z w v : PV} (h : ev Φ a ρ D = some (x, D)) (h2 : ev Φ b ρ D = some (y, D)) (h3 : ev Φ c ρ D = some (z, D)) (h4 : ev Φ d ρ D = some (w, D)) (hv : Φ g [x, y, z, w] D = some (v, D1)) : ev Φ (.call g (.cons a (.cons b (.cons c (.cons d .nil))))) ρ D = some (v, D1) := by
  rw [ev_call, evs_cons, h, Option.bind_some, evs_cons, h2, Option.bind_some, evs_cons, h3, Option.bind_some, evs_cons, h4]
  simp only [evs_nil, Option.bind_some, Option.map_some]
  exact hv
theorem ev_b1 {f : Bi} {a : CE} {x y v : PV} (h : ev Φ a ρ D = some (x, D1)) (ho : opd D1 x = some y) (hv : pBi f [y] = some v) : ev Φ (.bi f (.cons a .nil)) ρ D = some (v, D1) := by
  rw [ev_bi, evs_cons, h]
  simp only [evs_nil, Option.bind_some, Option.map_some, mapO_cons, mapO_nil, ho, hv]
theorem ev_ix {a b : CE} {x y z v : PV} (h : ev Φ a ρ D = some (x, D)) (h2 : ev Φ b ρ D = some (y, D)) (ho : opd D x = some z) (hv : pIdx z y = some v) : ev Φ (.idx a b) ρ D = some (v, D) := by
  rw [ev_idx, h, Option.bind_some, h2]
  simp only [Option.bind_some, ho, hv, Option.map_some]
theorem ev_t2 {a b : CE} {x y : PV} (h : ev Φ a ρ D = some (x, D)) (h2 : ev Φ b ρ D = some (y, D)) : ev Φ (.tup (.cons a (.cons b .nil))) ρ D = some (.tup [x, y], D) := by
  rw [ev_tup, evs_cons, h, Option.bind_some, evs_cons, h2]; rfl
theorem ev_t3 {a b c : CE} {x y z : PV} (h : ev Φ a ρ D = some (x, D)) (h2 : ev Φ b ρ D = some (y, D)) (h3 : ev Φ c ρ D = some (z, D)) : ev Φ (.tup (.cons a (.cons b (.cons c .nil)))) ρ D = some (.tup [x, y, z], D) := by
  rw [ev_tup, evs_cons, h, Option.bind_some, evs_cons, h2, Option.bind_some, evs_cons, h3]; rfl
theorem ev_bn {op : Bo} {a b : CE} {x y v : PV} (h : ev Φ a ρ D = some (x, D)) (h2 : ev Φ b ρ D = some (y, D)) (hv : pBin op x y = some v) : ev Φ (.bin op a b) ρ D = some (v, D) := by
  rw [ev_bin, h, Option.bind_some, h2]
  simp only [Option.bind_some, hv, Option.map_some]
theorem ev_cm {op : Co} {a b : CE} {x y z : PV} {v : Bool} (h : ev Φ a ρ D = some (x, D)) (h2 : ev Φ b ρ D = some (y, D)) (ho : opd D y = some z) (hv : pCmp op x z = some v) : ev Φ (.cmp op a b) ρ D = some (.bl v, D) := by
  rw [ev_cmp, h, Option.bind_some, h2]
  simp only [Option.bind_some, ho, hv, Option.map_some]
theorem ev_it {c a b : CE} {z : Bool} {v : PV} (h : ev Φ c ρ D = some (.bl z, D)) (h2 : ev Φ (if z then a else b) ρ D = some (v, D1)) : ev Φ (.ite c a b) ρ D = some (v, D1) := by
  rw [ev_ite, h]
  simp only [Option.bind_some, blOf_bl]
  cases z <;> exact h2
theorem ev_nt {a : CE} {z : Bool} (h : ev Φ a ρ D = some (.bl z, D1)) : ev Φ (.not_ a) ρ D = some (.bl (!z), D1) := by
  rw [ev_not, h]; rfl
/-- a test that fails, of two parts -/
theorem ev_o2 {a b : CE} (h : ev Φ a ρ D = some (.bl false, D)) (h2 : ev Φ b ρ D = some (.bl false, D)) : ev Φ (.or_ (.cons a (.cons b .nil))) ρ D = some (.bl false, D) := by
  rw [ev_or, evor_cons, h, Option.bind_some, blOf_bl, Option.bind_some, if_neg (by simp), evor_one, h2]
theorem ex_no {a : CE} {s : CSs} (h : ev Φ a ρ D = some (.bl false, D)) : ex Φ (.ife a s .nil) ρ D = some (.nx, ρ, D) := by
  rw [ex_ife, h]; rfl
theorem ex_as {o : Bool} {i : Nat} {a : CE} {v : PV} (h : ev Φ a ρ D = some (v, D1)) : ex Φ (.asg o i a) ρ D = some (.nx, ρ.set i (some (o, v)), D1) := by
  rw [ex_asg, h]; rfl
end
end MP

namespace MP.K02
open PySem MP
abbrev B := Int × Int
abbrev EB (bs : List B) : PV := .tup (bs.map pv2)
abbrev LB (bs : List B) : PV := .lst (bs.map pv2)
def g (bs : List B) (k : Int) : B := bs.getD k.toNat (0, 0)
structure Bs (bs : List B) : Prop where
  len : bs.length ≤ 6
  ok : ∀ b ∈ bs, 0 ≤ b.1 ∧ b.1 < b.2 ∧ b.2 ≤ 12
section
variable {bs : List B} {n : Nat} {D : DS} {d T : Int}
theorem g_mem {k : Int} (h0 : 0 ≤ k) (h1 : k < bs.length) : bs[k.toNat]? = some (g bs k) ∧ g bs k ∈ bs := by
  have hk : k.toNat < bs.length := by omega
  have e : g bs k = bs[k.toNat] := by
    unfold g
    rw [List.getD_eq_getElem?_getD, List.getElem?_eq_getElem hk] <;> rfl
  rw [e]
  exact ⟨List.getElem?_eq_getElem hk, List.getElem_mem hk⟩
theorem ixb {k : Int} (h0 : 0 ≤ k) (h1 : k < bs.length) : pIdx (EB bs) (.int k) = some (pv2 (g bs k)) := ix_tup pv2 h0 (g_mem h0 h1).1
theorem ixl {k : Int} (h0 : 0 ≤ k) (h1 : k < bs.length) : pIdx (LB bs) (.int k) = some (pv2 (g bs k)) := ix_lst pv2 h0 (g_mem h0 h1).1
@[simp] theorem p0 {u : B} : pIdx (pv2 u) (.int 0) = some (.int u.1) := rfl
@[simp] theorem p1 {u : B} : pIdx (pv2 u) (.int 1) = some (.int u.2) := rfl
@[simp] theorem po {u : B} : opd D (pv2 u) = some (pv2 u) := rfl
theorem Bs.nn (h : Bs bs) {k : Int} (h0 : 0 ≤ k) (h1 : k < bs.length) : 0 ≤ (g bs k).1 ∧ (g bs k).1 < (g bs k).2 ∧ (g bs k).2 ≤ 12 := h.ok _ (g_mem h0 h1).2
/-- booking k is there on day d -/
def on (bs : List B) (d k : Int) : Bool := decide ((g bs k).1 ≤ d) && decide (d < (g bs k).2)
theorem on_iff {k : Int} : on bs d k = true ↔ (g bs k).1 ≤ d ∧ d < (g bs k).2 := by
  unfold on; rw [Bool.and_eq_true, decide_eq_true_iff, decide_eq_true_iff]
def th (bs : List B) (d : Int) : List Int := (rg 0 bs.length).filter (on bs d)
theorem mem_th {k : Int} : k ∈ th bs d ↔ (0 ≤ k ∧ k < bs.length) ∧ on bs d k = true := by
  unfold th; rw [List.mem_filter, mem_rg]
theorem th_len : (th bs d).length ≤ bs.length := by
  unfold th
  refine Nat.le_trans (List.length_filter_le _ _) ?_
  rw [rg_len]; omega
theorem there_on_ok (hl : bs.length ≤ 6) : sem DD (n + 1) 5 [EB bs, .int d] D = some (ET (th bs d), D) := by
  rw [r_f_there_on]
  refine run_ex rfl ?_
  unfold c_f_there_on
  show ∃ ρ', exs _ _ [some (false, EB bs), vI d, none] _ = _
  refine go_ret ?_
  have q := lcP (Φ := sem DD n) (D := D) (ρ := [some (false, EB bs), vI d, none]) (own := [2]) (ce := .var 2) (pt := .nm 2) (ci := .rng1 (.bi .len (.cons (.var 0) .nil))) (ct := .cons (.chn .le .lt (.idx (.idx (.var 0) (.var 2)) (.int 0)) (.var 1) (.idx (.idx (.var 0) (.var 2)) (.int 1))) .nil) PV.int (rg 0 bs.length) (on bs d) PV.int (evi_r1 (by simp [getS]) (by omega) (by omega)) fun k hk => by
    obtain ⟨h0, h1⟩ := mem_rg.mp hk
    unfold on
    by_cases a : (g bs k).1 ≤ d
    · by_cases b : d < (g bs k).2 <;> simp [st1, bindP, wipE, getS, ixb h0 h1, pCmp, a, b]
    · simp [st1, bindP, wipE, getS, ixb h0 h1, pCmp, a]
  simp [q, th]
theorem law_there_ok {X : PV} (hX : X = EB bs ∨ X = LB bs) (hl : bs.length ≤ 6) : sem DD (n + 1) 24 [X, .int d] D = some (.lst ((th bs d).map .int), D) := by
  rw [r_f__law_there]
  refine run_ex rfl ?_
  unfold c_f__law_there
  show ∃ ρ', exs _ _ [some (false, X), vI d, none] _ = _
  refine go_ret ?_
  have hL : ev (sem DD n) (.bi .len (.cons (.var 0) .nil)) [some (false, X), vI d, none] D = some (.int bs.length, D) := by
    rcases hX with rfl | rfl <;> simp [getS]
  have hi : ∀ k : Int, 0 ≤ k → k < bs.length → pIdx X (.int k) = some (pv2 (g bs k)) := fun k h0 h1 => by
    rcases hX with rfl | rfl
    · exact ixb h0 h1
    · exact ixl h0 h1
  have ho : opd D X = some X := by rcases hX with rfl | rfl <;> rfl
  refine lcP (Φ := sem DD n) (D := D) (ρ := [some (false, X), vI d, none]) (own := [2]) (ce := .var 2) (pt := .nm 2) (ci := .rng1 (.bi .len (.cons (.var 0) .nil))) (ct := .cons (.inr (.var 1) (.idx (.idx (.var 0) (.var 2)) (.int 0)) (.idx (.idx (.var 0) (.var 2)) (.int 1))) .nil) PV.int (rg 0 bs.length) (on bs d) PV.int (evi_r1 hL (by omega) (by omega)) fun k hk => ?_
  obtain ⟨h0, h1⟩ := mem_rg.mp hk
  unfold on
  by_cases a : (g bs k).1 ≤ d
  · by_cases b : d < (g bs k).2 <;> simp [st1, bindP, wipE, getS, hi k h0 h1, ho, a, b]
  · simp [st1, bindP, wipE, getS, hi k h0 h1, ho, a]
/-! ### the most on a day -/
def cnt (bs : List B) (d : Int) : Int := (th bs d).length
def mst (bs : List B) : Int := mxf ((rg 0 16).map (cnt bs))
theorem mxf_ok : ∀ (W : List Int), (∀ x ∈ W, x ≤ mxf W) ∧ (mxf W = 0 ∨ mxf W ∈ W) ∧ 0 ≤ mxf W := by
  have key : ∀ (W : List Int) (a : Int), a ≤ W.foldl (fun a y => if a < y then y else a) a ∧ (∀ x ∈ W, x ≤ W.foldl (fun a y => if a < y then y else a) a) ∧ (W.foldl (fun a y => if a < y then y else a) a = a ∨ W.foldl (fun a y => if a < y then y else a) a ∈ W) := fun W => by
    induction W with
    | nil => exact fun a => ⟨Int.le_refl _, fun x hx => absurd hx (by simp), .inl rfl⟩
    | cons y W ih =>
      intro a
      rw [List.foldl_cons]
      obtain ⟨h1, h2, h3⟩ := ih (if a < y then y else a)
      have ha : a ≤ (if a < y then y else a) ∧ y ≤ (if a < y then y else a) := by split <;> omega
      refine ⟨by omega, fun x hx => ?_, ?_⟩
      · rcases List.mem_cons.mp hx with rfl | hx
        · omega
        · exact h2 x hx
      · rcases h3 with h3 | h3
        · rw [h3]
          by_cases c : a < y
          · rw [if_pos c]; exact .inr List.mem_cons_self
          · rw [if_neg c]; exact .inl rfl
        · exact .inr (List.mem_cons_of_mem _ h3)
  intro W
  obtain ⟨h1, h2, h3⟩ := key W 0
  exact ⟨h2, h3, h1⟩
theorem mxf_uni {W V : List Int} (h1 : ∀ x ∈ W, x ≤ mxf V) (h2 : ∀ x ∈ V, x ≤ mxf W) : mxf W = mxf V := by
  obtain ⟨a1, a2, a3⟩ := mxf_ok W
  obtain ⟨b1, b2, b3⟩ := mxf_ok V
  have : mxf W ≤ mxf V := by
    rcases a2 with h | h
    · omega
    · exact h1 _ h
  have : mxf V ≤ mxf W := by
    rcases b2 with h | h
    · omega
    · exact h2 _ h
  omega
theorem pMax_lst (W : List Int) : pBi .max [.lst (.int 0 :: W.map .int)] = some (.int (mxf W)) := pMax_mxf W
/-- the count on a day is that of some begin -/
theorem at_begin (hB : ∀ b ∈ bs, 0 ≤ b.1 ∧ b.1 < b.2 ∧ b.2 ≤ 12) (h : th bs d ≠ []) : ∃ k : Int, (0 ≤ k ∧ k < bs.length) ∧ (g bs k).1 ≤ d ∧ ∀ j ∈ th bs d, j ∈ th bs (g bs k).1 := by
  have ex : ∀ L : List Int, L ≠ [] → ∃ k ∈ L, ∀ j ∈ L, (g bs j).1 ≤ (g bs k).1 := fun L => by
    induction L with
    | nil => exact fun h => absurd rfl h
    | cons x L ih =>
      intro _
      by_cases hL : L = []
      · subst hL
        exact ⟨x, List.mem_cons_self, fun j hj => by rw [List.mem_singleton] at hj; rw [hj]; exact Int.le_refl _⟩
      · obtain ⟨k, hk, hm⟩ := ih hL
        by_cases c : (g bs x).1 ≤ (g bs k).1
        · refine ⟨k, List.mem_cons_of_mem _ hk, fun j hj => ?_⟩
          rcases List.mem_cons.mp hj with rfl | hj
          · exact c
          · exact hm j hj
        · refine ⟨x, List.mem_cons_self, fun j hj => ?_⟩
          rcases List.mem_cons.mp hj with rfl | hj
          · exact Int.le_refl _
          · have := hm j hj; omega
  obtain ⟨k, hk, hm⟩ := ex _ h
  obtain ⟨⟨k0, k1⟩, k2⟩ := mem_th.mp hk
  rw [on_iff] at k2
  refine ⟨k, ⟨k0, k1⟩, k2.1, fun j hj => ?_⟩
  have := hm j hj
  obtain ⟨j0, j2⟩ := mem_th.mp hj
  rw [on_iff] at j2
  exact mem_th.mpr ⟨j0, on_iff.mpr ⟨this, by omega⟩⟩
theorem th_mono {a b : Int} (h : ∀ j ∈ th bs a, j ∈ th bs b) : (th bs a).length ≤ (th bs b).length := by
  have : (th bs a).Sublist (th bs b) := by
    have e : th bs a = (th bs b).filter (on bs a) := by
      refine srt_ext (srt_filter _ (srt_rg _ _)) (srt_filter _ (srt_filter _ (srt_rg _ _))) fun x => ?_
      rw [List.mem_filter]
      exact ⟨fun hx => ⟨h x hx, (mem_th.mp hx).2⟩, fun hx => mem_th.mpr ⟨(mem_th.mp hx.1).1, hx.2⟩⟩
    rw [e]; exact List.filter_sublist
  exact this.length_le
theorem cnt_le (hB : ∀ b ∈ bs, 0 ≤ b.1 ∧ b.1 < b.2 ∧ b.2 ≤ 12) : cnt bs d ≤ mst bs := by
  have nn := (mxf_ok ((rg 0 16).map (cnt bs))).2.2
  by_cases h : th bs d = []
  · unfold cnt mst; rw [h]; exact nn
  · obtain ⟨k, ⟨k0, k1⟩, _, hk⟩ := at_begin hB h
    have b := hB _ (g_mem k0 k1).2
    have := th_mono hk
    have m := (mxf_ok ((rg 0 16).map (cnt bs))).1 (cnt bs (g bs k).1) (List.mem_map.mpr ⟨_, mem_rg.mpr (by omega), rfl⟩)
    unfold cnt at m ⊢
    unfold mst
    unfold cnt
    omega
theorem mst_le (h0 : 0 ≤ T) (hB : ∀ b ∈ bs, 0 ≤ b.1 ∧ b.1 < b.2 ∧ b.2 ≤ 12) : mst bs ≤ T ↔ ∀ d, cnt bs d ≤ T := by
  constructor
  · intro h d
    have := cnt_le (d := d) hB; omega
  · intro h
    rcases (mxf_ok ((rg 0 16).map (cnt bs))).2.1 with e | e
    · unfold mst; omega
    · obtain ⟨d, _, hd⟩ := List.mem_map.mp e
      unfold mst; rw [← hd]; exact h d
theorem mst_nn : 0 ≤ mst bs := (mxf_ok _).2.2
theorem fewest_ok (hl : bs.length ≤ 6) (hB : ∀ b ∈ bs, 0 ≤ b.1 ∧ b.1 < b.2 ∧ b.2 ≤ 12) : sem DD (n + 2) 9 [EB bs] D = some (.int (mst bs), D) := by
  rw [r_f_fewest_tools]
  refine run_ex rfl ?_
  unfold c_f_fewest_tools
  show ∃ ρ', exs _ _ [some (false, EB bs), none, none] _ = _
  refine go_ret ?_
  have q := lcM (Φ := sem DD (n + 1)) (D := D) (ρ := [some (false, EB bs), none, none]) (own := [1, 2]) (ce := .bi .len (.cons (.call 5 (.cons (.var 0) (.cons (.var 1) .nil))) .nil)) (pt := .tp [(.nm 1), (.nm 2)]) (ci := .over (.var 0)) (ct := .nil) pv2 bs (fun b => .int (cnt bs b.1)) rfl fun b _ => by
    have t := there_on_ok (n := n) (D := D) (d := b.1) hl
    simp [st1, bindP, bindPs, pv2, wipE, getS, t, cnt]
  have ad : pBin .add (.lst [.int 0]) (.lst (bs.map fun b => PV.int (cnt bs b.1))) = some (.lst (.int 0 :: (bs.map fun b => cnt bs b.1).map .int)) := by
    rw [lst_add (by simp; omega)]; simp
  have mx := pMax_lst (bs.map fun b => cnt bs b.1)
  have e : mxf (bs.map fun b => cnt bs b.1) = mst bs := by
    refine mxf_uni (fun x hx => ?_) fun x hx => ?_
    · obtain ⟨b, _, rfl⟩ := List.mem_map.mp hx
      exact cnt_le hB
    · obtain ⟨d, _, rfl⟩ := List.mem_map.mp hx
      by_cases h : th bs d = []
      · unfold cnt; rw [h]; exact (mxf_ok _).2.2
      · obtain ⟨k, ⟨k0, k1⟩, _, hk⟩ := at_begin hB h
        have := th_mono hk
        have m := (mxf_ok (bs.map fun b => cnt bs b.1)).1 (cnt bs (g bs k).1) (List.mem_map.mpr ⟨_, (g_mem k0 k1).2, rfl⟩)
        unfold cnt at m ⊢
        omega
  rw [e] at mx
  simp only [List.map_map] at ad mx
  simp [q, ad, mx, -List.map_map]
theorem law_most_ok {X : PV} (hX : X = EB bs ∨ X = LB bs) (hl : bs.length ≤ 6) : sem DD (n + 2) 26 [X] D = some (.int (mst bs), D) := by
  rw [r_f__law_most]
  refine run_ex rfl ?_
  unfold c_f__law_most
  show ∃ ρ', exs _ _ [some (false, X), none] _ = _
  refine go_ret ?_
  have q := lcM (Φ := sem DD (n + 1)) (D := D) (ρ := [some (false, X), none]) (own := [1]) (ce := .bi .len (.cons (.call 24 (.cons (.var 0) (.cons (.var 1) .nil))) .nil)) (pt := .nm 1) (ci := .rng1 (.int 16)) (ct := .nil) PV.int (rg 0 16) (fun d => .int (cnt bs d)) (evi_r1 rfl (by decide) (by decide)) fun d _ => by
    have t := law_there_ok (n := n) (D := D) (d := d) hX hl
    simp [st1, bindP, wipE, getS, t, cnt]
  have ad : pBin .add (.lst [.int 0]) (.lst ((rg 0 16).map fun d => PV.int (cnt bs d))) = some (.lst (.int 0 :: ((rg 0 16).map (cnt bs)).map .int)) := by
    rw [lst_add (by simp [rg_len])]; simp
  have mx := pMax_lst ((rg 0 16).map (cnt bs))
  simp only [List.map_map] at ad mx
  simp [q, ad, mst, mx, -List.map_map]
end
end MP.K02

namespace MP.K02
open PySem MP
section
variable {bs : List B} {n : Nat} {D : DS} {d T : Int}
/-! ### the law's rows -/
def v (r : List Int) (k : Int) : Int := r.getD k.toNat 0
theorem ixv {r : List Int} {k : Int} (h0 : 0 ≤ k) (h1 : k < r.length) : pIdx (ET r) (.int k) = some (.int (v r k)) := ixT h0 h1
theorem v_snoc {r : List Int} {t k : Int} (h0 : 0 ≤ k) (h1 : k < r.length) : v (r ++ [t]) k = v r k := by
  unfold v
  rw [List.getD_eq_getElem?_getD, List.getD_eq_getElem?_getD, List.getElem?_append_left (by omega)]
theorem v_last {r : List Int} {t : Int} : v (r ++ [t]) r.length = t := by
  unfold v
  rw [List.getD_eq_getElem?_getD, Int.toNat_natCast, List.getElem?_append_right (Nat.le_refl _)]; simp
def rws : Nat → Int → List (List Int)
  | 0, _ => [[]]
  | m + 1, T => arow (rws m T) T
theorem mem_arow {rows : List (List Int)} {r : List Int} : r ∈ arow rows T ↔ ∃ s ∈ rows, ∃ t, (0 ≤ t ∧ t < T) ∧ r = s ++ [t] := by
  unfold arow
  rw [List.mem_flatMap]
  constructor
  · rintro ⟨s, hs, h⟩
    obtain ⟨t, ht, rfl⟩ := List.mem_map.mp h
    exact ⟨s, hs, t, mem_rg.mp ht, rfl⟩
  · rintro ⟨s, hs, t, ht, rfl⟩
    exact ⟨s, hs, List.mem_map.mpr ⟨t, mem_rg.mpr ht, rfl⟩⟩
theorem mem_rws : ∀ {m : Nat} {r : List Int}, r ∈ rws m T ↔ r.length = m ∧ ∀ x ∈ r, 0 ≤ x ∧ x < T
  | 0, r => by
    show r ∈ [[]] ↔ _
    rw [List.mem_singleton]
    constructor
    · rintro rfl; exact ⟨rfl, fun x hx => absurd hx (by simp)⟩
    · exact fun h => List.length_eq_zero_iff.mp h.1
  | m + 1, r => by
    show r ∈ arow (rws m T) T ↔ _
    rw [mem_arow]
    constructor
    · rintro ⟨s, hs, t, ht, rfl⟩
      obtain ⟨h1, h2⟩ := mem_rws.mp hs
      refine ⟨by simp [h1], fun x hx => ?_⟩
      rcases List.mem_append.mp hx with hx | hx
      · exact h2 x hx
      · rw [List.mem_singleton.mp hx]; exact ht
    · rintro ⟨h1, h2⟩
      have hne : r ≠ [] := by rintro rfl; cases h1
      refine ⟨r.dropLast, mem_rws.mpr ⟨by simp [h1], fun x hx => h2 x ((List.dropLast_sublist r).subset hx)⟩, r.getLast hne, h2 _ (List.getLast_mem hne), (List.dropLast_concat_getLast hne).symm⟩
theorem rws_len (hT : T ≤ 3) : ∀ m : Nat, (rws m T).length ≤ 3 ^ m
  | 0 => by simp [rws]
  | m + 1 => by
    have := flat_len (fun r : List Int => (rg 0 T).map fun k => r ++ [k]) 3 (rws m T) fun r _ => by rw [List.length_map, rg_len]; omega
    have h2 := rws_len hT m
    rw [Nat.pow_succ]
    exact Nat.le_trans this (Nat.mul_le_mul_right _ h2)
theorem rws_729 (hT : T ≤ 3) {m : Nat} (hm : m ≤ 6) : (rws m T).length ≤ 729 := Nat.le_trans (rws_len hT m) (Nat.pow_le_pow_right (by decide) hm)
theorem rws_fold (m : Nat) : (List.replicate m T).foldl arow [[]] = rws m T := by
  induction m with
  | zero => rfl
  | succ m ih => rw [List.replicate_succ', List.foldl_append, ih]; rfl
theorem rws_foldR (m : Nat) : (rg 0 m).foldl (fun rows _ => arow rows T) [[]] = rws m T := by
  induction m with
  | zero => rfl
  | succ m ih =>
    have e : rg 0 ((m + 1 : Nat) : Int) = rg 0 m ++ [(m : Int)] := by
      rw [Int.natCast_add]; exact rg_succ (by omega)
    rw [e, List.foldl_append, ih]; rfl
theorem arow_ET (rows : List (List Int)) (m : Int) : (rows.flatMap fun r => (rg 0 m).flatMap fun k => [ET (r ++ [k])]) = (arow rows m).map ET := by
  unfold arow
  rw [List.map_flatMap]
  congr 1
  funext r
  rw [List.map_map]
  induction (rg 0 m) with
  | nil => rfl
  | cons a t ih => rw [List.flatMap_cons, ih]; rfl
theorem all_rows_ok {m : Nat} (hm : m ≤ 6) (hT : T ≤ 3) (hT0 : 0 ≤ T) : sem DD (n + 1) 3 [.lst ((List.replicate m T).map .int)] D = some (.lst ((rws m T).map ET), D) := by
  rw [r_f_all_rows]
  refine run_ex rfl ?_
  unfold c_f_all_rows
  show ∃ ρ', exs _ _ [some (false, .lst ((List.replicate m T).map .int)), none, none, none, none] _ = _
  refine go_asg (.lst ([[]].map ET)) rfl ?_
  refine go_forP PV.int (List.replicate m T) (fun (rows : List (List Int)) ρ => ∃ x2, ρ = [some (false, .lst ((List.replicate m T).map .int)), some (false, .lst (rows.map ET)), x2, none, none]) arow [[]] rfl ⟨_, rfl⟩ (fun pre t post ρ hx ⟨x2, hρ⟩ => ?_) (fun ρ1 ⟨x2, hρ⟩ => ?_)
  · subst hρ
    have hpl : pre.length < m := by
      have := congrArg List.length hx
      rw [List.length_append, List.length_cons, List.length_replicate] at this
      omega
    have hp : pre = List.replicate pre.length T := List.eq_replicate_of_mem fun b hb => by
      have : b ∈ List.replicate m T := by rw [hx]; exact List.mem_append_left _ hb
      exact (List.mem_replicate.mp this).2
    have ht : t = T := by
      have : t ∈ List.replicate m T := by rw [hx]; simp
      exact (List.mem_replicate.mp this).2
    subst ht
    have e0 : pre.foldl arow [[]] = rws pre.length t := by
      conv => lhs; rw [hp]
      exact rws_fold _
    rw [e0]
    have l1 := rws_729 (T := t) hT (m := pre.length) (by omega)
    have l3 : ∀ r ∈ rws pre.length t, r.length ≤ 1000 := fun r hr => by have := (mem_rws.mp hr).1; omega
    generalize rws pre.length t = rows at *
    refine ⟨.nx, [some (false, .lst ((List.replicate m t).map .int)), some (false, .lst ((arow rows t).map ET)), vI t, none, none], ?_, .inl rfl, _, rfl⟩
    have e := lc2G (Φ := sem DD n) (D := D) (ρ := [some (false, .lst ((List.replicate m t).map .int)), some (false, .lst (rows.map ET)), vI t, none, none]) (own := [3, 4]) (own2 := [4]) (ce := .bin .add (.var 3) (.tup (.cons (.var 4) .nil))) (pt := .nm 3) (pt2 := .nm 4) (ci := .over (.var 1)) (ci2 := .rng1 (.var 2)) (ct := .nil) (ct2 := .nil)
      ET rows PV.int (fun _ => rg 0 t) (fun r k => [ET (r ++ [k])]) (fun r => [some (false, .lst ((List.replicate m t).map .int)), some (false, .lst (rows.map ET)), vI t, some (false, ET r), none]) rfl (fun _ _ => rfl) (fun _ _ => rfl) (fun _ _ => evi_r1 rfl (by omega) (by omega)) (fun r hr k hk => by
        have a := row_add (r := r) (k := k) (l3 r hr)
        simp [st1, bindP, wipE, getS, a]) (by
        have := flat_len (fun r : List Int => (rg 0 t).flatMap fun k => [ET (r ++ [k])]) 3 rows fun r _ => by
          have h1 := flat_len (fun k : Int => [ET (r ++ [k])]) 1 (rg 0 t) fun _ _ => by simp
          rw [rg_len] at h1
          omega
        omega)
    show exs _ _ [some (false, .lst ((List.replicate m t).map .int)), some (false, .lst (rows.map ET)), vI t, none, none] _ = _
    rw [exs_cons, ex_asg, e, arow_ET]; rfl
  · subst hρ
    rw [rws_fold]
    exact go_ret (by simp [getS])
/-- the law's rows -/
theorem law_rows_ok {m : Nat} (hm : m ≤ 6) (hT : T ≤ 3) (hT0 : 0 ≤ T) : sem DD (n + 1) 23 [.int m, .int T] D = some (.lst ((rws m T).map ET), D) := by
  rw [r_f__law_rows]
  refine run_ex rfl ?_
  unfold c_f__law_rows
  show ∃ ρ', exs _ _ [vI m, vI T, none, none, none, none, none] _ = _
  refine go_asg (.lst ([[]].map ET)) rfl ?_
  refine go_forP PV.int (rg 0 m) (fun (rows : List (List Int)) ρ => ∃ x3 x4 x5, ρ = [vI m, vI T, some (false, .lst (rows.map ET)), x3, x4, x5, none]) (fun rows _ => arow rows T) [[]] (evi_r1 rfl (by omega) (by omega)) ⟨_, _, _, rfl⟩ (fun pre k post ρ hx ⟨x3, x4, x5, hρ⟩ => ?_) (fun ρ1 ⟨x3, x4, x5, hρ⟩ => ?_)
  · subst hρ
    have hpl : pre.length < m := by
      have := congrArg List.length hx
      rw [List.length_append, List.length_cons, rg_len] at this
      omega
    have e0 : pre.foldl (fun rows _ => arow rows T) [[]] = rws pre.length T := by
      have : ∀ pre : List Int, pre.foldl (fun rows _ => arow rows T) [[]] = rws pre.length T := fun pre => by
        refine snoc_ind (P := fun pre : List Int => pre.foldl (fun rows _ => arow rows T) [[]] = rws pre.length T) rfl (fun pre k ih => ?_) pre
        rw [List.foldl_append, ih, List.length_append]; rfl
      exact this pre
    rw [e0]
    have l1 := rws_729 hT (m := pre.length) (by omega)
    have l3 : ∀ r ∈ rws pre.length T, r.length ≤ 1000 := fun r hr => by have := (mem_rws.mp hr).1; omega
    have l2 : (arow (rws pre.length T) T).length ≤ 729 := rws_729 hT (m := pre.length + 1) (by omega)
    generalize rws pre.length T = rows at *
    obtain ⟨ρ', e, h⟩ := forP (D := D) (f := fun x ρ D => (bindP (.nm 5) x ρ).bind fun ρ1 => exs (sem DD n) (.cons (.asg false 4 (.bin .add (.var 4) (.lc1 [6] (.bin .add (.var 5) (.tup (.cons (.var 6) .nil))) (.nm 6) (.rng1 (.var 1)) .nil))) .nil) ρ1 D)
      ET (fun (L : List (List Int)) ρ => ∃ x5, ρ = [vI m, vI T, some (false, .lst (rows.map ET)), vI k, some (false, .lst (L.map ET)), x5, none]) (fun L r => L ++ (rg 0 T).map fun t => r ++ [t]) [] rows rows [] [vI m, vI T, some (false, .lst (rows.map ET)), vI k, some (false, .lst []), x5, none] rfl ⟨_, rfl⟩ (fun pre r post ρ hx ⟨x5, hρ⟩ => by
        subst hρ
        have hrl : r.length ≤ 1000 := l3 r (by rw [hx]; simp)
        have q := lcM (Φ := sem DD n) (D := D) (ρ := [vI m, vI T, some (false, .lst (rows.map ET)), vI k, some (false, .lst ((pre.foldl (fun L r => L ++ (rg 0 T).map fun t => r ++ [t]) []).map ET)), some (false, ET r), none]) (own := [6]) (ce := .bin .add (.var 5) (.tup (.cons (.var 6) .nil))) (pt := .nm 6) (ci := .rng1 (.var 1)) (ct := .nil) PV.int (rg 0 T) (fun t => ET (r ++ [t])) (evi_r1 rfl (by omega) (by omega)) fun t _ => by
          have a := row_add (r := r) (k := t) hrl
          simp [st1, bindP, wipE, getS, a]
        have gen : ∀ pre : List (List Int), (pre.foldl (fun L r => L ++ (rg 0 T).map fun t => r ++ [t]) []).length ≤ 3 * pre.length := fun pre => by
          refine snoc_ind (P := fun pre : List (List Int) => (pre.foldl (fun L r => L ++ (rg 0 T).map fun t => r ++ [t]) []).length ≤ 3 * pre.length) (by simp) (fun pre a ih => ?_) pre
          rw [List.foldl_append, List.foldl_cons, List.foldl_nil, List.length_append, List.length_append, List.length_singleton, List.length_map, rg_len]
          omega
        have hgl := gen pre
        have hpl2 := congrArg List.length hx
        rw [List.length_append, List.length_cons] at hpl2
        generalize pre.foldl (fun L r => L ++ (rg 0 T).map fun t => r ++ [t]) [] = L at *
        refine ⟨.nx, [vI m, vI T, some (false, .lst (rows.map ET)), vI k, some (false, .lst ((L ++ (rg 0 T).map fun t => r ++ [t]).map ET)), some (false, ET r), none], ?_, .inl rfl, _, rfl⟩
        show exs (sem DD n) _ [vI m, vI T, some (false, .lst (rows.map ET)), vI k, some (false, .lst (L.map ET)), some (false, ET r), none] D = _
        have ad : pBin .add (.lst (L.map ET)) (.lst ((rg 0 T).map fun t => ET (r ++ [t]))) = some (.lst ((L ++ (rg 0 T).map fun t => r ++ [t]).map ET)) := by
          rw [lst_add (by simp [rg_len]; omega), List.map_append, List.map_map]; rfl
        have v4 : ev (sem DD n) (.var 4) [vI m, vI T, some (false, .lst (rows.map ET)), vI k, some (false, .lst (L.map ET)), some (false, ET r), none] D = some (.lst (L.map ET), D) := rfl
        rw [exs_cons, ex_asg, ev_bin, v4, Option.bind_some, q]
        simp only [Option.bind_some, ad, Option.map_some]
        rfl)
    obtain ⟨x5', rfl⟩ := h
    have ea : rows.foldl (fun L r => L ++ (rg 0 T).map fun t => r ++ [t]) [] = arow rows T := by
      have : ∀ (rows L : List (List Int)), rows.foldl (fun L r => L ++ (rg 0 T).map fun t => r ++ [t]) L = L ++ arow rows T := fun rows => by
        induction rows with
        | nil => exact fun L => by simp [arow]
        | cons r rows ih => intro L; rw [List.foldl_cons, ih, List.append_assoc]; rfl
      rw [this]; rfl
    rw [ea] at e
    refine ⟨.nx, [vI m, vI T, some (false, .lst ((arow rows T).map ET)), vI k, some (false, .lst ((arow rows T).map ET)), x5', none], ?_, .inl rfl, _, _, _, rfl⟩
    show exs (sem DD n) _ [vI m, vI T, some (false, .lst (rows.map ET)), vI k, x4, x5, none] D = _
    rw [exs_cons, ex_asg, ev_lst, evs_nil]
    show exs (sem DD n) _ [vI m, vI T, some (false, .lst (rows.map ET)), vI k, some (false, .lst []), x5, none] D = _
    rw [exs_cons, ex_for, evi_ov (xs := rows.map ET) rfl, Option.bind_some, e]
    rfl
  · subst hρ
    rw [rws_foldR]
    exact go_ret (by simp [getS])
end
end MP.K02

namespace MP.K02
open PySem MP
section
variable {bs : List B} {n : Nat} {D : DS} {d T : Int}
def ov (a b : B) : Bool := decide (a.1 < a.2 ∧ a.1 < b.2 ∧ b.1 < a.2 ∧ b.1 < b.2)
theorem overlap_ok {a b : B} : sem DD (n + 1) 8 [pv2 a, pv2 b] D = some (.bl (ov a b), D) := by
  rw [r_f_overlap]
  refine run_ex rfl ?_
  unfold c_f_overlap
  show ∃ ρ', exs _ _ [some (false, pv2 a), some (false, pv2 b)] _ = _
  refine go_ret ?_
  have e : ov a b = decide ((if b.1 > a.1 then b.1 else a.1) < (if b.2 < a.2 then b.2 else a.2)) := by
    unfold ov
    rw [Bool.eq_iff_iff, decide_eq_true_iff, decide_eq_true_iff]
    split <;> split <;> omega
  simp [getS, pBi, pCmp, e]
/-- a tool can be had beside those ahead -/
def chv (bs : List B) (r : List Int) (k t : Int) : Bool := (rg 0 k).all fun i => !(decide (v r i = t) && ov (g bs i) (g bs k))
def hok (bs : List B) (r : List Int) (m : Int) : Bool := (rg 0 m).all fun j => chv bs r j (v r j)
theorem chv_iff {r : List Int} {k t : Int} : chv bs r k t = true ↔ ∀ i, 0 ≤ i → i < k → v r i = t → ov (g bs i) (g bs k) = false := by
  unfold chv
  rw [List.all_eq_true]
  constructor
  · intro h i h0 h1 e
    have := h i (mem_rg.mpr ⟨h0, h1⟩)
    rw [e, decide_eq_true rfl, Bool.true_and] at this
    simpa using this
  · intro h i hi
    obtain ⟨h0, h1⟩ := mem_rg.mp hi
    by_cases e : v r i = t
    · rw [h i h0 h1 e]; simp
    · simp [e]
theorem hok_iff {r : List Int} {m : Int} : hok bs r m = true ↔ ∀ i j, 0 ≤ i → i < j → j < m → v r i = v r j → ov (g bs i) (g bs j) = false := by
  unfold hok
  rw [List.all_eq_true]
  constructor
  · exact fun h i j h0 h1 h2 => chv_iff.mp (h j (mem_rg.mpr ⟨by omega, h2⟩)) i h0 h1
  · intro h j hj
    obtain ⟨h0, h1⟩ := mem_rg.mp hj
    exact chv_iff.mpr fun i i0 i1 => h i j i0 i1 h1
theorem can_have_ok {r : List Int} {k t : Int} (hk0 : 0 ≤ k) (hk : k < bs.length) (hl : bs.length ≤ 6) (hr : k ≤ r.length) : sem DD (n + 2) 11 [EB bs, ET r, .int k, .int t] D = some (.bl (chv bs r k t), D) := by
  rw [r_f_can_have]
  refine run_ex rfl ?_
  unfold c_f_can_have
  show ∃ ρ', exs _ _ [some (false, EB bs), some (false, ET r), vI k, vI t, none] _ = _
  refine go_ret ?_
  have q := lcM (Φ := sem DD (n + 1)) (D := D) (ρ := [some (false, EB bs), some (false, ET r), vI k, vI t, none]) (own := [4]) (ce := .and_ (.cons (.cmp .eq (.idx (.var 1) (.var 4)) (.var 3)) (.cons (.call 8 (.cons (.idx (.var 0) (.var 4)) (.cons (.idx (.var 0) (.var 2)) .nil))) .nil))) (pt := .nm 4) (ci := .rng1 (.var 2)) (ct := .nil) PV.int (rg 0 k) (fun i => .bl (decide (v r i = t) && ov (g bs i) (g bs k))) (evi_r1 rfl (by omega) (by omega)) fun i hi => by
    obtain ⟨h0, h1⟩ := mem_rg.mp hi
    have a := ixv (r := r) (k := i) h0 (by omega)
    have b := ixb (bs := bs) (k := i) h0 (by omega)
    have c := ixb (bs := bs) (k := k) hk0 hk
    have o := overlap_ok (n := n) (D := D) (a := g bs i) (b := g bs k)
    by_cases e : v r i = t
    · simp [st1, bindP, wipE, getS, a, b, c, o, pCmp, e]
    · simp [st1, bindP, wipE, getS, a, b, c, o, pCmp, e]
  have an : ∀ L : List Int, ∀ p : Int → Bool, pBi .any [.lst (L.map fun i => .bl (p i))] = some (.bl (L.any p)) := fun L p => by
    show ((mapO blOf _).map _) = _
    have : mapO blOf (L.map fun i => PV.bl (p i)) = some (L.map p) := by
      induction L with
      | nil => rfl
      | cons a t ih => rw [List.map_cons, mapO_cons, ih]; rfl
    rw [this]
    simp [List.any_map]
  have e : chv bs r k t = !((rg 0 k).any fun i => decide (v r i = t) && ov (g bs i) (g bs k)) := by
    unfold chv
    rw [List.not_any_eq_all_not]
  rw [ev_not, ev_bi, evs_cons, q]
  simp only [evs_nil, Option.bind_some, Option.map_some, mapO_cons, mapO_nil, opd_lst, an, blOf_bl, e]
/-! ### is_handed -/
def hdd (bs : List B) (T : Int) (r : List Int) : Bool := decide (r.length = bs.length) && (r.all fun x => decide (0 ≤ x) && decide (x < T)) && hok bs r bs.length
theorem is_number_int {i : Int} : sem DD (n + 1) 0 [.int i] D = some (.bl true, D) := by
  rw [r_f_is_number]
  exact run_ex rfl ⟨_, rfl⟩
theorem is_from_int {i : Int} : sem DD (n + 2) 1 [.int i, .int 0] D = some (.bl (decide (0 ≤ i)), D) := by
  rw [r_f_is_from]
  refine run_ex rfl ?_
  unfold c_f_is_from
  show ∃ ρ', exs _ _ [vI i, vI 0] _ = _
  refine go_ret ?_
  have := is_number_int (n := n) (D := D) (i := i)
  simp [getS, this, pCmp]
theorem is_from_bad {x : PV} (h : sem DD (n + 1) 0 [x] D = some (.bl false, D)) : sem DD (n + 2) 1 [x, .int 0] D = some (.bl false, D) := by
  rw [r_f_is_from]
  refine run_ex rfl ?_
  unfold c_f_is_from
  show ∃ ρ', exs _ _ [some (false, x), vI 0] _ = _
  refine go_ret ?_
  simp [getS, h, pCmp]
theorem hd_lst {L : List PV} : sem DD (n + 1) 7 [EB bs, .int T, .lst L] D = some (.bl false, D) := by
  rw [r_f_is_handed]
  refine run_ex rfl ?_
  unfold c_f_is_handed
  show ∃ ρ', exs _ _ [some (false, EB bs), vI T, some (false, .lst L), none, none, none] _ = _
  refine ⟨[some (false, EB bs), vI T, some (false, .lst L), none, none, none], ?_⟩
  simp [getS, pIs]
theorem hd_non : sem DD (n + 1) 7 [EB bs, .int T, .non] D = some (.bl false, D) := by
  rw [r_f_is_handed]
  refine run_ex rfl ?_
  unfold c_f_is_handed
  show ∃ ρ', exs _ _ [some (false, EB bs), vI T, some (false, .non), none, none, none] _ = _
  refine ⟨[some (false, EB bs), vI T, some (false, .non), none, none, none], ?_⟩
  simp [getS, pIs]
theorem hd_len {L : List PV} (h : L.length ≠ bs.length) : sem DD (n + 1) 7 [EB bs, .int T, .tup L] D = some (.bl false, D) := by
  rw [r_f_is_handed]
  refine run_ex rfl ?_
  unfold c_f_is_handed
  show ∃ ρ', exs _ _ [some (false, EB bs), vI T, some (false, .tup L), none, none, none] _ = _
  refine ⟨[some (false, EB bs), vI T, some (false, .tup L), none, none, none], ?_⟩
  have : ¬ (L.length : Int) = bs.length := by omega
  simp [getS, pIs, pCmp, this]
def inT (T : Int) : PV → Bool
  | .int i => decide (0 ≤ i) && decide (i < T)
  | _ => false
theorem inT_bad {x : PV} (hx : ∀ n D, sem DD (n + 1) 0 [x] D = some (.bl false, D)) : inT T x = false := by
  cases x with
  | int i => have := hx 0 []; rw [is_number_int] at this; cases this
  | _ => rfl
/-- a tuple whose first item is no number -/
theorem hd_odd {x : PV} {r : List Int} (hx : ∀ n D, sem DD (n + 1) 0 [x] D = some (.bl false, D)) (hl : r.length ≤ 1000) : sem DD (n + 3) 7 [EB bs, .int T, .tup (x :: r.map .int)] D = some (.bl false, D) := by
  by_cases hlen : (x :: r.map PV.int).length = bs.length
  case neg => exact hd_len hlen
  rw [r_f_is_handed]
  refine run_ex rfl ?_
  unfold c_f_is_handed
  show ∃ ρ', exs _ _ [some (false, EB bs), vI T, some (false, .tup (x :: r.map .int)), none, none, none] _ = _
  refine ⟨[some (false, EB bs), vI T, some (false, .tup (x :: r.map .int)), none, none, none], ?_⟩
  have q := lcM (α := PV) (Φ := sem DD (n + 2)) (D := D) (ρ := [some (false, EB bs), vI T, some (false, .tup (x :: r.map .int)), none, none, none]) (own := [5]) (ce := .and_ (.cons (.call 1 (.cons (.var 5) (.cons (.int 0) .nil))) (.cons (.cmp .lt (.var 5) (.var 1)) .nil))) (pt := .nm 5) (ci := .over (.var 2)) (ct := .nil) id (x :: r.map .int) (fun y => .bl (inT T y)) (by rw [List.map_id]; rfl) fun y hy => by
    have odd : ∀ y, (∀ n D, sem DD (n + 1) 0 [y] D = some (.bl false, D)) → st1 (sem DD (n + 2)) [5] (.and_ (.cons (.call 1 (.cons (.var 5) (.cons (.int 0) .nil))) (.cons (.cmp .lt (.var 5) (.var 1)) .nil))) (.nm 5) .nil [some (false, EB bs), vI T, some (false, .tup (x :: r.map .int)), none, none, none] y D = some ([.bl false], D) := fun y hy => by
      have f := is_from_bad (n := n) (D := D) (hy n D)
      simp [st1, bindP, wipE, getS, f]
    rcases List.mem_cons.mp hy with rfl | hy
    · have hni : inT T y = false := inT_bad hx
      rw [hni]
      exact odd y hx
    · obtain ⟨i, _, rfl⟩ := List.mem_map.mp hy
      have f := is_from_int (n := n) (D := D) (i := i)
      by_cases h0 : 0 ≤ i
      · simp [st1, bindP, wipE, getS, f, pCmp, h0, inT]
      · simp [st1, bindP, wipE, getS, f, pCmp, h0, inT]
  have hni : inT T x = false := inT_bad hx
  have al := all_bl (inT T) (x :: r.map .int)
  rw [List.all_cons, hni, Bool.false_and] at al
  have hle : (((x :: r.map PV.int).length : Nat) : Int) = bs.length := by omega
  have hv : ev (sem DD (n + 2)) (.or_ (.cons (.not_ (.isi .ttup (.var 2))) (.cons (.cmp .ne (.bi .len (.cons (.var 2) .nil)) (.bi .len (.cons (.var 0) .nil))) .nil))) [some (false, EB bs), vI T, some (false, .tup (x :: r.map .int)), none, none, none] D = some (.bl false, D) := by
    simp only [List.length_cons, List.length_map] at hle
    simp [getS, pIs, pCmp, hle]
  rw [exs_cons, ex_ife, hv]
  simp only [Option.bind_some, blOf_bl, exs_nil]
  rw [if_neg (by simp)]
  simp only [Option.bind_some]
  rw [exs_cons, ex_ife, ev_not, ev_bi, evs_cons, q]
  simp only [evs_nil, Option.bind_some, Option.map_some, mapO_cons, mapO_nil, opd_lst]
  rw [al]
  rfl
theorem hd_int {r : List Int} (hb : bs.length ≤ 6) (hl : r.length ≤ 1000) : sem DD (n + 3) 7 [EB bs, .int T, ET r] D = some (.bl (hdd bs T r), D) := by
  by_cases hlen : r.length = bs.length
  case neg =>
    have : hdd bs T r = false := by unfold hdd; simp [hlen]
    rw [this]
    exact hd_len (by simpa using hlen)
  rw [r_f_is_handed]
  refine run_ex rfl ?_
  unfold c_f_is_handed
  show ∃ ρ', exs _ _ [some (false, EB bs), vI T, some (false, ET r), none, none, none] _ = _
  have hle : (r.length : Int) = bs.length := by omega
  have hv : ex (sem DD (n + 2)) (.ife (.or_ (.cons (.not_ (.isi .ttup (.var 2))) (.cons (.cmp .ne (.bi .len (.cons (.var 2) .nil)) (.bi .len (.cons (.var 0) .nil))) .nil))) (.cons (.ret (.bl false)) .nil) .nil) [some (false, EB bs), vI T, some (false, ET r), none, none, none] D = some (.nx, [some (false, EB bs), vI T, some (false, ET r), none, none, none], D) := by
    simp [getS, pIs, pCmp, hle]
  refine go_nx hv ?_
  have q := lcM (Φ := sem DD (n + 2)) (D := D) (ρ := [some (false, EB bs), vI T, some (false, ET r), none, none, none]) (own := [5]) (ce := .and_ (.cons (.call 1 (.cons (.var 5) (.cons (.int 0) .nil))) (.cons (.cmp .lt (.var 5) (.var 1)) .nil))) (pt := .nm 5) (ci := .over (.var 2)) (ct := .nil) PV.int r (fun i => .bl (decide (0 ≤ i) && decide (i < T))) rfl fun i hi => by
    have f := is_from_int (n := n) (D := D) (i := i)
    by_cases h0 : 0 ≤ i
    · simp [st1, bindP, wipE, getS, f, pCmp, h0]
    · simp [st1, bindP, wipE, getS, f, pCmp, h0]
  have al := all_bl (fun i : Int => decide (0 ≤ i) && decide (i < T)) r
  have ha : ev (sem DD (n + 2)) (.not_ (.bi .all (.cons (.lc1 [5] (.and_ (.cons (.call 1 (.cons (.var 5) (.cons (.int 0) .nil))) (.cons (.cmp .lt (.var 5) (.var 1)) .nil))) (.nm 5) (.over (.var 2)) .nil) .nil))) [some (false, EB bs), vI T, some (false, ET r), none, none, none] D = some (.bl (!(r.all fun i => decide (0 ≤ i) && decide (i < T))), D) := by
    rw [ev_not, ev_bi, evs_cons, q]
    simp only [evs_nil, Option.bind_some, Option.map_some, mapO_cons, mapO_nil, opd_lst]
    rw [al]; rfl
  by_cases hall : (r.all fun i => decide (0 ≤ i) && decide (i < T)) = true
  case neg =>
    have : hdd bs T r = false := by unfold hdd; rw [Bool.eq_false_iff.mpr hall]; simp
    rw [this]
    refine ⟨[some (false, EB bs), vI T, some (false, ET r), none, none, none], ?_⟩
    rw [exs_cons, ex_ife, ha, Bool.eq_false_iff.mpr hall]; rfl
  have ha2 : ex (sem DD (n + 2)) (.ife (.not_ (.bi .all (.cons (.lc1 [5] (.and_ (.cons (.call 1 (.cons (.var 5) (.cons (.int 0) .nil))) (.cons (.cmp .lt (.var 5) (.var 1)) .nil))) (.nm 5) (.over (.var 2)) .nil) .nil))) (.cons (.ret (.bl false)) .nil) .nil) [some (false, EB bs), vI T, some (false, ET r), none, none, none] D = some (.nx, [some (false, EB bs), vI T, some (false, ET r), none, none, none], D) := by
    rw [ex_ife, ha, hall]; rfl
  refine go_nx ha2 ?_
  have hh : hdd bs T r = hok bs r bs.length := by unfold hdd; rw [hall, decide_eq_true hlen]; simp
  rw [hh]
  have inner : ∀ j, (rg 0 j).foldlM (fun (_ : Unit) i => if !(decide (v r i = v r j) && ov (g bs i) (g bs j)) then (.ok () : Except PV Unit) else .error (.bl false)) () = if chv bs r j (v r j) then .ok () else .error (.bl false) := fun j => foldlM_all (fun i => !(decide (v r i = v r j) && ov (g bs i) (g bs j))) (.bl false) (rg 0 j)
  refine go_forE PV.int (rg 0 bs.length) (fun (_ : Unit) ρ => ∃ x3 x4, ρ = [some (false, EB bs), vI T, some (false, ET r), x3, x4, none])
    (fun (_ : Unit) j => (rg 0 j).foldlM (fun (_ : Unit) i => if !(decide (v r i = v r j) && ov (g bs i) (g bs j)) then (.ok () : Except PV Unit) else .error (.bl false)) ()) () (evi_r1 (by simp [getS]) (by omega) (by omega)) ⟨_, _, rfl⟩ (fun s j ρ hj ⟨x3, x4, hρ⟩ => ?_) (fun s1 hs ρ1 ⟨x3, x4, hρ⟩ => ?_) (fun w hw => ?_)
  · subst hρ
    obtain ⟨j0, j1⟩ := mem_rg.mp hj
    refine bd_forE PV.int (rg 0 j) (fun (_ : Unit) ρ => ∃ x4, ρ = [some (false, EB bs), vI T, some (false, ET r), vI j, x4, none]) (fun _ ρ ⟨x4, h⟩ => ⟨_, x4, h⟩) _ () (ρ := [some (false, EB bs), vI T, some (false, ET r), vI j, x4, none]) rfl (by exact evi_r1 rfl (by omega) (by omega)) ⟨_, rfl⟩ (fun s i ρ hi ⟨x4, hρ⟩ => ?_)
    subst hρ
    obtain ⟨i0, i1⟩ := mem_rg.mp hi
    have a1 := ixv (r := r) (k := i) i0 (by omega)
    have a2 := ixv (r := r) (k := j) j0 (by omega)
    have b1 := ixb (bs := bs) (k := i) i0 (by omega)
    have b2 := ixb (bs := bs) (k := j) j0 (by omega)
    have o := overlap_ok (n := n + 1) (D := D) (a := g bs i) (b := g bs j)
    by_cases e : v r i = v r j
    · by_cases e2 : ov (g bs i) (g bs j) = true
      · rw [e2, decide_eq_true e]
        refine ⟨[some (false, EB bs), vI T, some (false, ET r), vI j, vI i, none], ?_⟩
        simp [bindP, getS, a1, a2, b1, b2, o, pCmp, e, e2]
      · rw [Bool.eq_false_iff.mpr e2, Bool.and_false]
        refine ⟨.nx, [some (false, EB bs), vI T, some (false, ET r), vI j, vI i, none], ?_, .inl rfl, _, rfl⟩
        simp [bindP, getS, a1, a2, b1, b2, o, pCmp, e, Bool.eq_false_iff.mpr e2]
    · rw [decide_eq_false e, Bool.false_and]
      refine ⟨.nx, [some (false, EB bs), vI T, some (false, ET r), vI j, vI i, none], ?_, .inl rfl, _, rfl⟩
      simp [bindP, getS, a1, a2, pCmp, e]
  · subst hρ
    simp only [inner] at hs
    rw [foldlM_all] at hs
    have : hok bs r bs.length = true := by
      unfold hok
      split at hs
      · assumption
      · cases hs
    rw [this]
    exact go_ret rfl
  · simp only [inner] at hw
    rw [foldlM_all] at hw
    unfold hok
    split at hw
    · cases hw
    · rename_i h
      cases hw
      rw [Bool.eq_false_iff.mpr h]
/-! ### the law's good rows -/
def lgd (bs : List B) (r : List Int) : Bool := (rg 0 16).all fun d => decide ((th bs d).map (v r)).Nodup
theorem dict_len (L : List Int) : ∃ kvs, pBi .dict [.lst (L.map fun x => .tup [.int x, .bl true])] = some (.dct 0 kvs) ∧ kvs.length ≤ L.length ∧ (kvs.length = L.length ↔ L.Nodup) := by
  obtain ⟨ks, h1, h2, kvs, h3, h4⟩ := dMerge_keys (fun _ => .bl true) L [] List.nodup_nil
  refine ⟨kvs, ?_, ?_, ?_⟩
  · have : mapO pairOf (L.map fun x => PV.tup [.int x, .bl true]) = some (L.map fun n => (PV.int n, PV.bl true)) := by
      clear h2 h3 h4
      induction L with
      | nil => rfl
      | cons a t ih => rw [List.map_cons, mapO_cons, ih]; rfl
    show ((mapO pairOf _).bind _) = _
    rw [this, Option.bind_some]
    have a : ((L.map fun n => (PV.int n, PV.bl true)).all fun p => isKey 0 p.1) = true := by
      rw [List.all_map, List.all_eq_true]; intro x _; rfl
    rw [if_pos a]
    congr 2
  · rw [h4, List.length_map]
    exact nodup_len h1 fun x hx => by simpa using (h2 x).mp hx
  · rw [h4, List.length_map]
    constructor
    · exact fun e => nodup_of_len h1 (fun x hx => by simpa using (h2 x).mp hx) e
    · intro hn
      have a := nodup_len h1 (ns := L) fun x hx => by simpa using (h2 x).mp hx
      have b := nodup_len hn (ns := ks) fun x hx => (h2 x).mpr (.inr hx)
      omega
theorem law_good_ok {r : List Int} (hl : bs.length ≤ 6) (hr : r.length = bs.length) : sem DD (n + 2) 25 [EB bs, ET r] D = some (.bl (lgd bs r), D) := by
  rw [r_f__law_good]
  refine run_ex rfl ?_
  unfold c_f__law_good
  show ∃ ρ', exs _ _ [some (false, EB bs), some (false, ET r), none, none, none, none] _ = _
  refine go_forE PV.int (rg 0 16) (fun (_ : Unit) ρ => ∃ x2 x3, ρ = [some (false, EB bs), some (false, ET r), x2, x3, none, none])
    (fun (_ : Unit) d => if decide ((th bs d).map (v r)).Nodup then (.ok () : Except PV Unit) else .error (.bl false)) () (evi_r1 rfl (by decide) (by decide)) ⟨_, _, rfl⟩ (fun s d ρ hd ⟨x2, x3, hρ⟩ => ?_) (fun s1 hs ρ1 ⟨x2, x3, hρ⟩ => ?_) (fun w hw => ?_)
  · subst hρ
    have t := law_there_ok (n := n) (D := D) (d := d) (.inl rfl) hl
    have q := lcM (Φ := sem DD (n + 1)) (D := D) (ρ := [some (false, EB bs), some (false, ET r), vI d, x3, none, none]) (own := [4]) (ce := .idx (.var 1) (.var 4)) (pt := .nm 4) (ci := .over (.call 24 (.cons (.var 0) (.cons (.var 2) .nil)))) (ct := .nil) PV.int (th bs d) (fun k => .int (v r k)) (by simp [getS, t]) fun k hk => by
      obtain ⟨⟨h0, h1⟩, _⟩ := mem_th.mp hk
      have a := ixv (r := r) (k := k) h0 (by omega)
      simp [st1, bindP, wipE, getS, a]
    have em : ((th bs d).map fun k => PV.int (v r k)) = ((th bs d).map (v r)).map .int := by rw [List.map_map]; rfl
    rw [em] at q
    have q2 := lcM (Φ := sem DD (n + 1)) (D := D) (ρ := [some (false, EB bs), some (false, ET r), vI d, some (false, .lst (((th bs d).map (v r)).map .int)), none, none]) (own := [5]) (ce := .tup (.cons (.var 5) (.cons (.bl true) .nil))) (pt := .nm 5) (ci := .over (.var 3)) (ct := .nil) PV.int ((th bs d).map (v r)) (fun x => .tup [.int x, .bl true]) rfl fun x _ => rfl
    obtain ⟨kvs, k1, k2, k3⟩ := dict_len ((th bs d).map (v r))
    generalize (th bs d).map (v r) = L at *
    have tst : ev (sem DD (n + 1)) (.cmp .ne (.bi .len (.cons (.bi .dict (.cons (.lc1 [5] (.tup (.cons (.var 5) (.cons (.bl true) .nil))) (.nm 5) (.over (.var 3)) .nil) .nil)) .nil)) (.bi .len (.cons (.var 3) .nil))) [some (false, EB bs), some (false, ET r), vI d, some (false, .lst (L.map .int)), none, none] D = some (.bl (!decide L.Nodup), D) := by
      have hd : ev (sem DD (n + 1)) (.bi .dict (.cons (.lc1 [5] (.tup (.cons (.var 5) (.cons (.bl true) .nil))) (.nm 5) (.over (.var 3)) .nil) .nil)) [some (false, EB bs), some (false, ET r), vI d, some (false, .lst (L.map .int)), none, none] D = some (.dct 0 kvs, D) := by
        rw [ev_bi, evs_cons, q2]
        simp only [evs_nil, Option.bind_some, Option.map_some, mapO_cons, mapO_nil, opd_lst, k1]
      have hl1 : ev (sem DD (n + 1)) (.bi .len (.cons (.bi .dict (.cons (.lc1 [5] (.tup (.cons (.var 5) (.cons (.bl true) .nil))) (.nm 5) (.over (.var 3)) .nil) .nil)) .nil)) [some (false, EB bs), some (false, ET r), vI d, some (false, .lst (L.map .int)), none, none] D = some (.int kvs.length, D) := by
        rw [ev_bi, evs_cons, hd]
        simp only [evs_nil, Option.bind_some, Option.map_some, mapO_cons, mapO_nil, opd_dct]
        rfl
      have hl2 : ev (sem DD (n + 1)) (.bi .len (.cons (.var 3) .nil)) [some (false, EB bs), some (false, ET r), vI d, some (false, .lst (L.map .int)), none, none] D = some (.int L.length, D) := by simp [getS]
      rw [ev_cmp, hl1, Option.bind_some, hl2]
      have : (kvs.length == L.length) = decide L.Nodup := by
        rw [Bool.eq_iff_iff, decide_eq_true_iff, beq_iff_eq]; exact k3
      have e2 : ((kvs.length : Int) == (L.length : Int)) = decide L.Nodup := by
        rw [← this, Bool.eq_iff_iff, beq_iff_eq, beq_iff_eq]; omega
      simp only [Option.bind_some, opd_int, pCmp, pEq_int, Option.map_some, e2]
    have pre : (bindP (.nm 2) (.int d) [some (false, EB bs), some (false, ET r), x2, x3, none, none]) = some [some (false, EB bs), some (false, ET r), vI d, x3, none, none] := rfl
    have st : exs (sem DD (n + 1)) (.cons (.asg false 3 (.lc1 [4] (.idx (.var 1) (.var 4)) (.nm 4) (.over (.call 24 (.cons (.var 0) (.cons (.var 2) .nil)))) .nil)) (.cons (.ife (.cmp .ne (.bi .len (.cons (.bi .dict (.cons (.lc1 [5] (.tup (.cons (.var 5) (.cons (.bl true) .nil))) (.nm 5) (.over (.var 3)) .nil) .nil)) .nil)) (.bi .len (.cons (.var 3) .nil))) (.cons (.ret (.bl false)) .nil) .nil) .nil)) [some (false, EB bs), some (false, ET r), vI d, x3, none, none] D
        = if L.Nodup then some (.nx, [some (false, EB bs), some (false, ET r), vI d, some (false, .lst (L.map .int)), none, none], D) else some (.rt (.bl false), [some (false, EB bs), some (false, ET r), vI d, some (false, .lst (L.map .int)), none, none], D) := by
      rw [exs_cons, ex_asg, q]
      show exs _ _ [some (false, EB bs), some (false, ET r), vI d, some (false, .lst (L.map .int)), none, none] D = _
      rw [exs_cons, ex_ife, tst]
      by_cases hn : L.Nodup <;> simp [hn]
    by_cases hn : L.Nodup
    · rw [if_pos (by simpa using hn)]
      rw [if_pos hn] at st
      exact ⟨.nx, _, by rw [pre, Option.bind_some]; exact st, .inl rfl, _, _, rfl⟩
    · rw [if_neg (by simpa using hn)]
      rw [if_neg hn] at st
      exact ⟨_, by rw [pre, Option.bind_some]; exact st⟩
  · subst hρ
    rw [foldlM_all] at hs
    have : lgd bs r = true := by
      unfold lgd
      split at hs
      · assumption
      · cases hs
    rw [this]
    exact go_ret rfl
  · rw [foldlM_all] at hw
    unfold lgd
    split at hw
    · cases hw
    · rename_i h
      cases hw
      rw [Bool.eq_false_iff.mpr h]
theorem nodup_map {α β : Type} {f : α → β} : ∀ {L : List α}, (L.map f).Nodup ↔ L.Pairwise fun a b => f a ≠ f b := by
  intro L
  show (L.map f).Pairwise _ ↔ _
  rw [List.pairwise_map]
/-- the law's good rows are those in which no two of a tool overlap -/
theorem lgd_hok {r : List Int} (hB : Bs bs) : lgd bs r = hok bs r bs.length := by
  rw [Bool.eq_iff_iff, hok_iff]
  unfold lgd
  rw [List.all_eq_true]
  constructor
  · intro h i j i0 ij j1 e
    cases o : ov (g bs i) (g bs j) with
    | false => rfl
    | true =>
      exfalso
      have o := of_decide_eq_true o
      have bi := hB.nn (k := i) i0 (by omega)
      have bj := hB.nn (k := j) (by omega) j1
      -- a day of both
      have : ∃ d, (0 ≤ d ∧ d < 16) ∧ ((g bs i).1 ≤ d ∧ d < (g bs i).2) ∧ (g bs j).1 ≤ d ∧ d < (g bs j).2 := by
        by_cases c : (g bs i).1 ≤ (g bs j).1
        · exact ⟨(g bs j).1, by omega⟩
        · exact ⟨(g bs i).1, by omega⟩
      obtain ⟨d, d0, d1, d2⟩ := this
      have hn := of_decide_eq_true (h d (mem_rg.mpr d0))
      rw [nodup_map] at hn
      have mi : i ∈ th bs d := mem_th.mpr ⟨by omega, on_iff.mpr d1⟩
      have mj : j ∈ th bs d := mem_th.mpr ⟨by omega, on_iff.mpr d2⟩
      have hp : (th bs d).Pairwise (· < ·) := srt_filter _ (srt_rg _ _)
      -- from the two pairwise facts
      have key : ∀ L : List Int, L.Pairwise (· < ·) → (L.Pairwise fun a b => v r a ≠ v r b) → i ∈ L → j ∈ L → False := fun L => by
        induction L with
        | nil => exact fun _ _ h => by cases h
        | cons x L ih =>
          intro p1 p2 h1 h2
          rw [List.pairwise_cons] at p1 p2
          rcases List.mem_cons.mp h1 with rfl | h1
          · rcases List.mem_cons.mp h2 with rfl | h2
            · omega
            · exact p2.1 j h2 e
          · rcases List.mem_cons.mp h2 with h2 | h2
            · have := p1.1 i h1; omega
            · exact ih p1.2 p2.2 h1 h2
      exact key _ hp hn mi mj
  · intro h d hd
    refine decide_eq_true ?_
    rw [nodup_map]
    have hp : (th bs d).Pairwise (· < ·) := srt_filter _ (srt_rg _ _)
    have hp2 : (th bs d).Pairwise fun a b => (a ∈ th bs d ∧ b ∈ th bs d) ∧ a < b := by
      have := List.Pairwise.and_mem.mp hp
      exact this.imp fun ⟨a, b, c⟩ => ⟨⟨a, b⟩, c⟩
    refine hp2.imp fun {a b} ⟨⟨ha, hb⟩, hab⟩ e => ?_
    obtain ⟨⟨a0, a1⟩, a2⟩ := mem_th.mp ha
    obtain ⟨⟨b0, b1⟩, b2⟩ := mem_th.mp hb
    rw [on_iff] at a2 b2
    have := of_decide_eq_false (h a b a0 hab b1 e)
    omega
/-- the rows of the law -/
def rows (bs : List B) (T : Int) : List (List Int) := (rws bs.length T).filter (lgd bs)
theorem mem_rows (hB : Bs bs) {r : List Int} : r ∈ rows bs T ↔ hdd bs T r = true := by
  unfold rows hdd
  rw [List.mem_filter, mem_rws, lgd_hok hB, Bool.and_eq_true, Bool.and_eq_true, decide_eq_true_iff, List.all_eq_true]
  simp only [Bool.and_eq_true, decide_eq_true_iff]
end
end MP.K02

namespace MP.K02
open PySem MP
section
variable {bs : List B} {n : Nat} {D : DS} {d T : Int}
/-! ### handed out -/
def keysB (bs : List B) : List (Int × Int) := (rg 0 bs.length).map fun k => ((g bs k).1, k)
noncomputable def ks (bs : List B) : List (Int × Int) := srtP (keysB bs)
def taken (bs : List B) (as : List (Int × Int)) (d : Int) : List Int := (th bs d).filterMap (lk as)
def stp (bs : List B) (T : Int) (as : List (Int × Int)) (q : Int × Int) : List (Int × Int) := as ++ [(q.2, (fre T (taken bs as q.1)).headD 0)]
theorem ks_mem {q : Int × Int} (h : q ∈ ks bs) : (0 ≤ q.2 ∧ q.2 < bs.length) ∧ q.1 = (g bs q.2).1 := by
  have := (srtP_perm _).mem_iff.mp h
  obtain ⟨k, hk, rfl⟩ := List.mem_map.mp this
  exact ⟨mem_rg.mp hk, rfl⟩
theorem ks_snd : ((ks bs).map (·.2)).Perm (rg 0 bs.length) := by
  have := (srtP_perm (keysB bs)).map (·.2)
  refine this.trans ?_
  unfold keysB
  rw [List.map_map]
  exact List.Perm.of_eq (by rw [show (((·.2) : Int × Int → Int) ∘ fun k : Int => ((g bs k).1, k)) = id from rfl, List.map_id])
theorem ks_nodup : ((ks bs).map (·.2)).Nodup := ks_snd.nodup_iff.mpr (srt_nodup (srt_rg _ _))
theorem stp_fst (bs : List B) (T : Int) : ∀ (pre as : List (Int × Int)), (pre.foldl (stp bs T) as).map (·.1) = as.map (·.1) ++ pre.map (·.2)
  | [], as => by simp
  | q :: pre, as => by
    rw [List.foldl_cons, stp_fst bs T pre, stp]
    simp
/-- what holds at each step of the handing out -/
theorem step_ok (hB : Bs bs) (hc : ∀ d, cnt bs d ≤ T) {pre post : List (Int × Int)} {q : Int × Int} (hx : ks bs = pre ++ q :: post) : lk (pre.foldl (stp bs T) []) q.2 = none ∧ (fre T (taken bs (pre.foldl (stp bs T) []) q.1)) ≠ [] := by
  have hq := ks_mem (bs := bs) (q := q) (by rw [hx]; simp)
  have h1 : lk (pre.foldl (stp bs T) []) q.2 = none := by
    rw [lk_none, stp_fst]
    have := ks_nodup (bs := bs)
    rw [hx, List.map_append, List.nodup_append] at this
    exact fun hm => this.2.2 q.2 (by simpa using hm) q.2 (by simp) rfl
  refine ⟨h1, fre_ne ?_⟩
  have hb := hB.nn hq.1.1 hq.1.2
  have hm : q.2 ∈ th bs q.1 := mem_th.mpr ⟨hq.1, on_iff.mpr (by omega)⟩
  have := fm_lt (f := lk (pre.foldl (stp bs T) [])) hm h1
  have h3 := hc q.1
  unfold cnt at h3
  unfold taken
  omega
theorem headD_mem {L : List Int} (h : L ≠ []) : L.headD 0 ∈ L := by
  cases L with
  | nil => exact absurd rfl h
  | cons x t => exact List.mem_cons_self
/-- the row is right -/
theorem greedy_inv (hB : Bs bs) (hc : ∀ d, cnt bs d ≤ T) : ∀ pre post, ks bs = pre ++ post → (∀ p ∈ pre.foldl (stp bs T) [], 0 ≤ p.2 ∧ p.2 < T) ∧ ∀ p ∈ pre.foldl (stp bs T) [], ∀ q ∈ pre.foldl (stp bs T) [], p.1 ≠ q.1 → p.2 = q.2 → ov (g bs p.1) (g bs q.1) = false := fun pre => by
  refine snoc_ind (P := fun pre => ∀ post, ks bs = pre ++ post → (∀ p ∈ pre.foldl (stp bs T) [], 0 ≤ p.2 ∧ p.2 < T) ∧ ∀ p ∈ pre.foldl (stp bs T) [], ∀ q ∈ pre.foldl (stp bs T) [], p.1 ≠ q.1 → p.2 = q.2 → ov (g bs p.1) (g bs q.1) = false) ?_ ?_ pre
  · intro post _
    exact ⟨fun p hp => absurd hp (by simp), fun p hp => absurd hp (by simp)⟩
  · intro pre q ih post hx
    have hx' : ks bs = pre ++ q :: post := by rw [hx]; simp
    obtain ⟨i1, i2⟩ := ih _ hx'
    obtain ⟨s1, s2⟩ := step_ok hB hc hx'
    have hq := ks_mem (bs := bs) (q := q) (by rw [hx']; simp)
    have hb := hB.nn hq.1.1 hq.1.2
    have fst := stp_fst bs T pre []
    rw [List.foldl_append, List.foldl_cons, List.foldl_nil]
    have hm := headD_mem s2
    generalize hA : pre.foldl (stp bs T) [] = as at *
    unfold stp
    generalize (fre T (taken bs as q.1)).headD 0 = t at *
    unfold fre at hm
    rw [List.mem_filter, mem_rg, Bool.not_eq_true', decide_eq_false_iff_not] at hm
    obtain ⟨ht, hnt⟩ := hm
    -- the new one against the others
    have new : ∀ p ∈ as, p.2 = t → ov (g bs p.1) (g bs q.2) = false := fun p hp e => by
      cases o : ov (g bs p.1) (g bs q.2) with
      | false => rfl
      | true =>
        exfalso
        have o := of_decide_eq_true o
        apply hnt
        have pm : p.1 ∈ pre.map (·.2) := by
          have : p.1 ∈ as.map (·.1) := List.mem_map.mpr ⟨p, hp, rfl⟩
          rw [fst] at this; simpa using this
        obtain ⟨w, hw, ew⟩ := List.mem_map.mp pm
        have wk := ks_mem (bs := bs) (q := w) (by rw [hx']; exact List.mem_append_left _ hw)
        have pw := srtP_pw (keysB bs)
        rw [show srtP (keysB bs) = ks bs from rfl, hx', List.pairwise_append] at pw
        have hle := pw.2.2 w hw q (by simp)
        unfold lexlt at hle
        have ew : w.2 = p.1 := ew
        rw [ew] at wk
        have nd : (as.map (·.1)).Nodup := by
          rw [fst]
          have := ks_nodup (bs := bs)
          rw [hx', List.map_append, List.nodup_append] at this
          simpa using this.1
        refine List.mem_filterMap.mpr ⟨p.1, mem_th.mpr ⟨wk.1, on_iff.mpr ?_⟩, ?_⟩
        · have : w.1 ≤ q.1 := by omega
          omega
        · exact lk_of_mem nd (by rw [← e]; exact hp)
    constructor
    · intro p hp
      rcases List.mem_append.mp hp with hp | hp
      · exact i1 p hp
      · rw [List.mem_singleton.mp hp]; exact ht
    · intro p hp w hw hne e
      have sym : ∀ a b : B, ov a b = ov b a := fun a b => by
        unfold ov
        rw [Bool.eq_iff_iff, decide_eq_true_iff, decide_eq_true_iff]; omega
      rcases List.mem_append.mp hp with hp | hp
      · rcases List.mem_append.mp hw with hw | hw
        · exact i2 p hp w hw hne e
        · rw [List.mem_singleton] at hw
          subst hw
          exact new p hp e
      · rw [List.mem_singleton] at hp
        subst hp
        rcases List.mem_append.mp hw with hw | hw
        · rw [sym]; exact new w hw e.symm
        · rw [List.mem_singleton] at hw
          subst hw
          exact absurd rfl hne
noncomputable def asn (bs : List B) (T : Int) : List (Int × Int) := (ks bs).foldl (stp bs T) []
noncomputable def hrow (bs : List B) (T : Int) : List Int := (rg 0 bs.length).map fun k => (lk (asn bs T) k).getD 0
theorem asn_some {k : Int} (h0 : 0 ≤ k) (h1 : k < bs.length) : ∃ t, lk (asn bs T) k = some t := by
  cases e : lk (asn bs T) k with
  | some t => exact ⟨t, rfl⟩
  | none =>
    exfalso
    refine lk_none.mp e ?_
    unfold asn
    rw [stp_fst]
    have : k ∈ (ks bs).map (·.2) := ks_snd.mem_iff.mpr (mem_rg.mpr ⟨h0, h1⟩)
    simpa using this
theorem v_map {f : Int → Int} {m : Nat} {k : Int} (h0 : 0 ≤ k) (h1 : k < m) : v ((rg 0 m).map f) k = f k := by
  unfold v rg
  rw [List.map_map, List.getD_eq_getElem?_getD, List.getElem?_map, List.getElem?_range (by omega)]
  show f (0 + (k.toNat : Int)) = f k
  congr 1; omega
theorem hrow_good (hB : Bs bs) (hc : ∀ d, cnt bs d ≤ T) : hdd bs T (hrow bs T) = true := by
  obtain ⟨i1, i2⟩ := greedy_inv hB hc (ks bs) [] (by simp)
  unfold hdd
  rw [Bool.and_eq_true, Bool.and_eq_true, decide_eq_true_iff, List.all_eq_true, hok_iff]
  refine ⟨⟨by unfold hrow; rw [List.length_map, rg_len]; omega, fun x hx => ?_⟩, fun i j h0 h1 h2 e => ?_⟩
  · obtain ⟨k, hk, rfl⟩ := List.mem_map.mp hx
    obtain ⟨k0, k1⟩ := mem_rg.mp hk
    obtain ⟨t, ht⟩ := asn_some (bs := bs) (T := T) k0 k1
    have := i1 _ (lk_mem ht)
    show (decide (0 ≤ (lk (asn bs T) k).getD 0) && decide ((lk (asn bs T) k).getD 0 < T)) = true
    rw [ht]
    simpa using this
  · unfold hrow at e
    rw [v_map h0 (by omega), v_map (by omega) h2] at e
    obtain ⟨t, ht⟩ := asn_some (bs := bs) (T := T) h0 (by omega : i < bs.length)
    obtain ⟨u, hu⟩ := asn_some (bs := bs) (T := T) (by omega : 0 ≤ j) h2
    rw [ht, hu] at e
    exact i2 _ (lk_mem ht) _ (lk_mem hu) (by simp only; omega) e
/-- days with more than the tools -/
def bar (bs : List B) (T : Int) : List Int := (rg 0 16).filter fun d => decide (T < cnt bs d)
theorem bar_nil (hB : Bs bs) : bar bs T = [] → ∀ d, cnt bs d ≤ T := fun h d => by
  have all : ∀ d ∈ rg 0 16, cnt bs d ≤ T := fun d hd => by
    have := List.filter_eq_nil_iff.mp h d hd
    simpa using this
  by_cases e : th bs d = []
  · have := all 15 (mem_rg.mpr (by omega))
    unfold cnt at this ⊢
    rw [e]
    simp
    omega
  · obtain ⟨k, ⟨k0, k1⟩, _, hk⟩ := at_begin hB.ok e
    have b := hB.nn k0 k1
    have := th_mono hk
    have h2 := all (g bs k).1 (mem_rg.mpr (by omega))
    unfold cnt at h2 ⊢
    omega
theorem bar_rows (hB : Bs bs) (hT : 0 ≤ T) : bar bs T ≠ [] → rows bs T = [] := fun h => by
  obtain ⟨d, hd⟩ := List.exists_mem_of_ne_nil _ h
  unfold bar at hd
  rw [List.mem_filter, mem_rg, decide_eq_true_iff] at hd
  refine List.eq_nil_iff_forall_not_mem.mpr fun r hr => ?_
  unfold rows at hr
  rw [List.mem_filter, mem_rws] at hr
  have nd := of_decide_eq_true (List.all_eq_true.mp hr.2 d (mem_rg.mpr hd.1))
  have := nodup_len nd (ns := rg 0 T) fun x hx => by
    obtain ⟨k, hk, rfl⟩ := List.mem_map.mp hx
    obtain ⟨⟨k0, k1⟩, _⟩ := mem_th.mp hk
    have : v r k ∈ r := by
      have e : r[k.toNat]? = some (v r k) := by
        unfold v
        rw [List.getD_eq_getElem?_getD, List.getElem?_eq_getElem (by omega)] <;> rfl
      exact List.mem_of_getElem? e
    exact mem_rg.mpr (hr.1.2 _ this)
  rw [List.length_map, rg_len] at this
  unfold cnt at hd
  omega
theorem yes_iff (hB : Bs bs) (hT : 0 ≤ T) : bar bs T = [] ↔ rows bs T ≠ [] := by
  constructor
  · intro h z
    have := (mem_rows hB).mpr (hrow_good hB (bar_nil hB h))
    rw [z] at this; cases this
  · intro h
    cases e : bar bs T with
    | nil => rfl
    | cons x t => exact absurd (bar_rows hB hT (by rw [e]; simp)) h
noncomputable def hans (bs : List B) (T : Int) : PV := match (bar bs T).head? with
  | some d => .tup [.str "no", .int d, ET (th bs d)]
  | none => .tup [.str "yes", ET (hrow bs T)]
/-- the first begin with too many is the first day with too many -/
theorem first_bar (hB : Bs bs) (hT : 0 ≤ T) : ((sset (bs.map (·.1))).filter fun d => decide (T < cnt bs d)).head? = (bar bs T).head? := by
  have hs := srt_filter (fun d => decide (T < cnt bs d)) (srt_sset (bs.map (·.1)))
  have sub : ∀ d ∈ (sset (bs.map (·.1))).filter (fun d => decide (T < cnt bs d)), d ∈ bar bs T := fun d hd => by
    rw [List.mem_filter, mem_sset] at hd
    obtain ⟨b, hb, rfl⟩ := List.mem_map.mp hd.1
    have := hB.ok b hb
    exact List.mem_filter.mpr ⟨mem_rg.mpr (by omega), hd.2⟩
  have hbs : Srt (bar bs T) := srt_filter _ (srt_rg _ _)
  cases e : bar bs T with
  | nil =>
    have : (sset (bs.map (·.1))).filter (fun d => decide (T < cnt bs d)) = [] := List.eq_nil_iff_forall_not_mem.mpr fun d hd => by
      have := sub d hd
      rw [e] at this; cases this
    rw [this]
  | cons d t =>
    have hd : d ∈ bar bs T := by rw [e]; simp
    have hmin : ∀ x ∈ bar bs T, d ≤ x := fun x hx => by
      rw [e] at hx hbs
      rcases List.mem_cons.mp hx with rfl | hx
      · exact Int.le_refl _
      · exact Int.le_of_lt ((List.pairwise_cons.mp hbs).1 x hx)
    unfold bar at hd
    rw [List.mem_filter, mem_rg, decide_eq_true_iff] at hd
    have hne : th bs d ≠ [] := fun z => by
      have := hd.2
      unfold cnt at this
      rw [z] at this; simp at this; omega
    obtain ⟨k, ⟨k0, k1⟩, k2, hk⟩ := at_begin hB.ok hne
    have b := hB.nn k0 k1
    have hm := th_mono hk
    have kb : (g bs k).1 ∈ (sset (bs.map (·.1))).filter (fun d => decide (T < cnt bs d)) := List.mem_filter.mpr ⟨mem_sset.mpr (List.mem_map.mpr ⟨_, (g_mem k0 k1).2, rfl⟩), decide_eq_true (by have := hd.2; unfold cnt at this ⊢; omega)⟩
    have eq : (g bs k).1 = d := by
      have := hmin _ (sub _ kb); omega
    rw [eq] at kb
    have := head_srt hs kb fun x hx => hmin x (sub x hx)
    rw [List.head?_eq_getElem?, this]; rfl
theorem ev_ks {Φ : Fns} {ρ : Envi} {x y k : Nat} (h : ev Φ (.var x) ρ D = some (EB bs, D)) (hl : bs.length ≤ 6)
    (H : ∀ k' : Int, 0 ≤ k' → k' < bs.length → st1 Φ [k] (.tup (.cons (.idx (.idx (.var x) (.var k)) (.int 0)) (.cons (.var k) .nil))) (.nm k) .nil ρ (.int k') D = some ([pv2 ((g bs k').1, k')], D)) :
    ev Φ (.bi .sorted (.cons (.lc1 [k] (.tup (.cons (.idx (.idx (.var x) (.var k)) (.int 0)) (.cons (.var k) .nil))) (.nm k) (.rng1 (.bi .len (.cons (.var x) .nil))) .nil) .nil)) ρ D = some (.lst ((ks bs).map pv2), D) := by
  have q := lcM (Φ := Φ) (D := D) (ρ := ρ) (own := [k]) (ce := .tup (.cons (.idx (.idx (.var x) (.var k)) (.int 0)) (.cons (.var k) .nil))) (pt := .nm k) (ci := .rng1 (.bi .len (.cons (.var x) .nil))) (ct := .nil) PV.int (rg 0 bs.length) (fun k => pv2 ((g bs k).1, k)) (by
      have := evi_len (Φ := Φ) (ρ := ρ) (D := D) (e := .var x) h (by simp; omega)
      simpa using this) fun k' hk => H k' (mem_rg.mp hk).1 (mem_rg.mp hk).2
  have e : ((rg 0 (bs.length : Int)).map fun k => pv2 ((g bs k).1, k)) = (keysB bs).map pv2 := by
    unfold keysB; rw [List.map_map]; rfl
  rw [e] at q
  rw [ev_bi, evs_cons, q]
  simp only [evs_nil, Option.bind_some, Option.map_some, mapO_cons, mapO_nil, opd_lst]
  rw [pSorted_pairs]; rfl
def encO : Option Int → PV
  | some t => .int t
  | none => .non
def fnd (bs : List B) (as : List (Int × Int)) : List PV := (rg 0 bs.length).map fun k => encO (lk as k)
theorem fnd_ix {as : List (Int × Int)} {k : Int} (h0 : 0 ≤ k) (h1 : k < bs.length) : pIdx (.lst (fnd bs as)) (.int k) = some (encO (lk as k)) := by
  refine ix_lst (fun k => encO (lk as k)) h0 ?_
  unfold rg
  rw [List.getElem?_map, List.getElem?_range (by omega)]
  show some (0 + (k.toNat : Int)) = some k
  congr 1; omega
theorem fnd_set {as : List (Int × Int)} {k t : Int} (h0 : 0 ≤ k) (h1 : k < bs.length) (h : lk as k = none) : pSet (.lst (fnd bs as)) (.int k) (.int t) = some (.lst (fnd bs (as ++ [(k, t)]))) := by
  have hl : (fnd bs as).length = bs.length := by unfold fnd; rw [List.length_map, rg_len]; omega
  show (ixN (fnd bs as).length k).map _ = _
  rw [hl, ixN_ok h0 (by omega), Option.map_some]
  congr 2
  apply List.ext_getElem
  · rw [List.length_set]; unfold fnd; simp
  · intro i i1 i2
    rw [List.getElem_set]
    have e : ∀ as : List (Int × Int), ∀ h : i < (fnd bs as).length, (fnd bs as)[i] = encO (lk as i) := fun as h => by
      unfold fnd rg
      simp
    rw [e, e, lk_app h]
    by_cases c : k.toNat = i
    · rw [if_pos c, if_pos (by omega)]; rfl
    · rw [if_neg c, if_neg (by omega)]
theorem fm_ints {as : List (Int × Int)} : ∀ L : List Int, (L.filter fun k => (lk as k).isSome).map (fun k => encO (lk as k)) = (L.filterMap (lk as)).map .int
  | [] => rfl
  | k :: L => by
    cases e : lk as k with
    | none => rw [List.filter_cons_of_neg (by rw [e]; simp), List.filterMap_cons_none e]; exact fm_ints L
    | some t => rw [List.filter_cons_of_pos (by rw [e]; rfl), List.filterMap_cons_some e, List.map_cons, List.map_cons, fm_ints L, e]; rfl
theorem ev_fre {Φ : Fns} {ρ : Envi} {x y : Nat} {L : List Int} (hT : T ≤ 3) (hT0 : 0 ≤ T) (h1 : ev Φ (.var 1) ρ D = some (.int T, D)) (hne : fre T L ≠ [])
    (H : ∀ t, st1 Φ [x] (.var x) (.nm x) (.cons (.cmp .nin (.var x) (.var y)) .nil) ρ (.int t) D = some (if (!decide (t ∈ L)) = true then [.int t] else [], D)) :
    ev Φ (.idx (.lc1 [x] (.var x) (.nm x) (.rng1 (.var 1)) (.cons (.cmp .nin (.var x) (.var y)) .nil)) (.int 0)) ρ D = some (.int ((fre T L).headD 0), D) := by
  have q := lcP (Φ := Φ) (D := D) (ρ := ρ) (own := [x]) (ce := .var x) (pt := .nm x) (ci := .rng1 (.var 1)) (ct := .cons (.cmp .nin (.var x) (.var y)) .nil) PV.int (rg 0 T) (fun t => !decide (t ∈ L)) PV.int (evi_r1 h1 (by omega) (by omega)) fun t _ => H t
  rw [ev_idx, q]
  have : pIdx (.lst ((fre T L).map .int)) (.int 0) = some (.int ((fre T L).headD 0)) := by
    cases e : fre T L with
    | nil => exact absurd e hne
    | cons a t => exact ix_lst PV.int (by decide) rfl
  unfold fre at this
  simp only [Option.bind_some, ev_int, opd_lst]
  show ((pIdx (.lst (List.map PV.int ((rg 0 T).filter fun t => !decide (t ∈ L)))) (.int 0)).map _) = _
  rw [this]; rfl
theorem handed_ok (hB : Bs bs) (hT0 : 0 ≤ T) (hT : T ≤ 3) : sem DD (n + 2) 6 [EB bs, .int T] D = some (hans bs T, D) := by
  have hl := hB.len
  rw [r_f_handed_out]
  refine run_ex rfl ?_
  unfold c_f_handed_out
  show ∃ ρ', exs _ _ [some (false, EB bs), vI T, none, none, none, none, none, none, none, none] _ = _
  have q := lcM (Φ := sem DD (n + 1)) (D := D) (ρ := [some (false, EB bs), vI T, none, none, none, none, none, none, none, none]) (own := [4, 9]) (ce := .var 4) (pt := .tp [(.nm 4), (.nm 9)]) (ci := .over (.var 0)) (ct := .nil) pv2 bs (fun b => .int b.1) rfl fun b _ => by
    simp [st1, bindP, bindPs, pv2, wipE, getS]
  have em : (bs.map fun b => PV.int b.1) = (bs.map (·.1)).map .int := by rw [List.map_map]; rfl
  rw [em] at q
  have sl : (sset (bs.map (·.1))).length < 64 := by
    have := srt_len (a := 0) (b := 16) (srt_sset (bs.map (·.1))) (fun x hx => by
      obtain ⟨b, hb, rfl⟩ := List.mem_map.mp (mem_sset.mp hx)
      have := hB.ok b hb
      omega) (by decide)
    omega
  have q2 := sortedSet_lst (ns := bs.map (·.1)) (by simp; omega) sl
  refine go_forE PV.int (sset (bs.map (·.1))) (fun (_ : Unit) ρ => ∃ x2, ρ = [some (false, EB bs), vI T, x2, none, none, none, none, none, none, none])
    (fun (_ : Unit) d => if decide (T < cnt bs d) then (.error (.tup [.str "no", .int d, ET (th bs d)]) : Except PV Unit) else .ok ()) () (by
      refine evi_ov ?_
      rw [ev_bi, evs_cons, q]
      simp only [evs_nil, Option.bind_some, Option.map_some, mapO_cons, mapO_nil, opd_lst]
      rw [q2]; rfl) ⟨_, rfl⟩ (fun s d ρ hd ⟨x2, hρ⟩ => ?_) (fun s1 hs ρ1 ⟨x2, hρ⟩ => ?_) (fun w hw => ?_)
  · subst hρ
    have t := there_on_ok (n := n) (D := D) (d := d) hl
    by_cases c : T < cnt bs d
    · rw [if_pos (decide_eq_true c)]
      unfold cnt at c
      refine ⟨[some (false, EB bs), vI T, vI d, none, none, none, none, none, none, none], ?_⟩
      simp [bindP, getS, t, pCmp, c]
    · rw [if_neg (by simpa using c)]
      unfold cnt at c
      refine ⟨.nx, [some (false, EB bs), vI T, vI d, none, none, none, none, none, none, none], ?_, .inl rfl, _, rfl⟩
      simp [bindP, getS, t, pCmp, c]
  · subst hρ
    rw [foldlM_find (fun d => decide (T < cnt bs d)) (fun d => .tup [.str "no", .int d, ET (th bs d)]), first_bar hB hT0] at hs
    have hb : bar bs T = [] := by
      cases e : bar bs T with
      | nil => rfl
      | cons x t => rw [e] at hs; cases hs
    have hc := bar_nil hB hb
    have ha : hans bs T = .tup [.str "yes", ET (hrow bs T)] := by unfold hans; rw [hb]; rfl
    rw [ha]
    have rep : (List.replicate bs.length [PV.non]).flatten = fnd bs [] := by
      unfold fnd rg
      rw [List.map_map]
      apply List.ext_getElem
      · simp
      · intro i h1 h2
        simp [encO, lk]
    refine go_asg (.lst (fnd bs [])) ?_ ?_
    · have : pBin .rep (.lst [.non]) (.int bs.length) = some (.lst (fnd bs [])) := by
        show (if ([PV.non].length * ((bs.length : Int)).toNat ≤ LIM ∧ (bs.length : Int) ≤ LIM ∧ -LIM ≤ (bs.length : Int)) then some (PV.lst (List.replicate ((bs.length : Int)).toNat [PV.non]).flatten) else none) = _
        rw [if_pos (by simp; exact ⟨by show bs.length ≤ 1000000; omega, by show (bs.length : Int) ≤ 1000000; omega⟩), Int.toNat_natCast, rep]
      simp [getS, this]
    refine go_forP pv2 (ks bs) (fun (as : List (Int × Int)) ρ => ∃ x4 x5 x6, ρ = [some (false, EB bs), vI T, x2, some (true, .lst (fnd bs as)), x4, x5, x6, none, none, none]) (stp bs T) [] ?_ ⟨_, _, _, rfl⟩ (fun pre p post ρ hx ⟨x4, x5, x6, hρ⟩ => ?_) (fun ρ1 ⟨x4, x5, x6, hρ⟩ => ?_)
    · refine evi_ov (ev_ks (x := 0) (y := 0) (k := 5) rfl hl fun k' k0 k1 => ?_)
      have := ixb k0 k1
      simp [st1, bindP, wipE, getS, this]
      rfl
    · subst hρ
      obtain ⟨s1, s2⟩ := step_ok hB hc hx
      have hp := ks_mem (bs := bs) (q := p) (by rw [hx]; simp)
      unfold stp
      rw [show pre.foldl (fun as q => as ++ [(q.2, (fre T (taken bs as q.1)).headD 0)]) [] = pre.foldl (stp bs T) [] from rfl]
      generalize pre.foldl (stp bs T) [] = as at *
      have t := there_on_ok (n := n) (D := D) (d := p.1) hl
      have q5 := lcP (Φ := sem DD (n + 1)) (D := D) (ρ := [some (false, EB bs), vI T, x2, some (true, .lst (fnd bs as)), vI p.1, vI p.2, x6, none, none, none]) (own := [7]) (ce := .idx (.bor 3) (.var 7)) (pt := .nm 7) (ci := .over (.call 5 (.cons (.var 0) (.cons (.var 4) .nil)))) (ct := .cons (.cmp .isn (.idx (.bor 3) (.var 7)) .non) .nil) PV.int (th bs p.1) (fun k => (lk as k).isSome) (fun k => encO (lk as k)) (by simp [getS, t]) fun k hk => by
        obtain ⟨⟨k0, k1⟩, _⟩ := mem_th.mp hk
        have a := fnd_ix (bs := bs) (as := as) k0 k1
        cases e : lk as k with
        | none => rw [e] at a; simp [st1, bindP, wipE, getS, borS, a, pCmp, encO, isNon]
        | some z => rw [e] at a; simp [st1, bindP, wipE, getS, borS, a, pCmp, encO, isNon]
      rw [fm_ints, show (th bs p.1).filterMap (lk as) = taken bs as p.1 from rfl] at q5
      generalize taken bs as p.1 = L at *
      have q6 := ev_fre (Φ := sem DD (n + 1)) (D := D) (ρ := [some (false, EB bs), vI T, x2, some (true, .lst (fnd bs as)), vI p.1, vI p.2, some (false, .lst (L.map .int)), none, none, none]) (x := 8) (y := 6) hT hT0 rfl s2 fun z => by
        by_cases c : z ∈ L <;> simp [st1, bindP, wipE, getS, pCmp, c]
      generalize (fre T L).headD 0 = z at *
      have fs := fnd_set (bs := bs) (as := as) (k := p.2) (t := z) hp.1.1 hp.1.2 s1
      refine ⟨.nx, [some (false, EB bs), vI T, x2, some (true, .lst (fnd bs (as ++ [(p.2, z)]))), vI p.1, vI p.2, some (false, .lst (L.map .int)), none, none, none], ?_, .inl rfl, _, _, _, rfl⟩
      show exs _ _ [some (false, EB bs), vI T, x2, some (true, .lst (fnd bs as)), vI p.1, vI p.2, x6, none, none, none] D = _
      rw [exs_cons, ex_asg, q5]
      show exs _ _ [some (false, EB bs), vI T, x2, some (true, .lst (fnd bs as)), vI p.1, vI p.2, some (false, .lst (L.map .int)), none, none, none] D = _
      rw [exs_cons, ex_setI, q6, Option.bind_some]
      have v5 : ev (sem DD (n + 1)) (.var 5) [some (false, EB bs), vI T, x2, some (true, .lst (fnd bs as)), vI p.1, vI p.2, some (false, .lst (L.map .int)), none, none, none] D = some (.int p.2, D) := rfl
      rw [v5, Option.bind_some, chg_of (x := .lst (fnd bs as)) rfl, fs]
      rfl
    · subst hρ
      refine go_ret ?_
      have : fnd bs (asn bs T) = (hrow bs T).map .int := by
        unfold fnd hrow
        rw [List.map_map]
        refine List.map_congr_left fun k hk => ?_
        obtain ⟨k0, k1⟩ := mem_rg.mp hk
        obtain ⟨z, hz⟩ := asn_some (bs := bs) (T := T) k0 k1
        show encO _ = PV.int ((lk (asn bs T) k).getD 0)
        rw [hz]; rfl
      rw [show (ks bs).foldl (stp bs T) [] = asn bs T from rfl, this]
      simp [borS]
  · rw [foldlM_find (fun d => decide (T < cnt bs d)) (fun d => .tup [.str "no", .int d, ET (th bs d)]), first_bar hB hT0] at hw
    unfold hans
    cases e : (bar bs T).head? with
    | none => rw [e] at hw; cases hw
    | some d => rw [e] at hw; cases hw; rfl
theorem law_handed_ok (hB : Bs bs) (hT0 : 0 ≤ T) (hT : T ≤ 3) : sem DD (n + 2) 28 [EB bs, .int T] D = some (hans bs T, D) := by
  have hl := hB.len
  rw [r_f__law_handed]
  refine run_ex rfl ?_
  unfold c_f__law_handed
  show ∃ ρ', exs _ _ [some (false, EB bs), vI T, none, none, none, none, none, none, none] _ = _
  refine go_asg (.lst ((bar bs T).map .int)) ?_ ?_
  · refine lcP PV.int (rg 0 16) (fun d => decide (T < cnt bs d)) PV.int (evi_r1 rfl (by decide) (by decide)) fun d _ => ?_
    have t := law_there_ok (n := n) (D := D) (d := d) (.inl rfl) hl
    by_cases c : T < cnt bs d
    · rw [if_pos (decide_eq_true c)]
      unfold cnt at c
      simp [st1, bindP, wipE, getS, t, pCmp, c]
    · rw [if_neg (by simpa using c)]
      unfold cnt at c
      simp [st1, bindP, wipE, getS, t, pCmp, c]
  show ∃ ρ', exs _ _ [some (false, EB bs), vI T, some (false, .lst ((bar bs T).map .int)), none, none, none, none, none, none] _ = _
  cases e : bar bs T with
  | cons d tl =>
    have t := law_there_ok (n := n) (D := D) (d := d) (.inl rfl) hl
    have i0 : pIdx (.lst ((d :: tl).map .int)) (.int 0) = some (.int d) := ix_lst PV.int (by decide) rfl
    have ha : hans bs T = .tup [.str "no", .int d, ET (th bs d)] := by unfold hans; rw [e]; rfl
    rw [ha]
    refine ⟨[some (false, EB bs), vI T, some (false, .lst ((d :: tl).map .int)), none, none, none, none, none, none], ?_⟩
    have ne : pCmp .ne (.lst ((d :: tl).map .int)) (.lst []) = some true := by
      show (pEq _ _).map _ = _
      rw [pEq_lstN]; simp
    have v2 : ev (sem DD (n + 1)) (.var 2) [some (false, EB bs), vI T, some (false, .lst ((d :: tl).map .int)), none, none, none, none, none, none] D = some (.lst ((d :: tl).map .int), D) := rfl
    have iv : ev (sem DD (n + 1)) (.idx (.var 2) (.int 0)) [some (false, EB bs), vI T, some (false, .lst ((d :: tl).map .int)), none, none, none, none, none, none] D = some (.int d, D) := by
      rw [ev_idx, v2]
      simp only [Option.bind_some, ev_int, opd_lst, i0, Option.map_some]
    have cl : ev (sem DD (n + 1)) (.call 24 (.cons (.var 0) (.cons (.idx (.var 2) (.int 0)) .nil))) [some (false, EB bs), vI T, some (false, .lst ((d :: tl).map .int)), none, none, none, none, none, none] D = some (.lst ((th bs d).map .int), D) := by
      rw [ev_call, evs_cons, show ev (sem DD (n + 1)) (.var 0) [some (false, EB bs), vI T, some (false, .lst ((d :: tl).map .int)), none, none, none, none, none, none] D = some (EB bs, D) from rfl, Option.bind_some, evs_cons, iv]
      simp only [Option.bind_some, evs_nil, Option.map_some]
      exact t
    have tu : ev (sem DD (n + 1)) (.bi .tuple (.cons (.call 24 (.cons (.var 0) (.cons (.idx (.var 2) (.int 0)) .nil))) .nil)) [some (false, EB bs), vI T, some (false, .lst ((d :: tl).map .int)), none, none, none, none, none, none] D = some (ET (th bs d), D) := by
      rw [ev_bi, evs_cons, cl]
      simp only [Option.bind_some, evs_nil, Option.map_some, mapO_cons, mapO_nil, opd_lst]
      rfl
    rw [exs_cons, ex_ife, ev_cmp, v2]
    simp only [Option.bind_some, ev_lst, evs_nil, Option.map_some, opd_lst, ne, blOf_bl, if_true]
    rw [exs_cons, ex_ret, ev_tup, evs_cons, ev_str, Option.bind_some, evs_cons, iv, Option.bind_some, evs_cons, tu]
    rfl
  | nil =>
    have hc := bar_nil hB e
    have ha : hans bs T = .tup [.str "yes", ET (hrow bs T)] := by unfold hans; rw [e]; rfl
    rw [ha]
    have s1 : ex (sem DD (n + 1)) (.ife (.cmp .ne (.var 2) (.lst .nil)) (.cons (.ret (.tup (.cons (.str "no") (.cons (.idx (.var 2) (.int 0)) (.cons (.bi .tuple (.cons (.call 24 (.cons (.var 0) (.cons (.idx (.var 2) (.int 0)) .nil))) .nil)) .nil))))) .nil) .nil) [some (false, EB bs), vI T, some (false, .lst []), none, none, none, none, none, none] D = some (.nx, [some (false, EB bs), vI T, some (false, .lst []), none, none, none, none, none, none], D) := by
      have n0 : pEq (.lst []) (.lst []) = some true := rfl
      simp [getS, pCmp, n0]
    refine go_nx s1 ?_
    refine go_asg (.dct 0 (kvI [])) rfl ?_
    refine go_forP pv2 (ks bs) (fun (as : List (Int × Int)) ρ => as.length ≤ 100 → ∃ x4 x5, ρ = [some (false, EB bs), vI T, some (false, .lst []), some (true, .dct 0 (kvI as)), x4, x5, none, none, none]) (stp bs T) [] ?_ (fun _ => ⟨_, _, rfl⟩) (fun pre p post ρ hx hR => ?_) (fun ρ1 hR => ?_)
    · refine evi_ov (ev_ks (x := 0) (y := 0) (k := 7) rfl hl fun k' k0 k1 => ?_)
      have := ixb k0 k1
      simp [st1, bindP, wipE, getS, this]
      rfl
    · have hp := ks_mem (bs := bs) (q := p) (by rw [hx]; simp)
      have hlen : (pre.foldl (stp bs T) []).length ≤ 6 := by
        have h1 := congrArg List.length (stp_fst bs T pre [])
        have h2 := ks_snd (bs := bs)
        rw [hx] at h2
        have h2 := h2.length_eq
        rw [rg_len] at h2
        simp at h1 h2
        omega
      obtain ⟨x4, x5, hρ⟩ := hR (by omega)
      subst hρ
      obtain ⟨s1, s2⟩ := step_ok hB hc hx
      unfold stp
      rw [show pre.foldl (fun as q => as ++ [(q.2, (fre T (taken bs as q.1)).headD 0)]) [] = pre.foldl (stp bs T) [] from rfl]
      generalize pre.foldl (stp bs T) [] = as at *
      have t := law_there_ok (n := n) (D := D) (d := p.1) (.inl rfl) hl
      have q5 := lcP (Φ := sem DD (n + 1)) (D := D) (ρ := [some (false, EB bs), vI T, some (false, .lst []), some (true, .dct 0 (kvI as)), some (false, pv2 p), x5, none, none, none]) (own := [7]) (ce := .idx (.bor 3) (.var 7)) (pt := .nm 7) (ci := .over (.call 24 (.cons (.var 0) (.cons (.idx (.var 4) (.int 0)) .nil)))) (ct := .cons (.cmp .in_ (.var 7) (.bor 3)) .nil) PV.int (th bs p.1) (fun k => (lk as k).isSome) (fun k => encO (lk as k)) (by simp [getS, t]) fun k hk => by
        have a : pIn (.int k) (.dct 0 (kvI as)) = some (lk as k).isSome := by
          show (if isKey 0 (.int k) then some (dGet (.int k) (kvI as)).isSome else none) = _
          rw [if_pos (show isKey 0 (.int k) = true from rfl), dGet_I]; simp
        have b : ∀ z, lk as k = some z → pIdx (.dct 0 (kvI as)) (.int k) = some (.int z) := fun z e => by
          show (if isKey 0 (.int k) then dGet (.int k) (kvI as) else none) = _
          rw [if_pos (show isKey 0 (.int k) = true from rfl), dGet_I, e]; rfl
        cases e : lk as k with
        | none => rw [e] at a; simp [st1, bindP, wipE, getS, borS, a, pCmp]
        | some z =>
          rw [e] at a
          have b := b z e
          simp [st1, bindP, wipE, getS, borS, a, b, pCmp, encO]
      rw [fm_ints, show (th bs p.1).filterMap (lk as) = taken bs as p.1 from rfl] at q5
      generalize taken bs as p.1 = L at *
      have q6 := ev_fre (Φ := sem DD (n + 1)) (D := D) (ρ := [some (false, EB bs), vI T, some (false, .lst []), some (true, .dct 0 (kvI as)), some (false, pv2 p), some (false, .lst (L.map .int)), none, none, none]) (x := 8) (y := 5) hT hT0 rfl s2 fun z => by
        by_cases c : z ∈ L <;> simp [st1, bindP, wipE, getS, pCmp, c]
      generalize (fre T L).headD 0 = z at *
      have fs : pSet (.dct 0 (kvI as)) (.int p.2) (.int z) = some (.dct 0 (kvI (as ++ [(p.2, z)]))) := by
        show (if isKey 0 (.int p.2) && decide ((kvI as).length < LIM) then some (PV.dct 0 (dPut (.int p.2) (.int z) (kvI as))) else none) = _
        rw [if_pos (by
          rw [Bool.and_eq_true]
          refine ⟨rfl, decide_eq_true ?_⟩
          show _ < 1000000
          unfold kvI
          rw [List.length_map]; omega), dPut_I s1]
      refine ⟨.nx, [some (false, EB bs), vI T, some (false, .lst []), some (true, .dct 0 (kvI (as ++ [(p.2, z)]))), some (false, pv2 p), some (false, .lst (L.map .int)), none, none, none], ?_, .inl rfl, fun _ => ⟨_, _, rfl⟩⟩
      show exs _ _ [some (false, EB bs), vI T, some (false, .lst []), some (true, .dct 0 (kvI as)), some (false, pv2 p), x5, none, none, none] D = _
      rw [exs_cons, ex_asg, q5]
      show exs _ _ [some (false, EB bs), vI T, some (false, .lst []), some (true, .dct 0 (kvI as)), some (false, pv2 p), some (false, .lst (L.map .int)), none, none, none] D = _
      rw [exs_cons, ex_setI, q6, Option.bind_some]
      have v5 : ev (sem DD (n + 1)) (.idx (.var 4) (.int 1)) [some (false, EB bs), vI T, some (false, .lst []), some (true, .dct 0 (kvI as)), some (false, pv2 p), some (false, .lst (L.map .int)), none, none, none] D = some (.int p.2, D) := rfl
      rw [v5, Option.bind_some, chg_of (x := .dct 0 (kvI as)) rfl, fs]
      rfl
    · obtain ⟨x4, x5, hρ⟩ := hR (by
        have h1 := congrArg List.length (stp_fst bs T (ks bs) [])
        have h2 := (ks_snd (bs := bs)).length_eq
        rw [rg_len] at h2
        simp at h1 h2
        omega)
      subst hρ
      refine go_ret ?_
      rw [show (ks bs).foldl (stp bs T) [] = asn bs T from rfl]
      have q := lcM (Φ := sem DD (n + 1)) (D := D) (ρ := [some (false, EB bs), vI T, some (false, .lst []), some (true, .dct 0 (kvI (asn bs T))), x4, x5, none, none, none]) (own := [7]) (ce := .idx (.bor 3) (.var 7)) (pt := .nm 7) (ci := .rng1 (.bi .len (.cons (.var 0) .nil))) (ct := .nil) PV.int (rg 0 bs.length) (fun k => .int ((lk (asn bs T) k).getD 0)) (evi_r1 (by simp [getS]) (by omega) (by omega)) fun k hk => by
        obtain ⟨k0, k1⟩ := mem_rg.mp hk
        obtain ⟨z, hz⟩ := asn_some (bs := bs) (T := T) k0 k1
        have b : pIdx (.dct 0 (kvI (asn bs T))) (.int k) = some (.int z) := by
          show (if isKey 0 (.int k) then dGet (.int k) (kvI (asn bs T)) else none) = _
          rw [if_pos (show isKey 0 (.int k) = true from rfl), dGet_I, hz]; rfl
        simp [st1, bindP, wipE, getS, borS, b, hz]
      have em : ((rg 0 (bs.length : Int)).map fun k => PV.int ((lk (asn bs T) k).getD 0)) = (hrow bs T).map .int := by
        unfold hrow; rw [List.map_map]; rfl
      rw [em] at q
      simp [q]
end
end MP.K02

namespace MP.K02
open PySem MP
section
variable {bs : List B} {n : Nat} {D : DS} {d T : Int}
/-! ### with some fixed -/
structure Fx (bs : List B) (T : Int) (fx : List (Int × Int)) : Prop where
  nd : (fx.map (·.1)).Nodup
  ok : ∀ p ∈ fx, (0 ≤ p.1 ∧ p.1 < bs.length) ∧ 0 ≤ p.2 ∧ p.2 < T
def ab (T : Int) (fx : List (Int × Int)) (k : Int) : List Int := match lk fx k with
  | some t => [t]
  | none => rg 0 T
def wst (bs : List B) (T : Int) (fx : List (Int × Int)) (rows : List (List Int)) (k : Int) : List (List Int) := rows.flatMap fun r => ((ab T fx k).filter (chv bs r k)).map fun t => r ++ [t]
def fxk (fx : List (Int × Int)) (r : List Int) (k : Int) : Bool := match lk fx k with
  | some t => decide (v r k = t)
  | none => true
def fxo (fx : List (Int × Int)) (r : List Int) (m : Int) : Bool := (rg 0 m).all (fxk fx r)
theorem filter_one {p q : Int → Bool} : ∀ {L : List Int}, L.Nodup → ∀ t ∈ L, (∀ x ∈ L, q x = decide (x = t)) → L.filter (fun x => p x && q x) = [t].filter p
  | x :: L, hn, t, ht, hq => by
    rw [List.nodup_cons] at hn
    by_cases c : x = t
    · subst c
      have none : L.filter (fun y => p y && q y) = [] := List.filter_eq_nil_iff.mpr fun y hy => by
        have : q y = false := by
          rw [hq y (List.mem_cons_of_mem _ hy)]
          exact decide_eq_false fun e => hn.1 (by rw [← e]; exact hy)
        rw [this]; simp
      have hx : q x = true := by rw [hq x List.mem_cons_self]; simp
      by_cases hp : p x = true
      · rw [List.filter_cons_of_pos (by rw [hp, hx]; rfl), none, List.filter_cons_of_pos hp]; rfl
      · rw [List.filter_cons_of_neg (by rw [Bool.eq_false_iff.mpr hp]; simp), none, List.filter_cons_of_neg hp]; rfl
    · have hx : q x = false := by rw [hq x List.mem_cons_self]; exact decide_eq_false c
      rw [List.filter_cons_of_neg (by rw [hx]; simp)]
      have ht' : t ∈ L := by
        rcases List.mem_cons.mp ht with e | h
        · exact absurd e.symm c
        · exact h
      exact filter_one hn.2 t ht' fun y hy => hq y (List.mem_cons_of_mem _ hy)
theorem all_cg {p q : Int → Bool} {L : List Int} (h : ∀ x ∈ L, p x = q x) : L.all p = L.all q := by
  rw [Bool.eq_iff_iff, List.all_eq_true, List.all_eq_true]
  exact ⟨fun k x hx => by rw [← h x hx]; exact k x hx, fun k x hx => by rw [h x hx]; exact k x hx⟩
theorem chv_snoc {r : List Int} {t k u : Int} (h0 : 0 ≤ k) (h1 : k ≤ r.length) : chv bs (r ++ [t]) k u = chv bs r k u := by
  unfold chv
  refine all_cg ?_
  intro i hi
  obtain ⟨i0, i1⟩ := mem_rg.mp hi
  rw [v_snoc i0 (by omega)]
theorem hok_snoc {r : List Int} {t : Int} : hok bs (r ++ [t]) ((r.length : Int) + 1) = (hok bs r r.length && chv bs r r.length t) := by
  unfold hok
  rw [rg_succ (by omega), List.all_append, List.all_cons, List.all_nil, Bool.and_true, v_last, chv_snoc (by omega) (Int.le_refl _)]
  congr 1
  refine all_cg ?_
  intro j hj
  obtain ⟨j0, j1⟩ := mem_rg.mp hj
  rw [v_snoc j0 j1, chv_snoc j0 (by omega)]
theorem fxo_snoc {fx : List (Int × Int)} {r : List Int} {t : Int} : fxo fx (r ++ [t]) ((r.length : Int) + 1) = (fxo fx r r.length && fxk fx (r ++ [t]) r.length) := by
  unfold fxo
  rw [rg_succ (by omega), List.all_append, List.all_cons, List.all_nil, Bool.and_true]
  congr 1
  refine all_cg ?_
  intro j hj
  obtain ⟨j0, j1⟩ := mem_rg.mp hj
  unfold fxk
  rw [v_snoc j0 j1]
theorem ab_ok {fx : List (Int × Int)} (hF : Fx bs T fx) {k t : Int} (h : t ∈ ab T fx k) : 0 ≤ t ∧ t < T := by
  unfold ab at h
  cases e : lk fx k with
  | none => rw [e] at h; exact mem_rg.mp h
  | some u =>
    rw [e] at h
    rw [List.mem_singleton.mp h]
    exact (hF.ok _ (lk_mem e)).2
theorem wrow_eq {fx : List (Int × Int)} (hF : Fx bs T fx) : ∀ m : Nat, (rg 0 m).foldl (wst bs T fx) [[]] = (rws m T).filter fun r => hok bs r m && fxo fx r m
  | 0 => by
    show [[]] = [[]].filter _
    rw [List.filter_cons_of_pos (by rfl)]; rfl
  | m + 1 => by
    have e : rg 0 ((m + 1 : Nat) : Int) = rg 0 m ++ [(m : Int)] := by
      rw [Int.natCast_add]; exact rg_succ (by omega)
    rw [e, List.foldl_append, wrow_eq hF m, List.foldl_cons, List.foldl_nil]
    show _ = (arow (rws m T) T).filter _
    unfold wst arow
    rw [List.filter_flatMap]
    have key : ∀ L : List (List Int), (∀ r ∈ L, r.length = m) → ((L.filter fun r => hok bs r m && fxo fx r m).flatMap fun r => ((ab T fx m).filter (chv bs r m)).map fun t => r ++ [t]) = L.flatMap fun r => ((rg 0 T).map fun t => r ++ [t]).filter fun r => hok bs r ((m + 1 : Nat) : Int) && fxo fx r ((m + 1 : Nat) : Int) := fun L => by
      induction L with
      | nil => exact fun _ => rfl
      | cons r L ih =>
        intro h
        have hr := h r List.mem_cons_self
        rw [List.flatMap_cons, ← ih fun x hx => h x (List.mem_cons_of_mem _ hx)]
        have inner : ((rg 0 T).map fun t => r ++ [t]).filter (fun r => hok bs r ((m + 1 : Nat) : Int) && fxo fx r ((m + 1 : Nat) : Int)) = if (hok bs r m && fxo fx r m) = true then ((ab T fx m).filter (chv bs r m)).map (fun t => r ++ [t]) else [] := by
          have em : ((m + 1 : Nat) : Int) = (r.length : Int) + 1 := by omega
          have em2 : (m : Int) = r.length := by omega
          rw [List.filter_map, em, em2]
          have pt : ∀ t, (((fun r => hok bs r ((r.length : Int)) && fxo fx r (r.length : Int))) ∘ fun t => r ++ [t]) t = (((fun s => hok bs s ((r.length : Int) + 1) && fxo fx s ((r.length : Int) + 1))) ∘ fun t => r ++ [t]) t := fun t => by
            show (hok bs (r ++ [t]) ((r ++ [t]).length : Int) && _) = _
            simp
          have pt2 : ∀ t, (((fun s => hok bs s ((r.length : Int) + 1) && fxo fx s ((r.length : Int) + 1))) ∘ fun t => r ++ [t]) t = ((hok bs r r.length && fxo fx r r.length) && (chv bs r r.length t && fxk fx (r ++ [t]) r.length)) := fun t => by
            show (hok bs (r ++ [t]) ((r.length : Int) + 1) && fxo fx (r ++ [t]) ((r.length : Int) + 1)) = _
            rw [hok_snoc, fxo_snoc]
            cases hok bs r r.length <;> cases fxo fx r r.length <;> cases chv bs r r.length t <;> rfl
          rw [List.filter_congr (q := fun t => ((hok bs r r.length && fxo fx r r.length) && (chv bs r r.length t && fxk fx (r ++ [t]) r.length))) fun t _ => pt2 t]
          by_cases c : (hok bs r r.length && fxo fx r r.length) = true
          · rw [if_pos c, c]
            simp only [Bool.true_and]
            congr 1
            unfold ab
            cases el : lk fx (r.length : Int) with
            | none =>
              refine List.filter_congr fun t _ => ?_
              unfold fxk; rw [el]; simp
            | some u =>
              have hu := (hF.ok _ (lk_mem el)).2
              have : (rg 0 T).filter (fun t => chv bs r r.length t && fxk fx (r ++ [t]) r.length) = [u].filter (chv bs r r.length) := filter_one (srt_nodup (srt_rg _ _)) u (mem_rg.mpr hu) fun x _ => by
                unfold fxk; rw [el, v_last]
              rw [this]
          · rw [if_neg c, Bool.eq_false_iff.mpr c]
            simp
        rw [inner]
        by_cases c : (hok bs r m && fxo fx r m) = true
        · rw [List.filter_cons_of_pos (p := fun r => hok bs r m && fxo fx r m) c, if_pos c, List.flatMap_cons]
        · rw [List.filter_cons_of_neg (p := fun r => hok bs r m && fxo fx r m) c, if_neg c, List.nil_append]
    exact key _ fun r hr => (mem_rws.mp hr).1
def wans (rows : List (List Int)) : PV := match rows.head? with
  | some r => ET r
  | none => .non
/-- the law's rows with some fixed -/
def abl (bs : List B) (T : Int) (fx : List (Int × Int)) : List (List Int) := (rows bs T).filter fun r => (fx.filter fun p => !decide (v r p.1 = p.2)) = []
theorem abl_eq {fx : List (Int × Int)} (hB : Bs bs) (hF : Fx bs T fx) : (rg 0 bs.length).foldl (wst bs T fx) [[]] = abl bs T fx := by
  rw [wrow_eq hF]
  unfold abl rows
  rw [List.filter_filter]
  refine List.filter_congr fun r hr => ?_
  rw [lgd_hok hB, Bool.and_comm]
  congr 1
  rw [Bool.eq_iff_iff, decide_eq_true_iff, List.filter_eq_nil_iff]
  unfold fxo
  rw [List.all_eq_true]
  constructor
  · intro h p hp
    have := h p.1 (mem_rg.mpr (hF.ok p hp).1)
    unfold fxk at this
    rw [lk_of_mem hF.nd (t := p.2) hp] at this
    simpa using this
  · intro h k hk
    unfold fxk
    cases e : lk fx k with
    | none => rfl
    | some t =>
      have := h _ (lk_mem e)
      simpa using this
theorem fixed_ok {fx : List (Int × Int)} (hB : Bs bs) (hT0 : 0 ≤ T) (hT : T ≤ 3) (hF : Fx bs T fx) : sem DD (n + 3) 10 [EB bs, .int T, .dct 0 (kvI fx)] D = some (wans (abl bs T fx), D) := by
  have hl := hB.len
  rw [← abl_eq hB hF, r_f_with_fixed]
  refine run_ex rfl ?_
  unfold c_f_with_fixed
  show ∃ ρ', exs _ _ [some (false, EB bs), vI T, some (false, .dct 0 (kvI fx)), none, none, none, none, none] _ = _
  refine go_asg (.lst ([[]].map ET)) rfl ?_
  have bnd : ∀ m : Nat, m ≤ 6 → ((rg 0 m).foldl (wst bs T fx) [[]]).length ≤ 729 ∧ ∀ r ∈ (rg 0 m).foldl (wst bs T fx) [[]], r.length = m := fun m hm => by
    rw [wrow_eq hF]
    exact ⟨Nat.le_trans (List.length_filter_le _ _) (rws_729 hT hm), fun r hr => (mem_rws.mp (List.mem_filter.mp hr).1).1⟩
  have er := early (wst bs T fx) .non (fun _ => rfl)
  refine go_forEP PV.int (rg 0 bs.length) (fun (rows : List (List Int)) ρ => ∃ x4 x5, ρ = [some (false, EB bs), vI T, some (false, .dct 0 (kvI fx)), some (false, .lst (rows.map ET)), x4, x5, none, none])
    (fun rows k => if wst bs T fx rows k = [] then (.error .non : Except PV (List (List Int))) else .ok (wst bs T fx rows k)) [[]] (evi_r1 (by simp [getS]) (by omega) (by omega)) ⟨_, _, rfl⟩ (fun pre k post s ρ hx hs ⟨x4, x5, hρ⟩ => ?_) (fun s1 hs ρ1 ⟨x4, x5, hρ⟩ => ?_) (fun w hw => ?_)
  · subst hρ
    have hk : k ∈ rg 0 bs.length := by rw [hx]; simp
    obtain ⟨k0, k1⟩ := mem_rg.mp hk
    -- pre is 0 .. k - 1
    have hpre : k = pre.length ∧ pre = rg 0 pre.length := by
      have hg : ∀ i : Nat, i < bs.length → (rg 0 (bs.length : Int))[i]? = some (i : Int) := fun i hi => by
        unfold rg
        rw [List.getElem?_map, List.getElem?_range (by omega)]
        simp
      have hpl : pre.length < bs.length := by
        have := congrArg List.length hx
        rw [List.length_append, List.length_cons, rg_len] at this
        omega
      constructor
      · have := hg pre.length hpl
        rw [hx, List.getElem?_append_right (Nat.le_refl _)] at this
        simpa using this
      · apply List.ext_getElem?
        intro i
        by_cases c : i < pre.length
        · have h1 := hg i (by omega)
          rw [hx, List.getElem?_append_left c] at h1
          rw [h1]
          unfold rg
          rw [List.getElem?_map, List.getElem?_range (by omega)]
          simp
        · rw [List.getElem?_eq_none (by omega), List.getElem?_eq_none (by rw [rg_len]; omega)]
    have hs2 := er pre [[]] (by simp)
    rw [hs] at hs2
    have hpl : pre.length < bs.length := by omega
    obtain ⟨b1, b2⟩ := bnd pre.length (by omega)
    obtain ⟨b3, b4⟩ := bnd (pre.length + 1) (by omega)
    have e : rg 0 ((pre.length + 1 : Nat) : Int) = rg 0 pre.length ++ [k] := by
      rw [Int.natCast_add, hpre.1]; exact rg_succ (by omega)
    rw [e, List.foldl_append, List.foldl_cons, List.foldl_nil] at b3
    rw [← hpre.2] at b1 b2 b3
    rw [← hs2.1] at b1 b2 b3
    clear hs hs2 b4
    have e5 : ev (sem DD (n + 2)) (.ite (.cmp .in_ (.var 4) (.var 2)) (.lst (.cons (.idx (.var 2) (.var 4)) .nil)) (.bi .listRange (.cons (.var 1) .nil))) [some (false, EB bs), vI T, some (false, .dct 0 (kvI fx)), some (false, .lst (s.map ET)), vI k, x5, none, none] D = some (.lst ((ab T fx k).map .int), D) := by
      have a : pIn (.int k) (.dct 0 (kvI fx)) = some (lk fx k).isSome := by
        show (if isKey 0 (.int k) then some (dGet (.int k) (kvI fx)).isSome else none) = _
        rw [if_pos (show isKey 0 (.int k) = true from rfl), dGet_I]; simp
      have b : ∀ z, lk fx k = some z → pIdx (.dct 0 (kvI fx)) (.int k) = some (.int z) := fun z e => by
        show (if isKey 0 (.int k) then dGet (.int k) (kvI fx) else none) = _
        rw [if_pos (show isKey 0 (.int k) = true from rfl), dGet_I, e]; rfl
      unfold ab
      cases e : lk fx k with
      | none =>
        rw [e] at a
        have lr : pBi .listRange [.int T] = some (.lst ((rg 0 T).map .int)) := by
          show (if T ≤ LIM ∧ -LIM ≤ T then some (PV.lst ((List.range T.toNat).map fun (k : Nat) => PV.int k)) else none) = _
          rw [if_pos ⟨by show T ≤ 1000000; omega, by show (-1000000 : Int) ≤ T; omega⟩]
          unfold rg
          rw [List.map_map]
          congr 2
          simp
        simp [getS, a, pCmp, lr]
      | some z =>
        rw [e] at a
        simp [getS, a, b z e, pCmp]
    have ablen : (ab T fx k).length ≤ 3 := by
      unfold ab
      cases lk fx k with
      | none => rw [rg_len]; omega
      | some z => simp
    have e3 := lc2G (Φ := sem DD (n + 2)) (D := D) (ρ := [some (false, EB bs), vI T, some (false, .dct 0 (kvI fx)), some (false, .lst (s.map ET)), vI k, some (false, .lst ((ab T fx k).map .int)), none, none]) (own := [6, 7]) (own2 := [7]) (ce := .bin .add (.var 6) (.tup (.cons (.var 7) .nil))) (pt := .nm 6) (pt2 := .nm 7) (ci := .over (.var 3)) (ci2 := .over (.var 5)) (ct := .nil) (ct2 := .cons (.call 11 (.cons (.var 0) (.cons (.var 6) (.cons (.var 4) (.cons (.var 7) .nil))))) .nil)
      ET s PV.int (fun _ => ab T fx k) (fun r t => if chv bs r k t then [ET (r ++ [t])] else []) (fun r => [some (false, EB bs), vI T, some (false, .dct 0 (kvI fx)), some (false, .lst (s.map ET)), vI k, some (false, .lst ((ab T fx k).map .int)), some (false, ET r), none]) rfl (fun _ _ => rfl) (fun _ _ => rfl) (fun _ _ => rfl) (fun r hr t ht => by
        have hrl := b2 r hr
        have c := can_have_ok (n := n) (D := D) (bs := bs) (r := r) (k := k) (t := t) k0 k1 hl (by omega)
        have a := row_add (r := r) (k := t) (by omega)
        cases h : chv bs r k t <;> simp [st1, bindP, wipE, getS, c, a, h]) (by
        have := flat_len (fun r : List Int => (ab T fx k).flatMap fun t => if chv bs r k t then [ET (r ++ [t])] else []) 3 s fun r _ => by
          have h1 := flat_len (fun t : Int => if chv bs r k t then [ET (r ++ [t])] else []) 1 (ab T fx k) fun _ _ => by split <;> simp
          omega
        omega)
    have e3' : (s.flatMap fun r => (ab T fx k).flatMap fun t => if chv bs r k t then [ET (r ++ [t])] else []) = (wst bs T fx s k).map ET := by
      unfold wst
      rw [List.map_flatMap]
      congr 1
      funext r
      rw [flatMap_if, List.map_map]; rfl
    rw [e3'] at e3
    have pre1 : (bindP (.nm 4) (.int k) [some (false, EB bs), vI T, some (false, .dct 0 (kvI fx)), some (false, .lst (s.map ET)), x4, x5, none, none]) = some [some (false, EB bs), vI T, some (false, .dct 0 (kvI fx)), some (false, .lst (s.map ET)), vI k, x5, none, none] := rfl
    have st : exs (sem DD (n + 2)) (.cons (.asg false 5 (.ite (.cmp .in_ (.var 4) (.var 2)) (.lst (.cons (.idx (.var 2) (.var 4)) .nil)) (.bi .listRange (.cons (.var 1) .nil)))) (.cons (.asg false 3 (.lc2 [6, 7] (.bin .add (.var 6) (.tup (.cons (.var 7) .nil))) (.nm 6) (.over (.var 3)) .nil [7] (.nm 7) (.over (.var 5)) (.cons (.call 11 (.cons (.var 0) (.cons (.var 6) (.cons (.var 4) (.cons (.var 7) .nil))))) .nil))) (.cons (.ife (.cmp .eq (.var 3) (.lst .nil)) (.cons (.ret .non) .nil) .nil) .nil))) [some (false, EB bs), vI T, some (false, .dct 0 (kvI fx)), some (false, .lst (s.map ET)), vI k, x5, none, none] D
        = if wst bs T fx s k = [] then some (.rt .non, [some (false, EB bs), vI T, some (false, .dct 0 (kvI fx)), some (false, .lst ((wst bs T fx s k).map ET)), vI k, some (false, .lst ((ab T fx k).map .int)), none, none], D) else some (.nx, [some (false, EB bs), vI T, some (false, .dct 0 (kvI fx)), some (false, .lst ((wst bs T fx s k).map ET)), vI k, some (false, .lst ((ab T fx k).map .int)), none, none], D) := by
      rw [exs_cons, ex_asg, e5]
      show exs _ _ [some (false, EB bs), vI T, some (false, .dct 0 (kvI fx)), some (false, .lst (s.map ET)), vI k, some (false, .lst ((ab T fx k).map .int)), none, none] D = _
      rw [exs_cons, ex_asg, e3]
      show exs _ _ [some (false, EB bs), vI T, some (false, .dct 0 (kvI fx)), some (false, .lst ((wst bs T fx s k).map ET)), vI k, some (false, .lst ((ab T fx k).map .int)), none, none] D = _
      have pe := pEq_rows (rows := wst bs T fx s k)
      have v3 : ev (sem DD (n + 2)) (.var 3) [some (false, EB bs), vI T, some (false, .dct 0 (kvI fx)), some (false, .lst ((wst bs T fx s k).map ET)), vI k, some (false, .lst ((ab T fx k).map .int)), none, none] D = some (.lst ((wst bs T fx s k).map ET), D) := rfl
      rw [exs_cons, ex_ife, ev_cmp, v3]
      simp only [Option.bind_some, ev_lst, evs_nil, Option.map_some, opd_lst, pCmp, pe, blOf_bl]
      by_cases c : wst bs T fx s k = []
      · rw [if_pos c, if_pos (decide_eq_true c)]; rfl
      · rw [if_neg c, if_neg (by simpa using c)]; rfl
    by_cases c : wst bs T fx s k = []
    · rw [if_pos c]
      rw [if_pos c] at st
      exact ⟨_, by rw [pre1, Option.bind_some]; exact st⟩
    · rw [if_neg c]
      rw [if_neg c] at st
      exact ⟨.nx, _, by rw [pre1, Option.bind_some]; exact st, .inl rfl, _, _, rfl⟩
  · subst hρ
    have := er (rg 0 bs.length) [[]] (by simp)
    rw [hs] at this
    rw [← this.1]
    refine go_ret ?_
    obtain ⟨r, t, rfl⟩ : ∃ r t, s1 = r :: t := by
      cases e : s1 with
      | nil => exact absurd e this.2
      | cons r t => exact ⟨r, t, rfl⟩
    have i0 : pIdx (.lst ((r :: t).map ET)) (.int 0) = some (ET r) := ix_lst ET (by decide) rfl
    rw [ev_idx, show ev (sem DD (n + 2)) (.var 3) [some (false, EB bs), vI T, some (false, .dct 0 (kvI fx)), some (false, .lst ((r :: t).map ET)), x4, x5, none, none] D = some (.lst ((r :: t).map ET), D) from rfl]
    simp only [Option.bind_some, ev_int, opd_lst, i0, Option.map_some]
    rfl
  · have := er (rg 0 bs.length) [[]] (by simp)
    rw [hw] at this
    rw [this.2, this.1]; rfl
end
end MP.K02

namespace MP.K02
open PySem MP
section
variable {bs : List B} {n : Nat} {D : DS} {d T : Int}
/-! ### kept by ends: as many as can be -/
def c (bs : List B) (L : List Int) (d : Int) : Nat := (L.filter (on bs d)).length
theorem th_filter (M : List B) (d : Int) : (th M d).length = (M.filter fun b => decide (b.1 ≤ d) && decide (d < b.2)).length := by
  refine snoc_ind (P := fun M => (th M d).length = (M.filter fun b : B => decide (b.1 ≤ d) && decide (d < b.2)).length) rfl (fun M b ih => ?_) M
  rw [List.filter_append, List.length_append, ← ih]
  unfold th
  have e : rg 0 ((M ++ [b]).length : Int) = rg 0 M.length ++ [(M.length : Int)] := by
    rw [List.length_append, List.length_singleton, Int.natCast_add]; exact rg_succ (by omega)
  rw [e, List.filter_append, List.length_append]
  have g1 : ∀ k ∈ rg 0 (M.length : Int), on (M ++ [b]) d k = on M d k := fun k hk => by
    obtain ⟨k0, k1⟩ := mem_rg.mp hk
    have : g (M ++ [b]) k = g M k := by
      unfold g
      rw [List.getD_eq_getElem?_getD, List.getD_eq_getElem?_getD, List.getElem?_append_left (by omega)]
    unfold on; rw [this]
  have g2 : on (M ++ [b]) d (M.length : Int) = (decide (b.1 ≤ d) && decide (d < b.2)) := by
    have : g (M ++ [b]) (M.length : Int) = b := by
      unfold g
      rw [List.getD_eq_getElem?_getD, Int.toNat_natCast, List.getElem?_append_right (Nat.le_refl _)]; simp
    unfold on; rw [this]
  rw [List.filter_congr g1]
  congr 1
  cases h : (decide (b.1 ≤ d) && decide (d < b.2)) with
  | true => rw [h] at g2; rw [List.filter_cons_of_pos g2, List.filter_cons_of_pos (p := fun b : B => decide (b.1 ≤ d) && decide (d < b.2)) h]; rfl
  | false => rw [h] at g2; rw [List.filter_cons_of_neg (by rw [g2]; simp), List.filter_cons_of_neg (p := fun b : B => decide (b.1 ≤ d) && decide (d < b.2)) (by rw [h]; simp)]; rfl
theorem cnt_c (L : List Int) (d : Int) : cnt (L.map (g bs)) d = c bs L d := by
  unfold cnt c
  rw [th_filter, List.filter_map, List.length_map]
  rfl
theorem sub_ok (hB : Bs bs) {L : List Int} (h : ∀ k ∈ L, 0 ≤ k ∧ k < bs.length) : ∀ b ∈ L.map (g bs), 0 ≤ b.1 ∧ b.1 < b.2 ∧ b.2 ≤ 12 := fun b hb => by
  obtain ⟨k, hk, rfl⟩ := List.mem_map.mp hb
  exact hB.nn (h k hk).1 (h k hk).2
def fea (bs : List B) (T : Int) (L : List Int) : Prop := ∀ d, (c bs L d : Int) ≤ T
theorem fea_iff (hB : Bs bs) (hT : 0 ≤ T) {L : List Int} (h : ∀ k ∈ L, 0 ≤ k ∧ k < bs.length) : mst (L.map (g bs)) ≤ T ↔ fea bs T L := by
  rw [mst_le hT (sub_ok hB h)]
  unfold fea
  constructor
  · intro k d; rw [← cnt_c]; exact k d
  · intro k d; rw [cnt_c]; exact k d
theorem c_app (L M : List Int) (d : Int) : c bs (L ++ M) d = c bs L d + c bs M d := by
  unfold c; rw [List.filter_append, List.length_append]
theorem c_one (k d : Int) : c bs [k] d = if on bs d k then 1 else 0 := by
  unfold c
  by_cases h : on bs d k = true
  · rw [if_pos h, List.filter_cons_of_pos h]; rfl
  · rw [if_neg h, List.filter_cons_of_neg h]; rfl
theorem c_perm {L M : List Int} (h : L.Perm M) (d : Int) : c bs L d = c bs M d := by
  unfold c; exact (h.filter _).length_eq
theorem c_erase {R : List Int} {j : Int} (h : j ∈ R) (d : Int) : c bs R d = (if on bs d j then 1 else 0) + c bs (R.erase j) d := by
  rw [c_perm (List.perm_cons_erase h) d, ← c_one, ← c_app]; rfl
theorem fea_perm {L M : List Int} (h : L.Perm M) : fea bs T L ↔ fea bs T M := by
  unfold fea
  constructor
  · intro k d; rw [← c_perm h]; exact k d
  · intro k d; rw [c_perm h]; exact k d
theorem fea_sub {L M : List Int} (h : ∀ d, c bs L d ≤ c bs M d) (hM : fea bs T M) : fea bs T L := fun d => by
  have := hM d; have := h d; omega
def keysE (bs : List B) : List (Int × Int) := (rg 0 bs.length).map fun k => ((g bs k).2, k)
noncomputable def ke (bs : List B) : List (Int × Int) := srtP (keysE bs)
theorem ke_mem {q : Int × Int} (h : q ∈ ke bs) : (0 ≤ q.2 ∧ q.2 < bs.length) ∧ q.1 = (g bs q.2).2 := by
  have := (srtP_perm _).mem_iff.mp h
  obtain ⟨k, hk, rfl⟩ := List.mem_map.mp this
  exact ⟨mem_rg.mp hk, rfl⟩
theorem ke_snd : ((ke bs).map (·.2)).Perm (rg 0 bs.length) := by
  have := (srtP_perm (keysE bs)).map (·.2)
  refine this.trans ?_
  unfold keysE
  rw [List.map_map]
  exact List.Perm.of_eq (by rw [show (((·.2) : Int × Int → Int) ∘ fun k : Int => ((g bs k).2, k)) = id from rfl, List.map_id])
theorem ke_nodup : ((ke bs).map (·.2)).Nodup := ke_snd.nodup_iff.mpr (srt_nodup (srt_rg _ _))
def bst (bs : List B) (T : Int) (L : List Int) (q : Int × Int) : List Int := if mst ((L ++ [q.2]).map (g bs)) ≤ T then L ++ [q.2] else L
theorem bst_sub (bs : List B) (T : Int) (pre : List (Int × Int)) : (pre.foldl (bst bs T) []).Sublist (pre.map (·.2)) := by
  refine snoc_ind (P := fun pre => (pre.foldl (bst bs T) []).Sublist (pre.map (·.2))) (List.Sublist.refl _) (fun pre q ih => ?_) pre
  rw [List.foldl_append, List.foldl_cons, List.foldl_nil, List.map_append]
  unfold bst
  split
  · exact ih.append (List.Sublist.refl _)
  · exact ih.trans (List.sublist_append_left _ _)
theorem least {p : Int → Prop} [DecidablePred p] : ∀ (m : Nat) (a : Int), p (a + m) → ∃ x, a ≤ x ∧ x ≤ a + m ∧ p x ∧ ∀ y, a ≤ y → y < x → ¬ p y
  | 0, a, h => ⟨a, Int.le_refl _, by omega, by simpa using h, fun y h1 h2 => by omega⟩
  | m + 1, a, h => by
    by_cases c : p a
    · exact ⟨a, Int.le_refl _, by omega, c, fun y h1 h2 => by omega⟩
    · obtain ⟨x, h1, h2, h3, h4⟩ := least (p := p) m (a + 1) (by rw [show a + 1 + (m : Int) = a + ((m + 1 : Nat) : Int) by omega]; exact h)
      refine ⟨x, by omega, by omega, h3, fun y y1 y2 => ?_⟩
      by_cases e : y = a
      · rw [e]; exact c
      · exact h4 y (by omega) y2
theorem exch (hB : Bs bs) (hT : 0 ≤ T) {O : List Int} (hn : O.Nodup) (hr : ∀ k ∈ O, 0 ≤ k ∧ k < bs.length) (hf : fea bs T O) : ∀ pre post, ke bs = pre ++ post → ∃ R : List Int, R.Nodup ∧ (∀ k ∈ R, k ∈ post.map (·.2)) ∧ fea bs T (pre.foldl (bst bs T) [] ++ R) ∧ O.length ≤ (pre.foldl (bst bs T) [] ++ R).length := fun pre => by
  refine snoc_ind (P := fun pre => ∀ post, ke bs = pre ++ post → ∃ R : List Int, R.Nodup ∧ (∀ k ∈ R, k ∈ post.map (·.2)) ∧ fea bs T (pre.foldl (bst bs T) [] ++ R) ∧ O.length ≤ (pre.foldl (bst bs T) [] ++ R).length) ?_ ?_ pre
  · intro post hx
    refine ⟨O, hn, fun k hk => ?_, hf, Nat.le_refl _⟩
    rw [show post = ke bs from hx.symm]
    exact ke_snd.mem_iff.mpr (mem_rg.mpr (hr k hk))
  · intro pre q ih post hx
    have hx' : ke bs = pre ++ q :: post := by rw [hx]; simp
    obtain ⟨R, r1, r2, r3, r4⟩ := ih _ hx'
    have hq := ke_mem (bs := bs) (q := q) (by rw [hx']; simp)
    have hsub := bst_sub bs T pre
    have nd := ke_nodup (bs := bs)
    have pw := srtP_pw (keysE bs)
    rw [show srtP (keysE bs) = ke bs from rfl, hx', List.pairwise_append] at pw
    have hFr : ∀ k ∈ pre.foldl (bst bs T) [], 0 ≤ k ∧ k < bs.length := fun k hk => by
      obtain ⟨w, hw, rfl⟩ := List.mem_map.mp (hsub.subset hk)
      exact (ke_mem (bs := bs) (q := w) (by rw [hx']; exact List.mem_append_left _ hw)).1
    rw [List.foldl_append, List.foldl_cons, List.foldl_nil]
    generalize pre.foldl (bst bs T) [] = F at *
    rw [hx', List.map_append, List.nodup_append] at nd
    have qpost : q.2 ∉ post.map (·.2) := by
      have := nd.2.1
      rw [List.map_cons, List.nodup_cons] at this
      exact this.1
    have hFk : ∀ k ∈ F ++ [q.2], 0 ≤ k ∧ k < bs.length := fun k hk => by
      rcases List.mem_append.mp hk with hk | hk
      · exact hFr k hk
      · rw [List.mem_singleton.mp hk]; exact hq.1
    unfold bst
    by_cases a : mst ((F ++ [q.2]).map (g bs)) ≤ T
    · rw [if_pos a]
      have fk := (fea_iff hB hT hFk).mp a
      by_cases hm : q.2 ∈ R
      · -- it is already in
        refine ⟨R.erase q.2, r1.erase _, fun k hk => ?_, ?_, ?_⟩
        · have hk2 := List.mem_of_mem_erase hk
          have := r2 k hk2
          rw [List.map_cons] at this
          rcases List.mem_cons.mp this with e | h
          · subst e
            exact absurd hk (fun h => by
              have := (List.Nodup.mem_erase_iff r1).mp h
              exact this.1 rfl)
          · exact h
        · refine (fea_perm ?_).mp r3
          rw [List.append_assoc]
          exact List.Perm.append_left _ (List.perm_cons_erase hm)
        · have := List.length_erase_of_mem hm
          have := List.length_pos_of_mem hm
          simp at r4 ⊢
          omega
      · have hRp : ∀ k ∈ R, k ∈ post.map (·.2) := fun k hk => by
          have := r2 k hk
          rw [List.map_cons] at this
          rcases List.mem_cons.mp this with e | h
          · subst e; exact absurd hk hm
          · exact h
        by_cases ff : ∀ x, x < (g bs q.2).2 - (g bs q.2).1 → 0 ≤ x → (c bs (F ++ [q.2] ++ R) ((g bs q.2).1 + x) : Int) ≤ T
        · -- both fit
          refine ⟨R, r1, hRp, fun d => ?_, by simp at r4 ⊢; omega⟩
          by_cases o : on bs d q.2 = true
          · have o' := on_iff.mp o
            have := ff (d - (g bs q.2).1) (by omega) (by omega)
            rw [show (g bs q.2).1 + (d - (g bs q.2).1) = d by omega] at this
            exact this
          · have := r3 d
            rw [c_app, c_app, c_one, if_neg o]
            rw [c_app] at this
            omega
        · -- the first day on which they do not
          have ex : ∃ x, 0 ≤ x ∧ x < (g bs q.2).2 - (g bs q.2).1 ∧ ¬ (c bs (F ++ [q.2] ++ R) ((g bs q.2).1 + x) : Int) ≤ T := by
            refine Classical.byContradiction fun h => ff fun x h1 h2 => ?_
            refine Classical.byContradiction fun h3 => h ⟨x, h2, h1, h3⟩
          obtain ⟨x, x0, x1, x2⟩ := ex
          obtain ⟨d1, e1, e2, e3, e4⟩ := least (p := fun d => ¬ (c bs (F ++ [q.2] ++ R) d : Int) ≤ T) x.toNat (g bs q.2).1 (by rw [show (x.toNat : Int) = x by omega]; exact x2)
          have od1 : on bs d1 q.2 = true := on_iff.mpr (by omega)
          -- one of R is there
          have hj : ∃ j ∈ R, on bs d1 j = true := by
            refine Classical.byContradiction fun h => e3 ?_
            have z : c bs R d1 = 0 := by
              unfold c
              rw [List.length_eq_zero_iff, List.filter_eq_nil_iff]
              exact fun j hj o => h ⟨j, hj, o⟩
            have := fk d1
            rw [c_app, z]; omega
          obtain ⟨j, j1, j2⟩ := hj
          obtain ⟨w, hw, ew⟩ := List.mem_map.mp (hRp j j1)
          have wk := ke_mem (bs := bs) (q := w) (by rw [hx']; exact List.mem_append_right _ (List.mem_cons_of_mem _ hw))
          have ew : w.2 = j := ew
          rw [ew] at wk
          have hle := (List.pairwise_cons.mp pw.2.1).1 w hw
          unfold lexlt at hle
          have je : (g bs q.2).2 ≤ (g bs j).2 := by omega
          have jo := on_iff.mp j2
          refine ⟨R.erase j, r1.erase _, fun k hk => hRp k (List.mem_of_mem_erase hk), fun d => ?_, ?_⟩
          · have hR := c_erase (bs := bs) j1 d
            have h3 := r3 d
            rw [c_app] at h3
            rw [c_app, c_app, c_one]
            by_cases o : on bs d q.2 = true
            · have o' := on_iff.mp o
              rw [if_pos o]
              by_cases hd : d < d1
              · have := e4 d o'.1 hd
                rw [c_app, c_app, c_one, if_pos o] at this
                omega
              · rw [if_pos (on_iff.mpr (by omega) : on bs d j = true)] at hR
                omega
            · rw [if_neg o]
              omega
          · have := List.length_erase_of_mem j1
            have := List.length_pos_of_mem j1
            simp at r4 ⊢
            omega
    · rw [if_neg a]
      have hm : q.2 ∉ R := fun hm => a ((fea_iff hB hT hFk).mpr (fea_sub (M := F ++ R) (fun d => by
        rw [c_app, c_app, c_one, c_erase hm d]
        omega) r3))
      refine ⟨R, r1, fun k hk => ?_, r3, r4⟩
      have := r2 k hk
      rw [List.map_cons] at this
      rcases List.mem_cons.mp this with e | h
      · subst e; exact absurd hk hm
      · exact h
noncomputable def kept (bs : List B) (T : Int) : List Int := (ke bs).foldl (bst bs T) []
theorem kept_nd : (kept bs T).Nodup := ke_nodup.sublist (bst_sub bs T _)
theorem kept_rg : ∀ k ∈ kept bs T, 0 ≤ k ∧ k < bs.length := fun k hk => mem_rg.mp (ke_snd.mem_iff.mp ((bst_sub bs T _).subset hk))
theorem kept_fea (hB : Bs bs) (hT : 0 ≤ T) : fea bs T (kept bs T) := by
  have : ∀ pre post, ke bs = pre ++ post → fea bs T (pre.foldl (bst bs T) []) := fun pre => by
    refine snoc_ind (P := fun pre => ∀ post, ke bs = pre ++ post → fea bs T (pre.foldl (bst bs T) [])) ?_ ?_ pre
    · intro _ _ d
      show ((0 : Nat) : Int) ≤ T
      omega
    · intro pre q ih post hx
      have hx' : ke bs = pre ++ q :: post := by rw [hx]; simp
      have i := ih _ hx'
      have hq := ke_mem (bs := bs) (q := q) (by rw [hx']; simp)
      have hFr : ∀ k ∈ pre.foldl (bst bs T) [], 0 ≤ k ∧ k < bs.length := fun k hk => by
        obtain ⟨w, hw, rfl⟩ := List.mem_map.mp ((bst_sub bs T pre).subset hk)
        exact (ke_mem (bs := bs) (q := w) (by rw [hx']; exact List.mem_append_left _ hw)).1
      rw [List.foldl_append, List.foldl_cons, List.foldl_nil]
      generalize pre.foldl (bst bs T) [] = F at *
      unfold bst
      by_cases a : mst ((F ++ [q.2]).map (g bs)) ≤ T
      · rw [if_pos a]
        exact (fea_iff hB hT fun k hk => by
          rcases List.mem_append.mp hk with hk | hk
          · exact hFr k hk
          · rw [List.mem_singleton.mp hk]; exact hq.1).mp a
      · rw [if_neg a]; exact i
  exact this (ke bs) [] (by simp)
theorem kept_most (hB : Bs bs) (hT : 0 ≤ T) {O : List Int} (hn : O.Nodup) (hr : ∀ k ∈ O, 0 ≤ k ∧ k < bs.length) (hf : fea bs T O) : O.length ≤ (kept bs T).length := by
  obtain ⟨R, _, r2, _, r4⟩ := exch hB hT hn hr hf (ke bs) [] (by simp)
  have : R = [] := List.eq_nil_iff_forall_not_mem.mpr fun k hk => absurd (r2 k hk) (by simp)
  rw [this, List.append_nil] at r4
  exact r4
/-! ### sets of bookings -/
def fs (bs : List B) (T : Int) : List (List Int) := (subs (rg 0 bs.length)).filter fun r => decide (mst (r.map (g bs)) ≤ T)
def many (r : List Int) : Int × List Int := (-(r.length : Int), r)
def dsum (bs : List B) (r : List Int) : Int × List Int := (-(r.map fun k => (g bs k).2 - (g bs k).1).sum, r)
theorem fs_mem (hB : Bs bs) (hT : 0 ≤ T) {r : List Int} : r ∈ fs bs T ↔ r.Sublist (rg 0 bs.length) ∧ fea bs T r := by
  unfold fs
  rw [List.mem_filter, mem_subs, decide_eq_true_iff]
  constructor
  · exact fun h => ⟨h.1, (fea_iff hB hT fun k hk => mem_rg.mp (h.1.subset hk)).mp h.2⟩
  · exact fun h => ⟨h.1, (fea_iff hB hT fun k hk => mem_rg.mp (h.1.subset hk)).mpr h.2⟩
theorem fs_ne (hB : Bs bs) (hT : 0 ≤ T) : fs bs T ≠ [] := fun z => by
  have : [] ∈ fs bs T := (fs_mem hB hT).mpr ⟨List.nil_sublist _, fun d => by show ((0 : Nat) : Int) ≤ T; omega⟩
  rw [z] at this; cases this
theorem fs_min (hB : Bs bs) (hT : 0 ≤ T) (f : List Int → Int × List Int) : ∃ q ∈ (fs bs T).map f, pMin (((fs bs T).map f).map kc) = some (kc q) ∧ ∀ y ∈ (fs bs T).map f, q.1 ≤ y.1 := min_kc (by simpa using fs_ne hB hT)
/-- as many by ends as in the best set -/
theorem by_ends_best (hB : Bs bs) (hT : 0 ≤ T) {q : Int × List Int} (hq : q ∈ (fs bs T).map many) (h : ∀ y ∈ (fs bs T).map many, q.1 ≤ y.1) : ((kept bs T).length : Int) = -q.1 := by
  obtain ⟨r, hr, rfl⟩ := List.mem_map.mp hq
  obtain ⟨r1, r2⟩ := (fs_mem hB hT).mp hr
  have a := kept_most hB hT ((srt_nodup (srt_rg _ _)).sublist r1) (fun k hk => mem_rg.mp (r1.subset hk)) r2
  -- the kept ones in order
  have nd := kept_nd (bs := bs) (T := T)
  have hp : (sset (kept bs T)).Perm (kept bs T) := (List.perm_ext_iff_of_nodup (srt_nodup (srt_sset _)) nd).mpr fun x => mem_sset
  have hs : sset (kept bs T) ∈ fs bs T := (fs_mem hB hT).mpr ⟨by
    have e : sset (kept bs T) = (rg 0 bs.length).filter fun k => decide (k ∈ kept bs T) := srt_ext (srt_sset _) (srt_filter _ (srt_rg _ _)) fun x => by
      rw [mem_sset, List.mem_filter, mem_rg, decide_eq_true_iff]
      exact ⟨fun hx => ⟨kept_rg x hx, hx⟩, fun hx => hx.2⟩
    rw [e]; exact List.filter_sublist, (fea_perm hp).mpr (kept_fea hB hT)⟩
  have b := h _ (List.mem_map.mpr ⟨_, hs, rfl⟩)
  unfold many at b
  have := hp.length_eq
  simp only at b
  show ((kept bs T).length : Int) = -(-(r.length : Int))
  omega
end
end MP.K02

namespace MP.K02
open PySem MP
section
variable {bs : List B} {n : Nat} {D : DS} {d T : Int}
/-! ### sets -/
theorem dbl_ok {Φ : Fns} {ρ : Envi} {i x k : Nat} {rows : List (List Int)} {kk : Int} (h : ev Φ (.var i) ρ D = some (.lst (rows.map ET), D)) (hl : rows.length ≤ 1000)
    (H : ∀ r ∈ rows, st1 Φ [x] (.bin .add (.var x) (.tup (.cons (.var k) .nil))) (.nm x) .nil ρ (ET r) D = some ([ET (r ++ [kk])], D)) :
    ev Φ (.bin .add (.var i) (.lc1 [x] (.bin .add (.var x) (.tup (.cons (.var k) .nil))) (.nm x) (.over (.var i)) .nil)) ρ D = some (.lst ((rows ++ rows.map (· ++ [kk])).map ET), D) := by
  have q := lcM (Φ := Φ) (D := D) (ρ := ρ) (own := [x]) (ce := .bin .add (.var x) (.tup (.cons (.var k) .nil))) (pt := .nm x) (ci := .over (.var i)) (ct := .nil) ET rows (fun r => ET (r ++ [kk])) (evi_ov h) H
  have ad : pBin .add (.lst (rows.map ET)) (.lst (rows.map fun r => ET (r ++ [kk]))) = some (.lst ((rows ++ rows.map (· ++ [kk])).map ET)) := by
    rw [lst_add (by simp; omega), List.map_append, List.map_map]; rfl
  rw [ev_bin, h, Option.bind_some, q]
  simp only [Option.bind_some, ad, Option.map_some]
theorem subs_bnd {m : Nat} (hm : m ≤ 6) {pre post : List Int} (hx : rg 0 m = pre ++ post) : (subs pre).length ≤ 64 ∧ ∀ r ∈ subs pre, r.length ≤ 6 := by
  have hpl : pre.length ≤ 6 := by
    have := congrArg List.length hx
    rw [List.length_append, rg_len] at this
    omega
  constructor
  · rw [subs_len]
    exact Nat.pow_le_pow_right (by decide) hpl
  · intro r hr
    have := ((mem_subs _).mp hr).length_le
    omega
theorem law_sets_ok {m : Nat} (hm : m ≤ 6) : sem DD (n + 1) 27 [.int m] D = some (.lst ((subs (rg 0 m)).map ET), D) := by
  rw [r_f__law_sets]
  refine run_ex rfl ?_
  unfold c_f__law_sets
  show ∃ ρ', exs _ _ [vI m, none, none, none] _ = _
  refine go_asg (.lst ([[]].map ET)) rfl ?_
  refine go_forP PV.int (rg 0 m) (fun (rows : List (List Int)) ρ => ∃ x2, ρ = [vI m, some (false, .lst (rows.map ET)), x2, none]) (fun rows k => rows ++ rows.map (· ++ [k])) [[]] (evi_r1 rfl (by omega) (by omega)) ⟨_, rfl⟩ (fun pre k post ρ hx ⟨x2, hρ⟩ => ?_) (fun ρ1 ⟨x2, hρ⟩ => ?_)
  · subst hρ
    obtain ⟨b1, b2⟩ := subs_bnd hm hx
    rw [show pre.foldl (fun rows k => rows ++ rows.map (· ++ [k])) [[]] = subs pre from rfl]
    generalize subs pre = rows at *
    have e := dbl_ok (Φ := sem DD n) (D := D) (ρ := [vI m, some (false, .lst (rows.map ET)), vI k, none]) (i := 1) (x := 3) (k := 2) (kk := k) rfl (by omega) fun r hr => by
      have a := row_add (r := r) (k := k) (by have := b2 r hr; omega)
      simp [st1, bindP, wipE, getS, a]
    refine ⟨.nx, [vI m, some (false, .lst ((rows ++ rows.map (· ++ [k])).map ET)), vI k, none], ?_, .inl rfl, _, rfl⟩
    show exs _ _ [vI m, some (false, .lst (rows.map ET)), vI k, none] D = _
    rw [exs_cons, ex_asg, e]; rfl
  · subst hρ
    exact go_ret (by simp [getS]; rfl)
/-- [bookings[k] for k in row] -/
theorem own_ok {Φ : Fns} {ρ : Envi} {a : CE} {x k : Nat} {r : List Int} (hr : ∀ k ∈ r, 0 ≤ k ∧ k < bs.length) (h : evi Φ (.over a) ρ D = some (r.map .int, D))
    (H : ∀ i : Int, 0 ≤ i → i < bs.length → st1 Φ [k] (.idx (.var x) (.var k)) (.nm k) .nil ρ (.int i) D = some ([pv2 (g bs i)], D)) :
    ev Φ (.lc1 [k] (.idx (.var x) (.var k)) (.nm k) (.over a) .nil) ρ D = some (LB (r.map (g bs)), D) := by
  have q := lcM (Φ := Φ) (D := D) (ρ := ρ) (own := [k]) (ce := .idx (.var x) (.var k)) (pt := .nm k) (ci := .over a) (ct := .nil) PV.int r (fun i => pv2 (g bs i)) h fun i hi => H i (hr i hi).1 (hr i hi).2
  rw [q]
  show some (PV.lst (r.map fun i => pv2 (g bs i)), D) = some (PV.lst ((r.map (g bs)).map pv2), D)
  rw [List.map_map]; rfl
theorem kc0 {q : Int × List Int} : pIdx (kc q) (.int 0) = some (.int q.1) := rfl
theorem kc1 {q : Int × List Int} : pIdx (kc q) (.int 1) = some (ET q.2) := rfl
theorem okc {q : Int × List Int} : opd D (kc q) = some (kc q) := rfl
theorem ev_best {Φ : Fns} {ρ : Envi} {a : CE} {L : List PV} {q : Int × List Int} (ha : ev Φ a ρ D = some (.lst L, D)) (hm : pMin L = some (kc q)) :
    ev Φ (.tup (.cons (.neg (.idx (.bi .min (.cons a .nil)) (.int 0))) (.cons (.idx (.bi .min (.cons a .nil)) (.int 1)) .nil))) ρ D = some (.tup [.int (-q.1), ET q.2], D) := by
  have m : ev Φ (.bi .min (.cons a .nil)) ρ D = some (kc q, D) := by
    rw [ev_bi, evs_cons, ha]
    simp only [evs_nil, Option.bind_some, Option.map_some, mapO_cons, mapO_nil, opd_lst]
    rw [show pBi .min [.lst L] = pMin L from rfl, hm]; rfl
  have i0 : ev Φ (.idx (.bi .min (.cons a .nil)) (.int 0)) ρ D = some (.int q.1, D) := by
    rw [ev_idx, m]; simp only [Option.bind_some, ev_int, okc, kc0, Option.map_some]
  have i1 : ev Φ (.idx (.bi .min (.cons a .nil)) (.int 1)) ρ D = some (ET q.2, D) := by
    rw [ev_idx, m]; simp only [Option.bind_some, ev_int, okc, kc1, Option.map_some]
  have ng : pNeg (.int q.1) = some (.int (-q.1)) := rfl
  rw [ev_tup, evs_cons, ev_neg, i0]
  simp only [Option.bind_some, ng, Option.map_some, evs_cons, i1, evs_nil]
theorem most_ok (hB : Bs bs) {q : Int × List Int} (hq : pMin (((fs bs T).map many).map kc) = some (kc q)) : sem DD (n + 3) 12 [EB bs, .int T] D = some (.tup [.int (-q.1), ET q.2], D) := by
  have hl := hB.len
  rw [r_f_most_kept]
  refine run_ex rfl ?_
  unfold c_f_most_kept
  show ∃ ρ', exs _ _ [some (false, EB bs), vI T, none, none, none, none] _ = _
  refine go_asg (.lst ([[]].map ET)) rfl ?_
  refine go_forP PV.int (rg 0 bs.length) (fun (rows : List (List Int)) ρ => ∃ x3, ρ = [some (false, EB bs), vI T, some (false, .lst (rows.map ET)), x3, none, none]) (fun rows k => rows ++ rows.map (· ++ [k])) [[]] (evi_r1 (by simp [getS]) (by omega) (by omega)) ⟨_, rfl⟩ (fun pre k post ρ hx ⟨x3, hρ⟩ => ?_) (fun ρ1 ⟨x3, hρ⟩ => ?_)
  · subst hρ
    obtain ⟨b1, b2⟩ := subs_bnd hl hx
    rw [show pre.foldl (fun rows k => rows ++ rows.map (· ++ [k])) [[]] = subs pre from rfl]
    generalize subs pre = rows at *
    have e := dbl_ok (Φ := sem DD (n + 2)) (D := D) (ρ := [some (false, EB bs), vI T, some (false, .lst (rows.map ET)), vI k, none, none]) (i := 2) (x := 5) (k := 3) (kk := k) rfl (by omega) fun r hr => by
      have a := row_add (r := r) (k := k) (by have := b2 r hr; omega)
      simp [st1, bindP, wipE, getS, a]
    refine ⟨.nx, [some (false, EB bs), vI T, some (false, .lst ((rows ++ rows.map (· ++ [k])).map ET)), vI k, none, none], ?_, .inl rfl, _, rfl⟩
    show exs _ _ [some (false, EB bs), vI T, some (false, .lst (rows.map ET)), vI k, none, none] D = _
    rw [exs_cons, ex_asg, e]; rfl
  · subst hρ
    rw [show (rg 0 (bs.length : Int)).foldl (fun rows k => rows ++ rows.map (· ++ [k])) [[]] = subs (rg 0 bs.length) from rfl]
    have q4 := lcP (Φ := sem DD (n + 2)) (D := D) (ρ := [some (false, EB bs), vI T, some (false, .lst ((subs (rg 0 bs.length)).map ET)), x3, none, none]) (own := [5]) (ce := .tup (.cons (.neg (.bi .len (.cons (.var 5) .nil))) (.cons (.var 5) .nil))) (pt := .nm 5) (ci := .over (.var 2)) (ct := .cons (.cmp .le (.call 9 (.cons (.bi .tuple (.cons (.lc1 [3] (.idx (.var 0) (.var 3)) (.nm 3) (.over (.var 5)) .nil) .nil)) .nil)) (.var 1)) .nil)
      ET (subs (rg 0 bs.length)) (fun r => decide (mst (r.map (g bs)) ≤ T)) (fun r => kc (many r)) rfl fun r hr => by
        have hs := (mem_subs _).mp hr
        have hr' : ∀ k ∈ r, 0 ≤ k ∧ k < bs.length := fun k hk => mem_rg.mp (hs.subset hk)
        have hrl := hs.length_le
        rw [rg_len] at hrl
        have o := own_ok (Φ := sem DD (n + 2)) (D := D) (ρ := [some (false, EB bs), vI T, some (false, .lst ((subs (rg 0 bs.length)).map ET)), x3, none, some (false, ET r)]) (a := .var 5) (x := 0) (k := 3) hr' rfl fun i i0 i1 => by
          have := ixb i0 i1
          simp [st1, bindP, wipE, getS, this]
        have f := fewest_ok (n := n) (D := D) (bs := r.map (g bs)) (by simp; omega) (sub_ok hB hr')
        have t : ev (sem DD (n + 2)) (.cmp .le (.call 9 (.cons (.bi .tuple (.cons (.lc1 [3] (.idx (.var 0) (.var 3)) (.nm 3) (.over (.var 5)) .nil) .nil)) .nil)) (.var 1)) [some (false, EB bs), vI T, some (false, .lst ((subs (rg 0 bs.length)).map ET)), x3, none, some (false, ET r)] D = some (.bl (decide (mst (r.map (g bs)) ≤ T)), D) := by
          rw [ev_cmp, ev_call, evs_cons, ev_bi, evs_cons, o]
          simp only [evs_nil, Option.bind_some, Option.map_some, mapO_cons, mapO_nil, opd_lst, pTupL]
          rw [f]; rfl
        have s : st1 (sem DD (n + 2)) [5] (.tup (.cons (.neg (.bi .len (.cons (.var 5) .nil))) (.cons (.var 5) .nil))) (.nm 5) (.cons (.cmp .le (.call 9 (.cons (.bi .tuple (.cons (.lc1 [3] (.idx (.var 0) (.var 3)) (.nm 3) (.over (.var 5)) .nil) .nil)) .nil)) (.var 1)) .nil) [some (false, EB bs), vI T, some (false, .lst ((subs (rg 0 bs.length)).map ET)), x3, none, none] (ET r) D
            = (evt (sem DD (n + 2)) (.cons (.cmp .le (.call 9 (.cons (.bi .tuple (.cons (.lc1 [3] (.idx (.var 0) (.var 3)) (.nm 3) (.over (.var 5)) .nil) .nil)) .nil)) (.var 1)) .nil) [some (false, EB bs), vI T, some (false, .lst ((subs (rg 0 bs.length)).map ET)), x3, none, some (false, ET r)] D).bind fun c => if c.1 then (ev (sem DD (n + 2)) (.tup (.cons (.neg (.bi .len (.cons (.var 5) .nil))) (.cons (.var 5) .nil))) [some (false, EB bs), vI T, some (false, .lst ((subs (rg 0 bs.length)).map ET)), x3, none, some (false, ET r)] c.2).map fun y => ([y.1], y.2) else some ([], c.2) := rfl
        have ng : pNeg (.int (r.length : Int)) = some (.int (-(r.length : Int))) := rfl
        rw [s, evt_one, t]
        by_cases h : mst (r.map (g bs)) ≤ T
        · rw [decide_eq_true h]
          simp [getS, ng, kc, many]
        · rw [decide_eq_false h]; rfl
    have em : ((subs (rg 0 (bs.length : Int))).filter fun r => decide (mst (r.map (g bs)) ≤ T)).map (fun r => kc (many r)) = ((fs bs T).map many).map kc := by rw [List.map_map]; rfl
    rw [em] at q4
    refine go_asg _ q4 ?_
    refine go_ret ?_
    refine ev_best ?_ hq
    simp [getS]
theorem fold_if {α β : Type} {f : α → β} {p : α → Prop} [DecidablePred p] : ∀ (SS : List α) (L : List β), SS.foldl (fun L r => if p r then L ++ [f r] else L) L = L ++ (SS.filter fun r => decide (p r)).map f
  | [], L => by simp
  | r :: SS, L => by
    rw [List.foldl_cons, fold_if SS]
    by_cases h : p r <;> simp [h]
theorem days_ok (hB : Bs bs) {q : Int × List Int} (hq : pMin (((fs bs T).map (dsum bs)).map kc) = some (kc q)) : sem DD (n + 3) 14 [EB bs, .int T] D = some (.tup [.int (-q.1), ET q.2], D) := by
  have hl := hB.len
  rw [r_f_days_kept]
  refine run_ex rfl ?_
  unfold c_f_days_kept
  show ∃ ρ', exs _ _ [some (false, EB bs), vI T, none, none, none, none, none, none, none] _ = _
  refine go_asg (.lst ([[]].map ET)) rfl ?_
  refine go_forP PV.int (rg 0 bs.length) (fun (rows : List (List Int)) ρ => ∃ x3, ρ = [some (false, EB bs), vI T, some (false, .lst (rows.map ET)), x3, none, none, none, none, none]) (fun rows k => rows ++ rows.map (· ++ [k])) [[]] (evi_r1 (by simp [getS]) (by omega) (by omega)) ⟨_, rfl⟩ (fun pre k post ρ hx ⟨x3, hρ⟩ => ?_) (fun ρ1 ⟨x3, hρ⟩ => ?_)
  · subst hρ
    obtain ⟨b1, b2⟩ := subs_bnd hl hx
    rw [show pre.foldl (fun rows k => rows ++ rows.map (· ++ [k])) [[]] = subs pre from rfl]
    generalize subs pre = rows at *
    have e := dbl_ok (Φ := sem DD (n + 2)) (D := D) (ρ := [some (false, EB bs), vI T, some (false, .lst (rows.map ET)), vI k, none, none, none, none, none]) (i := 2) (x := 5) (k := 3) (kk := k) rfl (by omega) fun r hr => by
      have a := row_add (r := r) (k := k) (by have := b2 r hr; omega)
      simp [st1, bindP, wipE, getS, a]
    refine ⟨.nx, [some (false, EB bs), vI T, some (false, .lst ((rows ++ rows.map (· ++ [k])).map ET)), vI k, none, none, none, none, none], ?_, .inl rfl, _, rfl⟩
    show exs _ _ [some (false, EB bs), vI T, some (false, .lst (rows.map ET)), vI k, none, none, none, none, none] D = _
    rw [exs_cons, ex_asg, e]; rfl
  · subst hρ
    rw [show (rg 0 (bs.length : Int)).foldl (fun rows k => rows ++ rows.map (· ++ [k])) [[]] = subs (rg 0 bs.length) from rfl]
    obtain ⟨b1, _⟩ := subs_bnd (m := bs.length) hl (pre := rg 0 bs.length) (post := []) (by simp)
    refine go_asg (.lst []) rfl ?_
    refine go_forP ET (subs (rg 0 bs.length)) (fun (L : List (Int × List Int)) ρ => L.length ≤ 64 → ∃ x5 x6, ρ = [some (false, EB bs), vI T, some (false, .lst ((subs (rg 0 bs.length)).map ET)), x3, some (true, .lst (L.map kc)), x5, x6, none, none]) (fun L r => if mst (r.map (g bs)) ≤ T then L ++ [dsum bs r] else L) [] rfl (fun _ => ⟨_, _, rfl⟩) (fun pre r post ρ hx hR => ?_) (fun ρ1 hR => ?_)
    · have gen : ∀ pre : List (List Int), (pre.foldl (fun L r => if mst (r.map (g bs)) ≤ T then L ++ [dsum bs r] else L) []).length ≤ pre.length := fun pre => by
        refine snoc_ind (P := fun pre : List (List Int) => (pre.foldl (fun L r => if mst (r.map (g bs)) ≤ T then L ++ [dsum bs r] else L) []).length ≤ pre.length) (by simp) (fun pre a ih => ?_) pre
        rw [List.foldl_append, List.foldl_cons, List.foldl_nil]
        split <;> simp <;> omega
      have hg := gen pre
      have h2 := congrArg List.length hx
      rw [List.length_append, List.length_cons] at h2
      obtain ⟨x5, x6, hρ⟩ := hR (by omega)
      subst hρ
      generalize pre.foldl (fun L r => if mst (r.map (g bs)) ≤ T then L ++ [dsum bs r] else L) [] = L at *
      have hs := (mem_subs _).mp (show r ∈ subs (rg 0 bs.length) by rw [hx]; simp)
      generalize subs (rg 0 (bs.length : Int)) = SS at *
      have hr' : ∀ k ∈ r, 0 ≤ k ∧ k < bs.length := fun k hk => mem_rg.mp (hs.subset hk)
      have hrl := hs.length_le
      rw [rg_len] at hrl
      have o := own_ok (Φ := sem DD (n + 2)) (D := D) (ρ := [some (false, EB bs), vI T, some (false, .lst (SS.map ET)), x3, some (true, .lst (L.map kc)), some (false, ET r), x6, none, none]) (a := .var 5) (x := 0) (k := 3) hr' rfl fun i i0 i1 => by
        have := ixb i0 i1
        simp [st1, bindP, wipE, getS, this]
      have f := fewest_ok (n := n) (D := D) (bs := r.map (g bs)) (by simp; omega) (sub_ok hB hr')
      have su := lcM (Φ := sem DD (n + 2)) (D := D) (ρ := [some (false, EB bs), vI T, some (false, .lst (SS.map ET)), x3, some (true, .lst (L.map kc)), some (false, ET r), some (false, EB (r.map (g bs))), none, none]) (own := [7, 8]) (ce := .bin .sub (.var 8) (.var 7)) (pt := .tp [(.nm 7), (.nm 8)]) (ci := .over (.var 6)) (ct := .nil) pv2 (r.map (g bs)) (fun b => .int (b.2 - b.1)) rfl fun b _ => by
        simp [st1, bindP, bindPs, pv2, wipE, getS]
      have s1 := pSum_lst (fun b : B => b.2 - b.1) (r.map (g bs))
      have hds : ((r.map (g bs)).map fun b : B => b.2 - b.1).sum = (r.map fun k => (g bs k).2 - (g bs k).1).sum := by rw [List.map_map]; rfl
      rw [hds] at s1
      have ng : ∀ z : Int, pNeg (.int z) = some (.int (-z)) := fun z => rfl
      have ap := app_ok (xs := L.map kc) (v := kc (dsum bs r)) (by simp; show _ < 1000000; omega)
      have e6 : ev (sem DD (n + 2)) (.bi .tuple (.cons (.lc1 [3] (.idx (.var 0) (.var 3)) (.nm 3) (.over (.var 5)) .nil) .nil)) [some (false, EB bs), vI T, some (false, .lst (SS.map ET)), x3, some (true, .lst (L.map kc)), some (false, ET r), x6, none, none] D = some (EB (r.map (g bs)), D) := by
        rw [ev_bi, evs_cons, o]
        simp only [evs_nil, Option.bind_some, Option.map_some, mapO_cons, mapO_nil, opd_lst, pTupL]
      refine ⟨.nx, [some (false, EB bs), vI T, some (false, .lst (SS.map ET)), x3, some (true, .lst ((if mst (r.map (g bs)) ≤ T then L ++ [dsum bs r] else L).map kc)), some (false, ET r), some (false, EB (r.map (g bs))), none, none], ?_, .inl rfl, fun _ => ⟨_, _, rfl⟩⟩
      show exs _ _ [some (false, EB bs), vI T, some (false, .lst (SS.map ET)), x3, some (true, .lst (L.map kc)), some (false, ET r), x6, none, none] D = _
      rw [exs_cons, ex_asg, e6]
      show exs _ _ [some (false, EB bs), vI T, some (false, .lst (SS.map ET)), x3, some (true, .lst (L.map kc)), some (false, ET r), some (false, EB (r.map (g bs))), none, none] D = _
      have t : ev (sem DD (n + 2)) (.cmp .le (.call 9 (.cons (.var 6) .nil)) (.var 1)) [some (false, EB bs), vI T, some (false, .lst (SS.map ET)), x3, some (true, .lst (L.map kc)), some (false, ET r), some (false, EB (r.map (g bs))), none, none] D = some (.bl (decide (mst (r.map (g bs)) ≤ T)), D) := by
        rw [ev_cmp, ev_call, evs_cons, show ev (sem DD (n + 2)) (.var 6) [some (false, EB bs), vI T, some (false, .lst (SS.map ET)), x3, some (true, .lst (L.map kc)), some (false, ET r), some (false, EB (r.map (g bs))), none, none] D = some (EB (r.map (g bs)), D) from rfl]
        simp only [evs_nil, Option.bind_some, Option.map_some]
        rw [f]; rfl
      have vd : ev (sem DD (n + 2)) (.tup (.cons (.neg (.bi .sum (.cons (.lc1 [7, 8] (.bin .sub (.var 8) (.var 7)) (.tp [(.nm 7), (.nm 8)]) (.over (.var 6)) .nil) .nil))) (.cons (.var 5) .nil))) [some (false, EB bs), vI T, some (false, .lst (SS.map ET)), x3, some (true, .lst (L.map kc)), some (false, ET r), some (false, EB (r.map (g bs))), none, none] D = some (kc (dsum bs r), D) := by
        rw [ev_tup, evs_cons, ev_neg, ev_bi, evs_cons, su]
        simp only [evs_nil, Option.bind_some, Option.map_some, mapO_cons, mapO_nil, opd_lst, s1, ng, evs_cons]
        rfl
      rw [exs_cons, ex_ife, t, Option.bind_some, blOf_bl, Option.bind_some]
      by_cases h : mst (r.map (g bs)) ≤ T
      · rw [if_pos (decide_eq_true h), if_pos h, exs_cons, ex_app, vd, Option.bind_some, chgO_of (x := .lst (L.map kc)) rfl, ap, List.map_append]
        rfl
      · rw [if_neg (by simpa using h), if_neg h]; rfl
    · have fe := fun SS => fold_if (f := dsum bs) (p := fun r => mst (r.map (g bs)) ≤ T) SS []
      have fe2 : (subs (rg 0 (bs.length : Int))).foldl (fun L r => if mst (r.map (g bs)) ≤ T then L ++ [dsum bs r] else L) [] = (fs bs T).map (dsum bs) := (fe _).trans (List.nil_append _)
      rw [fe2] at hR
      obtain ⟨x5, x6, hρ⟩ := hR (by
        rw [List.length_map]
        exact Nat.le_trans (List.length_filter_le _ _) b1)
      subst hρ
      refine go_ret ?_
      exact ev_best rfl hq
/-! ### by ends -/
theorem sorted_ints {L : List Int} (h : L.Nodup) : pBi .sorted [.lst (L.map .int)] = some (.lst ((sset L).map .int)) := by
  show (pSort (L.map PV.int)).map PV.lst = _
  rw [pSort_ints h]; rfl
theorem by_ends_ok (hB : Bs bs) : sem DD (n + 3) 13 [EB bs, .int T] D = some (ET (sset (kept bs T)), D) := by
  have hl := hB.len
  rw [r_f_by_ends]
  refine run_ex rfl ?_
  unfold c_f_by_ends
  show ∃ ρ', exs _ _ [some (false, EB bs), vI T, none, none, none, none] _ = _
  refine go_asg (.lst []) rfl ?_
  have q := lcM (Φ := sem DD (n + 2)) (D := D) (ρ := [some (false, EB bs), vI T, some (true, .lst []), none, none, none]) (own := [4]) (ce := .tup (.cons (.idx (.idx (.var 0) (.var 4)) (.int 1)) (.cons (.var 4) .nil))) (pt := .nm 4) (ci := .rng1 (.bi .len (.cons (.var 0) .nil))) (ct := .nil) PV.int (rg 0 bs.length) (fun k => pv2 ((g bs k).2, k)) (evi_r1 (by simp [getS]) (by omega) (by omega)) fun k hk => by
    obtain ⟨k0, k1⟩ := mem_rg.mp hk
    have := ixb k0 k1
    simp [st1, bindP, wipE, getS, this]
    rfl
  have e : ((rg 0 (bs.length : Int)).map fun k => pv2 ((g bs k).2, k)) = (keysE bs).map pv2 := by
    unfold keysE; rw [List.map_map]; rfl
  rw [e] at q
  refine go_forP pv2 (ke bs) (fun (L : List Int) ρ => ∃ x3 x4, ρ = [some (false, EB bs), vI T, some (true, .lst (L.map .int)), x3, x4, none]) (bst bs T) [] (by
      refine evi_ov ?_
      show ev (sem DD (n + 2)) _ [some (false, EB bs), vI T, some (true, .lst []), none, none, none] D = _
      rw [ev_bi, evs_cons, q]
      simp only [evs_nil, Option.bind_some, Option.map_some, mapO_cons, mapO_nil, opd_lst]
      rw [pSorted_pairs]; rfl) ⟨_, _, rfl⟩ (fun pre p post ρ hx ⟨x3, x4, hρ⟩ => ?_) (fun ρ1 ⟨x3, x4, hρ⟩ => ?_)
  · subst hρ
    have hp := ke_mem (bs := bs) (q := p) (by rw [hx]; simp)
    have hsub := bst_sub bs T pre
    have hFr : ∀ k ∈ pre.foldl (bst bs T) [] ++ [p.2], 0 ≤ k ∧ k < bs.length := fun k hk => by
      rcases List.mem_append.mp hk with hk | hk
      · obtain ⟨w, hw, rfl⟩ := List.mem_map.mp (hsub.subset hk)
        exact (ke_mem (bs := bs) (q := w) (by rw [hx]; exact List.mem_append_left _ hw)).1
      · rw [List.mem_singleton.mp hk]; exact hp.1
    have hln : (pre.foldl (bst bs T) [] ++ [p.2]).length ≤ 6 := by
      have h1 := hsub.length_le
      have h2 := (ke_snd (bs := bs)).length_eq
      rw [hx, rg_len] at h2
      simp at h1 h2 ⊢
      omega
    unfold bst
    rw [show pre.foldl (fun L (q : Int × Int) => if mst ((L ++ [q.2]).map (g bs)) ≤ T then L ++ [q.2] else L) [] = pre.foldl (bst bs T) [] from rfl]
    generalize pre.foldl (bst bs T) [] = L at *
    have ad : pBin .add (.lst (L.map .int)) (.lst [.int p.2]) = some (.lst ((L ++ [p.2]).map .int)) := by
      rw [lst_add (by simp at hln ⊢; omega)]; simp
    have o := own_ok (Φ := sem DD (n + 2)) (D := D) (ρ := [some (false, EB bs), vI T, some (true, .lst (L.map .int)), vI p.1, vI p.2, none]) (a := .bin .add (.bor 2) (.lst (.cons (.var 4) .nil))) (x := 0) (k := 5) hFr (by
      refine evi_ov ?_
      rw [ev_bin, show ev (sem DD (n + 2)) (.bor 2) [some (false, EB bs), vI T, some (true, .lst (L.map .int)), vI p.1, vI p.2, none] D = some (.lst (L.map .int), D) from rfl]
      simp only [Option.bind_some, ev_lst, evs_cons, evs_nil, Option.map_some, show ev (sem DD (n + 2)) (.var 4) [some (false, EB bs), vI T, some (true, .lst (L.map .int)), vI p.1, vI p.2, none] D = some (.int p.2, D) from rfl, ad]) fun i i0 i1 => by
        have := ixb i0 i1
        simp [st1, bindP, wipE, getS, this]
    have f := fewest_ok (n := n) (D := D) (bs := (L ++ [p.2]).map (g bs)) (by rw [List.length_map]; exact hln) (sub_ok hB hFr)
    have ap := app_ok (xs := L.map .int) (v := .int p.2) (by simp at hln ⊢; show _ < 1000000; omega)
    have t : ev (sem DD (n + 2)) (.cmp .le (.call 9 (.cons (.bi .tuple (.cons (.lc1 [5] (.idx (.var 0) (.var 5)) (.nm 5) (.over (.bin .add (.bor 2) (.lst (.cons (.var 4) .nil)))) .nil) .nil)) .nil)) (.var 1)) [some (false, EB bs), vI T, some (true, .lst (L.map .int)), vI p.1, vI p.2, none] D = some (.bl (decide (mst ((L ++ [p.2]).map (g bs)) ≤ T)), D) := by
      rw [ev_cmp, ev_call, evs_cons, ev_bi, evs_cons, o]
      simp only [evs_nil, Option.bind_some, Option.map_some, mapO_cons, mapO_nil, opd_lst, pTupL]
      rw [f]; rfl
    refine ⟨.nx, [some (false, EB bs), vI T, some (true, .lst ((if mst ((L ++ [p.2]).map (g bs)) ≤ T then L ++ [p.2] else L).map .int)), vI p.1, vI p.2, none], ?_, .inl rfl, _, _, rfl⟩
    show exs _ _ [some (false, EB bs), vI T, some (true, .lst (L.map .int)), vI p.1, vI p.2, none] D = _
    rw [exs_cons, ex_ife, t, Option.bind_some, blOf_bl, Option.bind_some]
    by_cases h : mst ((L ++ [p.2]).map (g bs)) ≤ T
    · rw [if_pos (decide_eq_true h), if_pos h, exs_cons, ex_app, show ev (sem DD (n + 2)) (.var 4) [some (false, EB bs), vI T, some (true, .lst (L.map .int)), vI p.1, vI p.2, none] D = some (.int p.2, D) from rfl, Option.bind_some, chgO_of (x := .lst (L.map .int)) rfl, ap, List.map_append]
      rfl
    · rw [if_neg (by simpa using h), if_neg h]; rfl
  · subst hρ
    refine go_ret ?_
    rw [show (ke bs).foldl (bst bs T) [] = kept bs T from rfl, ev_bi, evs_cons, ev_bi, evs_cons, show ev (sem DD (n + 2)) (.bor 2) [some (false, EB bs), vI T, some (true, .lst ((kept bs T).map .int)), x3, x4, none] D = some (.lst ((kept bs T).map .int), D) from rfl]
    simp only [evs_nil, Option.bind_some, Option.map_some, mapO_cons, mapO_nil, opd_lst, sorted_ints kept_nd, pTupL]
end
end MP.K02

namespace MP.K02
open PySem MP
section
variable {bs : List B} {n : Nat} {D : DS} {d T : Int}
/-! ### spans that are free -/
def spn (bs : List B) (T a b : Int) : List (Int × Int) := (((rg a (b + 1)).filter fun d => decide (cnt bs d < T)).map fun d => (d, d + 1)).foldl jst []
def spst (bs : List B) (T : Int) (f : List (Int × Int)) (d : Int) : List (Int × Int) := if cnt bs d < T then jst f (d, d + 1) else f
theorem spst_fold (bs : List B) (T : Int) : ∀ (xs : List Int) (f : List (Int × Int)), xs.foldl (spst bs T) f = ((xs.filter fun d => decide (cnt bs d < T)).map fun d => (d, d + 1)).foldl jst f
  | [], f => rfl
  | d :: xs, f => by
    rw [List.foldl_cons, spst_fold bs T xs]
    unfold spst
    by_cases h : cnt bs d < T <;> simp [h]
theorem spst_len (bs : List B) (T : Int) : ∀ (xs : List Int) (f : List (Int × Int)), (xs.foldl (spst bs T) f).length ≤ f.length + xs.length
  | [], f => Nat.le_refl _
  | d :: xs, f => by
    rw [List.foldl_cons, List.length_cons]
    have := spst_len bs T xs (spst bs T f d)
    have h : (spst bs T f d).length ≤ f.length + 1 := by
      unfold spst
      split
      · exact jst_len f _
      · omega
    omega
theorem ev_idxm {Φ : Fns} {ρ : Envi} {a : CE} {f : List (Int × Int)} {w : Int × Int} (ha : ev Φ a ρ D = some (.lst (f.map pv2), D)) (e : f.getLast? = some w) : ev Φ (.idx a (.neg (.int 1))) ρ D = some (pv2 w, D) := by
  have ng : pNeg (.int 1) = some (.int (-1)) := rfl
  have il := ix_last pv2 e
  simp [ha, ng, il]
theorem set_lastP {f : List (Int × Int)} {w : Int × Int} {y : PV} (e : f.getLast? = some w) : pSet (.lst (f.map pv2)) (.int (-1)) y = some (.lst (f.dropLast.map pv2 ++ [y])) := by
  have hne : f ≠ [] := fun z => by rw [z] at e; cases e
  have hl : 0 < f.length := List.length_pos_iff.mpr hne
  show (ixN (f.map pv2).length (-1)).map _ = _
  have : ixN (f.map pv2).length (-1) = some (f.length - 1) := by
    unfold ixN
    rw [List.length_map, if_neg (by decide), if_pos (by omega)]
    congr 1
    omega
  rw [this, Option.map_some]
  congr 2
  apply List.ext_getElem
  · simp; omega
  · intro i h1 h2
    rw [List.getElem_set]
    by_cases c : f.length - 1 = i
    · rw [if_pos c, List.getElem_append_right (by simp; omega)]; simp
    · rw [if_neg c]
      have : i < f.length - 1 := by simp at h1; omega
      rw [List.getElem_append_left (by simp; omega)]
      simp
theorem spans_ok {a b : Int} (hl : bs.length ≤ 6) (a0 : 0 ≤ a) (ab : a ≤ b) (b1 : b ≤ 40) : sem DD (n + 2) 15 [EB bs, .int T, .int a, .int b] D = some (.tup ((spn bs T a b).map pv2), D) := by
  rw [r_f_free_spans]
  refine run_ex rfl ?_
  unfold c_f_free_spans
  show ∃ ρ', exs _ _ [some (false, EB bs), vI T, vI a, vI b, none, none] _ = _
  refine go_asg (.lst []) rfl ?_
  refine go_forP PV.int (rg a (b + 1)) (fun (f : List (Int × Int)) ρ => ∃ x5, ρ = [some (false, EB bs), vI T, vI a, vI b, some (true, .lst (f.map pv2)), x5]) (spst bs T) [] (evi_r2 rfl rfl (by omega) (by omega) (by omega) (by omega)) ⟨_, rfl⟩ (fun pre d post ρ hx ⟨x5, hρ⟩ => ?_) (fun ρ1 ⟨x5, hρ⟩ => ?_)
  · subst hρ
    have hlen := spst_len bs T pre []
    have h2 := congrArg List.length hx
    rw [List.length_append, List.length_cons, rg_len] at h2
    rw [List.length_nil] at hlen
    have hsp : spst bs T (pre.foldl (spst bs T) []) d = if cnt bs d < T then jst (pre.foldl (spst bs T) []) (d, d + 1) else pre.foldl (spst bs T) [] := rfl
    rw [hsp]
    generalize pre.foldl (spst bs T) [] = f at *
    have t := there_on_ok (n := n) (D := D) (d := d) hl
    refine ⟨.nx, [some (false, EB bs), vI T, vI a, vI b, some (true, .lst ((if cnt bs d < T then jst f (d, d + 1) else f).map pv2)), vI d], ?_, .inl rfl, _, rfl⟩
    show exs _ _ [some (false, EB bs), vI T, vI a, vI b, some (true, .lst (f.map pv2)), vI d] D = _
    have t1 : ev (sem DD (n + 1)) (.cmp .lt (.bi .len (.cons (.call 5 (.cons (.var 0) (.cons (.var 5) .nil))) .nil)) (.var 1)) [some (false, EB bs), vI T, vI a, vI b, some (true, .lst (f.map pv2)), vI d] D = some (.bl (decide (cnt bs d < T)), D) := by
      unfold cnt
      simp [getS, t, pCmp]
    rw [exs_cons, ex_ife, t1, Option.bind_some, blOf_bl, Option.bind_some]
    by_cases c : cnt bs d < T
    · rw [if_pos (decide_eq_true c), if_pos c]
      have bo : ev (sem DD (n + 1)) (.bor 4) [some (false, EB bs), vI T, vI a, vI b, some (true, .lst (f.map pv2)), vI d] D = some (.lst (f.map pv2), D) := rfl
      have v5 : ev (sem DD (n + 1)) (.var 5) [some (false, EB bs), vI T, vI a, vI b, some (true, .lst (f.map pv2)), vI d] D = some (.int d, D) := rfl
      have vd : ev (sem DD (n + 1)) (.bin .add (.var 5) (.int 1)) [some (false, EB bs), vI T, vI a, vI b, some (true, .lst (f.map pv2)), vI d] D = some (.int (d + 1), D) := rfl
      have ng : pNeg (.int 1) = some (.int (-1)) := rfl
      have apd : pApp (pv2 (d, d + 1)) (.lst (f.map pv2)) = some (.lst ((f ++ [(d, d + 1)]).map pv2)) := by
        rw [app_ok (by simp; show _ < 1000000; omega), List.map_append]; rfl
      have newv : ev (sem DD (n + 1)) (.tup (.cons (.var 5) (.cons (.bin .add (.var 5) (.int 1)) .nil))) [some (false, EB bs), vI T, vI a, vI b, some (true, .lst (f.map pv2)), vI d] D = some (pv2 (d, d + 1), D) := rfl
      cases e : f.getLast? with
      | none =>
        have hf0 : f = [] := by simpa using e
        subst hf0
        have n0 : pEq (.lst []) (.lst []) = some true := rfl
        have tst : ev (sem DD (n + 1)) (.and_ (.cons (.cmp .ne (.bor 4) (.lst .nil)) (.cons (.cmp .eq (.idx (.idx (.bor 4) (.neg (.int 1))) (.int 1)) (.var 5)) .nil))) [some (false, EB bs), vI T, vI a, vI b, some (true, .lst []), vI d] D = some (.bl false, D) := by
          simp [borS, pCmp, n0]
        have hj : jst [] (d, d + 1) = [(d, d + 1)] := rfl
        rw [exs_cons, ex_ife]
        show (((ev (sem DD (n + 1)) _ [some (false, EB bs), vI T, vI a, vI b, some (true, .lst []), vI d] D).bind _).bind _).bind _ = _
        rw [tst]
        rfl
      | some w =>
        have hne : f ≠ [] := fun z => by rw [z] at e; cases e
        have il := ev_idxm (f := f) (w := w) bo e
        have i1 : ev (sem DD (n + 1)) (.idx (.idx (.bor 4) (.neg (.int 1))) (.int 1)) [some (false, EB bs), vI T, vI a, vI b, some (true, .lst (f.map pv2)), vI d] D = some (.int w.2, D) := by rw [ev_idx, il]; simp
        have i0 : ev (sem DD (n + 1)) (.idx (.idx (.bor 4) (.neg (.int 1))) (.int 0)) [some (false, EB bs), vI T, vI a, vI b, some (true, .lst (f.map pv2)), vI d] D = some (.int w.1, D) := by rw [ev_idx, il]; simp
        have ne : pCmp .ne (.lst (f.map pv2)) (.lst []) = some true := by
          show (pEq _ _).map _ = _
          rw [pEq_lst2N]; simp [hne]
        have tst : ev (sem DD (n + 1)) (.and_ (.cons (.cmp .ne (.bor 4) (.lst .nil)) (.cons (.cmp .eq (.idx (.idx (.bor 4) (.neg (.int 1))) (.int 1)) (.var 5)) .nil))) [some (false, EB bs), vI T, vI a, vI b, some (true, .lst (f.map pv2)), vI d] D = some (.bl (w.2 == d), D) := by
          rw [ev_and, evand_cons, ev_cmp, bo, Option.bind_some]
          simp only [ev_lst, evs_nil, Option.map_some, Option.bind_some, opd_lst, ne, blOf_bl, if_true]
          rw [evand_one, ev_cmp, i1, Option.bind_some, v5]
          simp [pCmp]
        have hj : jst f (d, d + 1) = if w.2 = d then f.dropLast ++ [(w.1, d + 1)] else f ++ [(d, d + 1)] := by unfold jst; rw [e]
        rw [hj, exs_cons, ex_ife, tst, Option.bind_some, blOf_bl, Option.bind_some]
        by_cases hw : w.2 = d
        · rw [if_pos (by simpa using hw), if_pos hw, exs_cons, ex_setI, ev_tup, evs_cons, i0, Option.bind_some, evs_cons, vd]
          simp only [Option.bind_some, evs_nil, Option.map_some, ev_neg, ev_int, ng]
          rw [chg_of (x := .lst (f.map pv2)) rfl, set_lastP e, List.map_append]
          rfl
        · rw [if_neg (by simpa using hw), if_neg hw, exs_cons, ex_app, newv, Option.bind_some, chgO_of (x := .lst (f.map pv2)) rfl, apd]
          rfl
    · rw [if_neg (by simpa using c), if_neg c]
      rfl
  · subst hρ
    refine go_ret ?_
    have : (rg a (b + 1)).foldl (spst bs T) [] = spn bs T a b := spst_fold bs T _ _
    rw [this]
    simp [borS]
/-! ### the first day that is free for so long -/
def busy (bs : List B) (T long y : Int) : Bool := (rg y (y + long)).any fun d => decide (T ≤ cnt bs d)
theorem ev_busy {Φ : Fns} {ρ : Envi} {y : Int} {a : CE} {long : Int} (y0 : 0 ≤ y) (y1 : y ≤ 40) (l0 : 0 ≤ long) (l1 : long ≤ 10)
    (hi : evi Φ (.rng2 (.var 2) (.bin .add (.var 2) (.var 3))) ρ D = some ((rg y (y + long)).map .int, D))
    (H : ∀ d, st1 Φ [4] a (.nm 4) .nil ρ (.int d) D = some ([.bl (decide (T ≤ cnt bs d))], D)) :
    ev Φ (.bi .any (.cons (.lc1 [4] a (.nm 4) (.rng2 (.var 2) (.bin .add (.var 2) (.var 3))) .nil) .nil)) ρ D = some (.bl (busy bs T long y), D) := by
  have q := lcM (Φ := Φ) (D := D) (ρ := ρ) (own := [4]) (ce := a) (pt := .nm 4) (ci := .rng2 (.var 2) (.bin .add (.var 2) (.var 3))) (ct := .nil) PV.int (rg y (y + long)) (fun d => .bl (decide (T ≤ cnt bs d))) hi fun d _ => H d
  rw [ev_bi, evs_cons, q]
  simp only [evs_nil, Option.bind_some, Option.map_some, mapO_cons, mapO_nil, opd_lst]
  rw [any_bl]; rfl
theorem late_free (hB : Bs bs) (hT : 0 < T) {long y : Int} (hy : 12 ≤ y) : busy bs T long y = false := by
  unfold busy
  rw [List.any_eq_false]
  intro d hd
  have hd := mem_rg.mp hd
  have : th bs d = [] := List.eq_nil_iff_forall_not_mem.mpr fun k hk => by
    obtain ⟨⟨k0, k1⟩, k2⟩ := mem_th.mp hk
    have := hB.nn k0 k1
    rw [on_iff] at k2
    omega
  unfold cnt
  rw [this]
  simp; omega
theorem first_ok (hB : Bs bs) (hT : 0 < T) {day long : Int} (d0 : 0 ≤ day) (d1 : day ≤ 20) (l0 : 0 ≤ long) (l1 : long ≤ 10) : ∃ x, ((rg day 30).filter fun y => !busy bs T long y)[0]? = some x ∧ ∀ n D, sem DD (n + 2) 16 [EB bs, .int T, .int day, .int long] D = some (.int x, D) := by
  obtain ⟨x, x0, x1, x2, x3⟩ := least (p := fun y => busy bs T long y = false) 20 day (late_free hB hT (by omega))
  have hx28 : x ≤ 20 ∨ 20 < x := by omega
  have xm : x < 30 := by
    by_cases c : x ≤ 12
    · omega
    · by_cases c2 : day ≤ 12
      · exact absurd (late_free hB hT (y := 12) (by omega)) (x3 12 (by omega) (by omega))
      · have : x = day := by
          by_cases c3 : x = day
          · exact c3
          · exact absurd (late_free hB hT (y := day) (by omega)) (x3 day (Int.le_refl _) (by omega))
        omega
  refine ⟨x, head_srt (srt_filter _ (srt_rg _ _)) (List.mem_filter.mpr ⟨mem_rg.mpr ⟨x0, xm⟩, by rw [x2]; rfl⟩) fun y hy => ?_, fun n D => ?_⟩
  · rw [List.mem_filter, mem_rg] at hy
    by_cases c : x ≤ y
    · exact c
    · have := x3 y hy.1.1 (by omega)
      rw [Bool.not_eq_true'] at hy
      exact absurd hy.2 this
  · rw [r_f_first_free]
    refine run_ex rfl ?_
    unfold c_f_first_free
    show ∃ ρ', exs _ _ [some (false, EB bs), vI T, vI day, vI long, none] _ = _
    have hT0 : ¬ T = 0 := by omega
    have s1 : ex (sem DD (n + 1)) (.ife (.cmp .eq (.var 1) (.int 0)) (.cons (.ret .non) .nil) .nil) [some (false, EB bs), vI T, vI day, vI long, none] D = some (.nx, [some (false, EB bs), vI T, vI day, vI long, none], D) := by
      simp [getS, pCmp, hT0]
    refine go_nx s1 ?_
    have cb : ∀ y : Int, 0 ≤ y → y ≤ 40 → ev (sem DD (n + 1)) (.bi .any (.cons (.lc1 [4] (.cmp .ge (.bi .len (.cons (.call 5 (.cons (.var 0) (.cons (.var 4) .nil))) .nil)) (.var 1)) (.nm 4) (.rng2 (.var 2) (.bin .add (.var 2) (.var 3))) .nil) .nil)) [some (false, EB bs), vI T, vI y, vI long, none] D = some (.bl (busy bs T long y), D) := fun y y0 y1 => by
      refine ev_busy y0 y1 l0 l1 (evi_r2 rfl rfl (by omega) (by omega) (by omega) (by omega)) fun d => ?_
      have t := there_on_ok (n := n) (D := D) (d := d) hB.len
      unfold cnt
      simp [st1, bindP, wipE, getS, t, pCmp]
    obtain ⟨ρ', D', e, e2, e3⟩ := while_inv (P := fun ρ D' => ρ = [some (false, EB bs), vI T, vI x, vI long, none] ∧ D' = D) (fun m ρ D' => ∃ y : Int, ρ = [some (false, EB bs), vI T, vI y, vI long, none] ∧ D' = D ∧ day ≤ y ∧ y + m = x)
      (c := fun ρ D => (ev (sem DD (n + 1)) (.bi .any (.cons (.lc1 [4] (.cmp .ge (.bi .len (.cons (.call 5 (.cons (.var 0) (.cons (.var 4) .nil))) .nil)) (.var 1)) (.nm 4) (.rng2 (.var 2) (.bin .add (.var 2) (.var 3))) .nil) .nil)) ρ D).bind fun r => (blOf r.1).map fun z => (z, r.2)) (f := fun ρ D => exs (sem DD (n + 1)) (.cons (.aug 2 .add (.int 1)) .nil) ρ D)
      (fun m ρ D' ⟨y, h1, h2, h3, h4⟩ => by
        subst h1; subst h2
        cases m with
        | zero =>
          left
          have : y = x := by omega
          subst this
          refine ⟨D', ?_, rfl, rfl⟩
          rw [cb y (by omega) (by omega), x2]; rfl
        | succ m =>
          right
          have hb : busy bs T long y = true := by
            cases e : busy bs T long y with
            | true => rfl
            | false => exact absurd e (x3 y h3 (by omega))
          refine ⟨D', [some (false, EB bs), vI T, vI (y + 1), vI long, none], D', m, ?_, rfl, ?_, y + 1, rfl, rfl, by omega, by omega⟩
          · rw [cb y (by omega) (by omega), hb]; rfl
          · simp [getS, pIp]) (x - day).toNat WH [some (false, EB bs), vI T, vI day, vI long, none] D (by show _ < 100000; omega) ⟨day, rfl, rfl, Int.le_refl _, by omega⟩
    subst e2; subst e3
    refine go_nx (D1 := D') (ρ1 := [some (false, EB bs), vI T, vI x, vI long, none]) (by rw [ex_whl]; exact e) ?_
    exact go_ret rfl
theorem first_none {day long : Int} : sem DD (n + 1) 16 [EB bs, .int 0, .int day, .int long] D = some (.non, D) := by
  rw [r_f_first_free]
  refine run_ex rfl ?_
  unfold c_f_first_free
  show ∃ ρ', exs _ _ [some (false, EB bs), vI 0, vI day, vI long, none] _ = _
  refine ⟨[some (false, EB bs), vI 0, vI day, vI long, none], ?_⟩
  simp [getS, pCmp]
end
end MP.K02

namespace MP.K02
open PySem MP
section
variable {bs : List B} {n : Nat} {D : DS} {d T : Int}
/-! ### moved least -/
def mvd (old r : List Int) : Int × List Int := (((rg 0 old.length).filter fun k => !decide (v r k = v old k)).length, r)
def ways (bs : List B) (T : Int) (old : List Int) : List (Int × List Int) := (rows bs T).map (mvd old)
def mans (L : List (Int × List Int)) : PV := match L with
  | [] => .non
  | q :: L => minL (kc q) (L.map kc)
theorem pMin_mans {L : List (Int × List Int)} (h : L ≠ []) : pMin (L.map kc) = some (mans L) := by
  cases L with
  | nil => exact absurd rfl h
  | cons q L =>
    show (if ordOk (kc q :: L.map kc) then some (minL (kc q) (L.map kc)) else none) = _
    rw [if_pos (show ordOk (kc q :: L.map kc) = true from (kc_C (q :: L)).o)]; rfl
def encQ : Option (Int × List Int) → PV
  | some q => kc q
  | none => .non
def mst2 (o : Option (Int × List Int)) (q : Int × List Int) : Option (Int × List Int) := match o with
  | none => some q
  | some a => if plt (kc q) (kc a) then some q else some a
theorem mst2_some (L : List (Int × List Int)) (a : Int × List Int) : encQ (L.foldl mst2 (some a)) = minL (kc a) (L.map kc) := by
  induction L generalizing a with
  | nil => rfl
  | cons q L ih =>
    rw [List.foldl_cons]
    show encQ (L.foldl mst2 (if plt (kc q) (kc a) then some q else some a)) = (L.map kc).foldl _ (if plt (kc q) (kc a) then kc q else kc a)
    by_cases h : plt (kc q) (kc a) = true
    · rw [if_pos h, if_pos h]; exact ih q
    · rw [if_neg h, if_neg h]; exact ih a
theorem mst2_mans (L : List (Int × List Int)) : encQ (L.foldl mst2 none) = mans L := by
  cases L with
  | nil => rfl
  | cons q L => exact mst2_some L q
theorem moved_ok {old : List Int} {more : B} (hB : Bs (bs ++ [more])) (ho : old.length = bs.length) (hT0 : 0 ≤ T) (hT : T ≤ 3) : sem DD (n + 4) 17 [EB bs, ET old, .int T, pv2 more] D = some (mans (ways (bs ++ [more]) T old), D) := by
  have hl := hB.len
  have hl2 : bs.length ≤ 5 := by simp at hl; omega
  rw [r_f_moved_least]
  refine run_ex rfl ?_
  unfold c_f_moved_least
  show ∃ ρ', exs _ _ [some (false, EB bs), some (false, ET old), vI T, some (false, pv2 more), none, none, none, none, none] _ = _
  have ad : pBin .add (.tup (bs.map pv2)) (.tup [pv2 more]) = some (EB (bs ++ [more])) := by
    rw [tup_add (by simp; omega)]; simp
  have s1 : ex (sem DD (n + 3)) (.par (nms [5, 6]) [false, false] (.cons (.bin .add (.bi .tuple (.cons (.var 0) .nil)) (.tup (.cons (.var 3) .nil))) (.cons .non .nil))) [some (false, EB bs), some (false, ET old), vI T, some (false, pv2 more), none, none, none, none, none] D = some (.nx, [some (false, EB bs), some (false, ET old), vI T, some (false, pv2 more), none, some (false, EB (bs ++ [more])), some (false, .non), none, none], D) := by
    simp [getS, ad, nms, storeT]
  refine go_nx s1 ?_
  generalize hO : bs ++ [more] = os at *
  have hol : os.length = bs.length + 1 := by rw [← hO]; simp
  have rep : pBin .mul (.lst [.int T]) (.int os.length) = some (.lst ((List.replicate os.length T).map .int)) := by
    show (if ([PV.int T].length * ((os.length : Int)).toNat ≤ LIM ∧ (os.length : Int) ≤ LIM ∧ -LIM ≤ (os.length : Int)) then some (PV.lst (List.replicate ((os.length : Int)).toNat [PV.int T]).flatten) else none) = _
    rw [if_pos (by simp; exact ⟨by show os.length ≤ 1000000; omega, by show (os.length : Int) ≤ 1000000; omega⟩), Int.toNat_natCast]
    congr 2
    simp
  have ar := all_rows_ok (n := n + 2) (D := D) (m := os.length) hl hT hT0
  refine go_forP ET (rws os.length T) (fun (o : Option (Int × List Int)) ρ => ∃ x4 x7, ρ = [some (false, EB bs), some (false, ET old), vI T, some (false, pv2 more), x4, some (false, EB os), some (false, encQ o), x7, none]) (fun o r => if lgd os r then mst2 o (mvd old r) else o) none ?_ ⟨_, _, rfl⟩ (fun pre r post ρ hx ⟨x4, x7, hρ⟩ => ?_) (fun ρ1 ⟨x4, x7, hρ⟩ => ?_)
  · refine evi_ov ?_
    show ev (sem DD (n + 3)) (.call 3 (.cons (.bin .mul (.lst (.cons (.var 2) .nil)) (.bi .len (.cons (.var 5) .nil))) .nil)) [some (false, EB bs), some (false, ET old), vI T, some (false, pv2 more), none, some (false, EB os), some (false, .non), none, none] D = _
    have e1 : ev (sem DD (n + 3)) (.bin .mul (.lst (.cons (.var 2) .nil)) (.bi .len (.cons (.var 5) .nil))) [some (false, EB bs), some (false, ET old), vI T, some (false, pv2 more), none, some (false, EB os), some (false, .non), none, none] D = some (.lst ((List.replicate os.length T).map .int), D) := by
      have v2 : ev (sem DD (n + 3)) (.lst (.cons (.var 2) .nil)) [some (false, EB bs), some (false, ET old), vI T, some (false, pv2 more), none, some (false, EB os), some (false, .non), none, none] D = some (.lst [.int T], D) := rfl
      have v5 : ev (sem DD (n + 3)) (.bi .len (.cons (.var 5) .nil)) [some (false, EB bs), some (false, ET old), vI T, some (false, pv2 more), none, some (false, EB os), some (false, .non), none, none] D = some (.int os.length, D) := by simp [getS]
      rw [ev_bin, v2, Option.bind_some, v5, Option.bind_some, rep]; rfl
    rw [ev_call, evs_cons, e1]
    simp only [evs_nil, Option.bind_some, Option.map_some]
    exact ar
  · subst hρ
    have hr := (mem_rws (m := os.length) (r := r) (T := T)).mp (by rw [hx]; simp)
    have hd := hd_int (n := n) (D := D) (bs := os) (T := T) (r := r) hl (by omega)
    have hdl : hdd os T r = lgd os r := by
      unfold hdd
      rw [lgd_hok hB, decide_eq_true hr.1, Bool.true_and]
      have : (r.all fun x => decide (0 ≤ x) && decide (x < T)) = true := List.all_eq_true.mpr fun x hx => by
        have := hr.2 x hx
        simpa using this
      rw [this, Bool.true_and]
    rw [hdl] at hd
    generalize pre.foldl (fun o r => if lgd os r then mst2 o (mvd old r) else o) none = o at *
    have t : ∀ x7, ev (sem DD (n + 3)) (.call 7 (.cons (.var 5) (.cons (.var 2) (.cons (.var 4) .nil)))) [some (false, EB bs), some (false, ET old), vI T, some (false, pv2 more), some (false, ET r), some (false, EB os), some (false, encQ o), x7, none] D = some (.bl (lgd os r), D) := fun x7 => by
      rw [ev_call, evs_cons, show ev (sem DD (n + 3)) (.var 5) [some (false, EB bs), some (false, ET old), vI T, some (false, pv2 more), some (false, ET r), some (false, EB os), some (false, encQ o), x7, none] D = some (EB os, D) from rfl, Option.bind_some, evs_cons, show ev (sem DD (n + 3)) (.var 2) [some (false, EB bs), some (false, ET old), vI T, some (false, pv2 more), some (false, ET r), some (false, EB os), some (false, encQ o), x7, none] D = some (.int T, D) from rfl, Option.bind_some, evs_cons, show ev (sem DD (n + 3)) (.var 4) [some (false, EB bs), some (false, ET old), vI T, some (false, pv2 more), some (false, ET r), some (false, EB os), some (false, encQ o), x7, none] D = some (ET r, D) from rfl]
      simp only [evs_nil, Option.bind_some, Option.map_some]
      exact hd
    have go : ∃ o2 ρ', exs (sem DD (n + 3)) (.cons (.ife (.call 7 (.cons (.var 5) (.cons (.var 2) (.cons (.var 4) .nil)))) (.cons (.asg false 7 (.bi .len (.cons (.lc1 [8] (.int 1) (.nm 8) (.rng1 (.bi .len (.cons (.var 1) .nil))) (.cons (.cmp .ne (.idx (.var 4) (.var 8)) (.idx (.var 1) (.var 8))) .nil)) .nil))) (.cons (.asg false 6 (.ite (.or_ (.cons (.cmp .is_ (.var 6) .non) (.cons (.cmp .lt (.tup (.cons (.var 7) (.cons (.var 4) .nil))) (.var 6)) .nil))) (.tup (.cons (.var 7) (.cons (.var 4) .nil))) (.var 6))) .nil)) .nil) .nil) [some (false, EB bs), some (false, ET old), vI T, some (false, pv2 more), some (false, ET r), some (false, EB os), some (false, encQ o), x7, none] D = some (o2, ρ', D) ∧ (o2 = .nx ∨ o2 = .ct) ∧ ∃ x4 x7, ρ' = [some (false, EB bs), some (false, ET old), vI T, some (false, pv2 more), x4, some (false, EB os), some (false, encQ (if lgd os r then mst2 o (mvd old r) else o)), x7, none] := by
      by_cases c : lgd os r = true
      · rw [if_pos c]
        have q := lcP (Φ := sem DD (n + 3)) (D := D) (ρ := [some (false, EB bs), some (false, ET old), vI T, some (false, pv2 more), some (false, ET r), some (false, EB os), some (false, encQ o), x7, none]) (own := [8]) (ce := .int 1) (pt := .nm 8) (ci := .rng1 (.bi .len (.cons (.var 1) .nil))) (ct := .cons (.cmp .ne (.idx (.var 4) (.var 8)) (.idx (.var 1) (.var 8))) .nil) PV.int (rg 0 old.length) (fun k => !decide (v r k = v old k)) (fun _ => .int 1) (evi_r1 (by simp [getS]) (by omega) (by omega)) fun k hk => by
          obtain ⟨k0, k1⟩ := mem_rg.mp hk
          have a := ixv (r := r) (k := k) k0 (by omega)
          have b := ixv (r := old) (k := k) k0 (by omega)
          by_cases e : v r k = v old k <;> simp [st1, bindP, wipE, getS, a, b, pCmp, e]
        have e7 : ev (sem DD (n + 3)) (.bi .len (.cons (.lc1 [8] (.int 1) (.nm 8) (.rng1 (.bi .len (.cons (.var 1) .nil))) (.cons (.cmp .ne (.idx (.var 4) (.var 8)) (.idx (.var 1) (.var 8))) .nil)) .nil)) [some (false, EB bs), some (false, ET old), vI T, some (false, pv2 more), some (false, ET r), some (false, EB os), some (false, encQ o), x7, none] D = some (.int (mvd old r).1, D) := by
          rw [ev_bi, evs_cons, q]
          simp only [evs_nil, Option.bind_some, Option.map_some, mapO_cons, mapO_nil, opd_lst, pLenL, List.length_map]
          rfl
        refine ⟨.nx, [some (false, EB bs), some (false, ET old), vI T, some (false, pv2 more), some (false, ET r), some (false, EB os), some (false, encQ (mst2 o (mvd old r))), vI (mvd old r).1, none], ?_, .inl rfl, _, _, rfl⟩
        rw [exs_cons, ex_ife, t, Option.bind_some, blOf_bl, Option.bind_some, if_pos c, exs_cons, ex_asg, e7]
        simp only [Option.map_some, Option.bind_some]
        rw [exs_cons, ex_asg]
        have tupv : ev (sem DD (n + 3)) (.tup (.cons (.var 7) (.cons (.var 4) .nil))) [some (false, EB bs), some (false, ET old), vI T, some (false, pv2 more), some (false, ET r), some (false, EB os), some (false, encQ o), vI (mvd old r).1, none] D = some (kc (mvd old r), D) := rfl
        have v6 : ev (sem DD (n + 3)) (.var 6) [some (false, EB bs), some (false, ET old), vI T, some (false, pv2 more), some (false, ET r), some (false, EB os), some (false, encQ o), vI (mvd old r).1, none] D = some (encQ o, D) := rfl
        have it : ev (sem DD (n + 3)) (.ite (.or_ (.cons (.cmp .is_ (.var 6) .non) (.cons (.cmp .lt (.tup (.cons (.var 7) (.cons (.var 4) .nil))) (.var 6)) .nil))) (.tup (.cons (.var 7) (.cons (.var 4) .nil))) (.var 6)) [some (false, EB bs), some (false, ET old), vI T, some (false, pv2 more), some (false, ET r), some (false, EB os), some (false, encQ o), vI (mvd old r).1, none] D = some (encQ (mst2 o (mvd old r)), D) := by
          cases o with
          | none =>
            rw [ev_ite, ev_or, evor_cons, ev_cmp, v6]
            simp only [Option.bind_some, ev_non]
            show ((((some (PV.bl true, D)).bind _).bind _)) = _
            simp only [Option.bind_some, blOf_bl, if_true, tupv]
            rfl
          | some a =>
            have pl : pLt (kc (mvd old r)) (kc a) = some (plt (kc (mvd old r)) (kc a)) := by
              have C := kc_C [mvd old r, a]
              have sh : ∀ q : Int × List Int, shp DEP (kc q) = true := fun q => by
                show (shp 19 (.int q.1) && (shp 19 (ET q.2) && true)) = true
                rw [shp_ET]; simp
              show (if (shp DEP _ && shp DEP _ && cmpOk _ _) = true then some _ else none) = _
              rw [if_pos]
              rw [sh, sh, C.c (x := kc (mvd old r)) (y := kc a) (by simp) (by simp)]; rfl
            have isn : ev (sem DD (n + 3)) (.cmp .is_ (.var 6) .non) [some (false, EB bs), some (false, ET old), vI T, some (false, pv2 more), some (false, ET r), some (false, EB os), some (false, encQ (some a)), vI (mvd old r).1, none] D = some (.bl false, D) := rfl
            have cm : ev (sem DD (n + 3)) (.cmp .lt (.tup (.cons (.var 7) (.cons (.var 4) .nil))) (.var 6)) [some (false, EB bs), some (false, ET old), vI T, some (false, pv2 more), some (false, ET r), some (false, EB os), some (false, encQ (some a)), vI (mvd old r).1, none] D = some (.bl (plt (kc (mvd old r)) (kc a)), D) := by
              rw [ev_cmp, tupv, Option.bind_some, v6, Option.bind_some]
              show ((opd D (kc a)).bind _) = _
              rw [okc, Option.bind_some]
              show ((pLt _ _).map _) = _
              rw [pl]; rfl
            rw [ev_ite, ev_or, evor_cons, isn, Option.bind_some, blOf_bl, Option.bind_some, if_neg (by simp), evor_one, cm, Option.bind_some, blOf_bl, Option.bind_some]
            show _ = some (encQ (if plt (kc (mvd old r)) (kc a) then some (mvd old r) else some a), D)
            by_cases h : plt (kc (mvd old r)) (kc a) = true
            · rw [if_pos h, if_pos h, tupv]; rfl
            · rw [if_neg h, if_neg h, v6]
        show (((ev (sem DD (n + 3)) _ [some (false, EB bs), some (false, ET old), vI T, some (false, pv2 more), some (false, ET r), some (false, EB os), some (false, encQ o), vI (mvd old r).1, none] D).map _).bind _).bind _ = _
        rw [it]; rfl
      · rw [if_neg c]
        refine ⟨.nx, [some (false, EB bs), some (false, ET old), vI T, some (false, pv2 more), some (false, ET r), some (false, EB os), some (false, encQ o), x7, none], ?_, .inl rfl, _, _, rfl⟩
        rw [exs_cons, ex_ife, t, Option.bind_some, blOf_bl, Option.bind_some, if_neg c]; rfl
    exact go
  · subst hρ
    refine go_ret ?_
    have : ∀ (L : List (List Int)) (o : Option (Int × List Int)), L.foldl (fun o r => if lgd os r then mst2 o (mvd old r) else o) o = ((L.filter (lgd os)).map (mvd old)).foldl mst2 o := fun L => by
      induction L with
      | nil => exact fun o => rfl
      | cons r L ih =>
        intro o
        rw [List.foldl_cons, ih]
        by_cases c : lgd os r = true
        · rw [if_pos c, List.filter_cons_of_pos c]; rfl
        · rw [if_neg c, List.filter_cons_of_neg c]
    rw [this, show ((rws os.length T).filter (lgd os)).map (mvd old) = ways os T old from rfl]
    show ev (sem DD (n + 3)) (.var 6) _ D = _
    rw [← mst2_mans]; rfl
/-! ### those that are late -/
def smk (bs : List B) (r : List Int) (k j : Int) : Bool := decide (v r j = v r k) && decide ((g bs k).2 ≤ (g bs j).1)
def keysL (bs : List B) (r : List Int) (k : Int) : List (Int × Int) := ((rg 0 bs.length).filter (smk bs r k)).map fun j => ((g bs j).1, j)
def lst2 (bs : List B) (s : List Int × Int) (q : Int × Int) : List Int × Int := if q.1 < s.2 then (s.1 ++ [q.2], s.2 + (g bs q.2).2 - q.1) else s
noncomputable def lates (bs : List B) (r : List Int) (k days : Int) : List Int := ((srtP (keysL bs r k)).foldl (lst2 bs) ([], (g bs k).2 + days)).1
theorem keysL_mem {r : List Int} {k : Int} {q : Int × Int} (h : q ∈ srtP (keysL bs r k)) : 0 ≤ q.2 ∧ q.2 < bs.length := by
  have := (srtP_perm _).mem_iff.mp h
  obtain ⟨j, hj, rfl⟩ := List.mem_map.mp this
  exact mem_rg.mp (List.mem_filter.mp hj).1
theorem keysL_nd {r : List Int} {k : Int} : ((srtP (keysL bs r k)).map (·.2)).Nodup := by
  refine ((srtP_perm (keysL bs r k)).map (·.2)).nodup_iff.mpr ?_
  unfold keysL
  rw [List.map_map, show (((·.2) : Int × Int → Int) ∘ fun k : Int => ((g bs k).1, k)) = id from rfl, List.map_id]
  exact srt_nodup (srt_filter _ (srt_rg _ _))
theorem lst2_sub (bs : List B) : ∀ (L : List (Int × Int)) (s : List Int × Int), ∃ M, (L.foldl (lst2 bs) s).1 = s.1 ++ M ∧ M.Sublist (L.map (·.2))
  | [], s => ⟨[], by simp, List.Sublist.refl _⟩
  | q :: L, s => by
    obtain ⟨M, e, h⟩ := lst2_sub bs L (lst2 bs s q)
    rw [List.foldl_cons, e, List.map_cons]
    unfold lst2
    by_cases c : q.1 < s.2
    · rw [if_pos c]
      exact ⟨q.2 :: M, by simp, h.cons₂ _⟩
    · rw [if_neg c]
      exact ⟨M, rfl, h.cons _⟩
theorem lates_nd {r : List Int} {k days : Int} : (lates bs r k days).Nodup := by
  obtain ⟨M, e, h⟩ := lst2_sub bs (srtP (keysL bs r k)) ([], (g bs k).2 + days)
  unfold lates
  rw [e, List.nil_append]
  exact keysL_nd.sublist h
theorem keysL_len {r : List Int} {k : Int} : (srtP (keysL bs r k)).length ≤ bs.length := by
  rw [(srtP_perm _).length_eq]
  unfold keysL
  rw [List.length_map]
  refine Nat.le_trans (List.length_filter_le _ _) ?_
  rw [rg_len]; omega
theorem spread_ok {r : List Int} {k days : Int} (hl : bs.length ≤ 6) (hr : r.length = bs.length) (k0 : 0 ≤ k) (k1 : k < bs.length) : sem DD (n + 1) 18 [EB bs, ET r, .int k, .int days] D = some (ET (sset (lates bs r k days)), D) := by
  rw [r_f_late_spread]
  refine run_ex rfl ?_
  unfold c_f_late_spread
  show ∃ ρ', exs _ _ [some (false, EB bs), some (false, ET r), vI k, vI days, none, none, none, none, none, none] _ = _
  have ik := ixb (bs := bs) k0 k1
  have vk := ixv (r := r) (k := k) k0 (by omega)
  have s1 : ex (sem DD n) (.par (nms [6, 7]) [true, false] (.cons (.lst .nil) (.cons (.bin .add (.idx (.idx (.var 0) (.var 2)) (.int 1)) (.var 3)) .nil))) [some (false, EB bs), some (false, ET r), vI k, vI days, none, none, none, none, none, none] D = some (.nx, [some (false, EB bs), some (false, ET r), vI k, vI days, none, none, some (true, .lst []), vI ((g bs k).2 + days), none, none], D) := by
    simp [getS, ik, nms, storeT]
  refine go_nx s1 ?_
  have q4 := lcP (Φ := sem DD n) (D := D) (ρ := [some (false, EB bs), some (false, ET r), vI k, vI days, none, none, some (true, .lst []), vI ((g bs k).2 + days), none, none]) (own := [9]) (ce := .var 9) (pt := .nm 9) (ci := .rng1 (.bi .len (.cons (.var 0) .nil))) (ct := .cons (.and_ (.cons (.cmp .eq (.idx (.var 1) (.var 9)) (.idx (.var 1) (.var 2))) (.cons (.cmp .ge (.idx (.idx (.var 0) (.var 9)) (.int 0)) (.idx (.idx (.var 0) (.var 2)) (.int 1))) .nil))) .nil) PV.int (rg 0 bs.length) (smk bs r k) PV.int (evi_r1 (by simp [getS]) (by omega) (by omega)) fun j hj => by
    obtain ⟨j0, j1⟩ := mem_rg.mp hj
    have a := ixb j0 j1
    have b := ixv (r := r) (k := j) j0 (by omega)
    unfold smk
    by_cases e : v r j = v r k
    · by_cases e2 : (g bs k).2 ≤ (g bs j).1 <;> simp [st1, bindP, wipE, getS, a, b, ik, vk, pCmp, e, e2]
    · simp [st1, bindP, wipE, getS, a, b, ik, vk, pCmp, e]
  refine go_asg _ q4 ?_
  have q5 := lcM (Φ := sem DD n) (D := D) (ρ := [some (false, EB bs), some (false, ET r), vI k, vI days, some (false, .lst (((rg 0 bs.length).filter (smk bs r k)).map .int)), none, some (true, .lst []), vI ((g bs k).2 + days), none, none]) (own := [9]) (ce := .tup (.cons (.idx (.idx (.var 0) (.var 9)) (.int 0)) (.cons (.var 9) .nil))) (pt := .nm 9) (ci := .over (.var 4)) (ct := .nil) PV.int ((rg 0 bs.length).filter (smk bs r k)) (fun j => pv2 ((g bs j).1, j)) rfl fun j hj => by
    obtain ⟨j0, j1⟩ := mem_rg.mp (List.mem_filter.mp hj).1
    have a := ixb j0 j1
    simp [st1, bindP, wipE, getS, a]
    rfl
  have em : (((rg 0 (bs.length : Int)).filter (smk bs r k)).map fun j => pv2 ((g bs j).1, j)) = (keysL bs r k).map pv2 := by
    unfold keysL; rw [List.map_map]; rfl
  rw [em] at q5
  refine go_asg (.lst ((srtP (keysL bs r k)).map pv2)) ?_ ?_
  · show ev (sem DD n) _ [some (false, EB bs), some (false, ET r), vI k, vI days, some (false, .lst (((rg 0 bs.length).filter (smk bs r k)).map .int)), none, some (true, .lst []), vI ((g bs k).2 + days), none, none] D = _
    rw [ev_bi, evs_cons, q5]
    simp only [evs_nil, Option.bind_some, Option.map_some, mapO_cons, mapO_nil, opd_lst]
    rw [pSorted_pairs]; rfl
  show ∃ ρ', exs _ _ [some (false, EB bs), some (false, ET r), vI k, vI days, some (false, .lst (((rg 0 bs.length).filter (smk bs r k)).map .int)), some (false, .lst ((srtP (keysL bs r k)).map pv2)), some (true, .lst []), vI ((g bs k).2 + days), none, none] _ = _
  have kl := keysL_len (bs := bs) (r := r) (k := k)
  have lnd := lates_nd (bs := bs) (r := r) (k := k) (days := days)
  have hmem := fun q => keysL_mem (bs := bs) (r := r) (k := k) (q := q)
  unfold lates at lnd ⊢
  generalize some (false, PV.lst (((rg 0 (bs.length : Int)).filter (smk bs r k)).map .int)) = x4
  generalize srtP (keysL bs r k) = S at *
  refine go_forP pv2 S (fun (s : List Int × Int) ρ => s.1.length ≤ 100 → ∃ x8 x9, ρ = [some (false, EB bs), some (false, ET r), vI k, vI days, x4, some (false, .lst (S.map pv2)), some (true, .lst (s.1.map .int)), vI s.2, x8, x9]) (lst2 bs) ([], (g bs k).2 + days) rfl (fun _ => ⟨_, _, rfl⟩) (fun pre q post ρ hx hR => ?_) (fun ρ1 hR => ?_)
  · have hs := lst2_sub bs pre ([], (g bs k).2 + days)
    have hq := hmem q (by rw [hx]; simp)
    generalize pre.foldl (lst2 bs) ([], (g bs k).2 + days) = s at *
    have hsl : s.1.length ≤ 6 := by
      obtain ⟨M, e, h⟩ := hs
      have h2 := h.length_le
      have h3 := congrArg List.length hx
      rw [e]
      simp at h2 h3 ⊢
      omega
    obtain ⟨x8, x9, hρ⟩ := hR (by omega)
    subst hρ
    have ap := app_ok (xs := s.1.map .int) (v := .int q.2) (by simp; show _ < 1000000; omega)
    have a := ixb hq.1 hq.2
    refine ⟨.nx, [some (false, EB bs), some (false, ET r), vI k, vI days, x4, some (false, .lst (S.map pv2)), some (true, .lst ((lst2 bs s q).1.map .int)), vI (lst2 bs s q).2, vI q.1, vI q.2], ?_, .inl rfl, fun _ => ⟨_, _, rfl⟩⟩
    unfold lst2
    by_cases c : q.1 < s.2
    · rw [if_pos c]
      simp [bindP, bindPs, pv2, getS, borS, chgO, pCmp, c, ap]
      simp [pv2] at a
      simp [a]
      rfl
    · rw [if_neg c]
      simp [bindP, bindPs, pv2, getS, borS, pCmp, c]
  · obtain ⟨x8, x9, hρ⟩ := hR (by
      obtain ⟨M, e, h⟩ := lst2_sub bs S ([], (g bs k).2 + days)
      have h2 := h.length_le
      rw [e]
      simp at h2 ⊢
      omega)
    subst hρ
    refine go_ret ?_
    generalize (S.foldl (lst2 bs) ([], (g bs k).2 + days)) = s at *
    rw [ev_bi, evs_cons, ev_bi, evs_cons, show ev (sem DD n) (.bor 6) [some (false, EB bs), some (false, ET r), vI k, vI days, x4, some (false, .lst (S.map pv2)), some (true, .lst (s.1.map .int)), vI s.2, x8, x9] D = some (.lst (s.1.map .int), D) from rfl]
    simp only [evs_nil, Option.bind_some, Option.map_some, mapO_cons, mapO_nil, opd_lst, sorted_ints lnd, pTupL]
theorem law_spread_ok {r : List Int} {k days : Int} (hl : bs.length ≤ 6) (hr : r.length = bs.length) (k0 : 0 ≤ k) (k1 : k < bs.length) : sem DD (n + 1) 29 [EB bs, ET r, .int k, .int days] D = some (ET (sset (lates bs r k days)), D) := by
  rw [r_f__law_spread]
  refine run_ex rfl ?_
  unfold c_f__law_spread
  show ∃ ρ', exs _ _ [some (false, EB bs), some (false, ET r), vI k, vI days, none, none, none, none] _ = _
  have ik := ixb (bs := bs) k0 k1
  have vk := ixv (r := r) (k := k) k0 (by omega)
  have s1 : ex (sem DD n) (.par (nms [5, 6]) [false, false] (.cons (.lst .nil) (.cons (.bin .add (.idx (.idx (.var 0) (.var 2)) (.int 1)) (.var 3)) .nil))) [some (false, EB bs), some (false, ET r), vI k, vI days, none, none, none, none] D = some (.nx, [some (false, EB bs), some (false, ET r), vI k, vI days, none, some (false, .lst []), vI ((g bs k).2 + days), none], D) := by
    simp [getS, ik, nms, storeT]
  refine go_nx s1 ?_
  have q5 := lcP (Φ := sem DD n) (D := D) (ρ := [some (false, EB bs), some (false, ET r), vI k, vI days, none, some (false, .lst []), vI ((g bs k).2 + days), none]) (own := [7]) (ce := .tup (.cons (.idx (.idx (.var 0) (.var 7)) (.int 0)) (.cons (.var 7) .nil))) (pt := .nm 7) (ci := .rng1 (.bi .len (.cons (.var 0) .nil))) (ct := .cons (.and_ (.cons (.cmp .eq (.idx (.var 1) (.var 7)) (.idx (.var 1) (.var 2))) (.cons (.cmp .ge (.idx (.idx (.var 0) (.var 7)) (.int 0)) (.idx (.idx (.var 0) (.var 2)) (.int 1))) .nil))) .nil) PV.int (rg 0 bs.length) (smk bs r k) (fun j => pv2 ((g bs j).1, j)) (evi_r1 (by simp [getS]) (by omega) (by omega)) fun j hj => by
    obtain ⟨j0, j1⟩ := mem_rg.mp hj
    have a := ixb j0 j1
    have b := ixv (r := r) (k := j) j0 (by omega)
    unfold smk
    by_cases e : v r j = v r k
    · by_cases e2 : (g bs k).2 ≤ (g bs j).1
      · simp [st1, bindP, wipE, getS, a, b, ik, vk, pCmp, e, e2]; rfl
      · simp [st1, bindP, wipE, getS, a, b, ik, vk, pCmp, e, e2]
    · simp [st1, bindP, wipE, getS, a, b, ik, vk, pCmp, e]
  have em : (((rg 0 (bs.length : Int)).filter (smk bs r k)).map fun j => pv2 ((g bs j).1, j)) = (keysL bs r k).map pv2 := by
    unfold keysL; rw [List.map_map]; rfl
  rw [em] at q5
  have kl := keysL_len (bs := bs) (r := r) (k := k)
  have lnd := lates_nd (bs := bs) (r := r) (k := k) (days := days)
  have hmem := fun q => keysL_mem (bs := bs) (r := r) (k := k) (q := q)
  have hsrt := pSorted_pairs (keysL bs r k)
  unfold lates at lnd ⊢
  generalize srtP (keysL bs r k) = S at *
  refine go_forP pv2 S (fun (s : List Int × Int) ρ => s.1.length ≤ 100 → ∃ x4, ρ = [some (false, EB bs), some (false, ET r), vI k, vI days, x4, some (false, .lst (s.1.map .int)), vI s.2, none]) (lst2 bs) ([], (g bs k).2 + days) (by
      refine evi_ov ?_
      rw [ev_bi, evs_cons, q5]
      simp only [evs_nil, Option.bind_some, Option.map_some, mapO_cons, mapO_nil, opd_lst]
      rw [hsrt]; rfl) (fun _ => ⟨_, rfl⟩) (fun pre q post ρ hx hR => ?_) (fun ρ1 hR => ?_)
  · have hs := lst2_sub bs pre ([], (g bs k).2 + days)
    have hq := hmem q (by rw [hx]; simp)
    generalize pre.foldl (lst2 bs) ([], (g bs k).2 + days) = s at *
    have hsl : s.1.length ≤ 6 := by
      obtain ⟨M, e, h⟩ := hs
      have h2 := h.length_le
      have h3 := congrArg List.length hx
      rw [e]
      simp at h2 h3 ⊢
      omega
    obtain ⟨x4, hρ⟩ := hR (by omega)
    subst hρ
    have ad := lst_add (a := s.1.map .int) (b := [.int q.2]) (by simp; omega)
    have a := ixb hq.1 hq.2
    refine ⟨.nx, [some (false, EB bs), some (false, ET r), vI k, vI days, some (false, pv2 q), some (false, .lst ((lst2 bs s q).1.map .int)), vI (lst2 bs s q).2, none], ?_, .inl rfl, fun _ => ⟨_, rfl⟩⟩
    unfold lst2
    by_cases c : q.1 < s.2
    · rw [if_pos c]
      simp [bindP, getS, pCmp, c, ad, a, nms, storeT]
    · rw [if_neg c]
      simp [bindP, getS, pCmp, c]
  · obtain ⟨x4, hρ⟩ := hR (by
      obtain ⟨M, e, h⟩ := lst2_sub bs S ([], (g bs k).2 + days)
      have h2 := h.length_le
      rw [e]
      simp at h2 ⊢
      omega)
    subst hρ
    refine go_ret ?_
    generalize (S.foldl (lst2 bs) ([], (g bs k).2 + days)) = s at *
    rw [ev_bi, evs_cons, ev_bi, evs_cons, show ev (sem DD n) (.var 5) [some (false, EB bs), some (false, ET r), vI k, vI days, x4, some (false, .lst (s.1.map .int)), vI s.2, none] D = some (.lst (s.1.map .int), D) from rfl]
    simp only [evs_nil, Option.bind_some, Option.map_some, mapO_cons, mapO_nil, opd_lst, sorted_ints lnd, pTupL]
end
end MP.K02

namespace MP.K02
open PySem MP
section
variable {bs : List B} {n : Nat} {D : DS} {d T : Int}
abbrev fE : CE := .and_ (.cons (.call 1 (.cons (.var 1) (.cons (.int 0) .nil))) (.cons (.call 1 (.cons (.var 2) (.cons (.int 0) .nil))) (.cons (.cmp .lt (.var 1) (.var 2)) .nil)))
theorem are_gen (L : List PV) (p q : PV → Bool) (h1 : ∀ y ∈ L, sem DD (n + 2) 2 [y, .int 2] D = some (.bl (p y), D)) (h2 : L.all p = true → ∀ y ∈ L, st1 (sem DD (n + 2)) [1, 2] fE (.tp [(.nm 1), (.nm 2)]) .nil [some (false, .tup L), none, none, none] y D = some ([.bl (q y)], D)) :
    sem DD (n + 3) 4 [.tup L] D = some (.bl (L.all p && L.all q), D) := by
  rw [r_f_are_bookings]
  refine run_ex rfl ?_
  unfold c_f_are_bookings
  show ∃ ρ', exs _ _ [some (false, .tup L), none, none, none] _ = _
  have q1 := lcM (α := PV) (Φ := sem DD (n + 2)) (D := D) (ρ := [some (false, .tup L), none, none, none]) (own := [3]) (ce := .call 2 (.cons (.var 3) (.cons (.int 2) .nil))) (pt := .nm 3) (ci := .over (.var 0)) (ct := .nil) id L (fun y => .bl (p y)) (by rw [List.map_id]; rfl) fun y hy => by
    have := h1 y hy
    simp [st1, bindP, wipE, getS, this]
  have al := all_bl p L
  have t : ev (sem DD (n + 2)) (.or_ (.cons (.not_ (.isi .ttup (.var 0))) (.cons (.not_ (.bi .all (.cons (.lc1 [3] (.call 2 (.cons (.var 3) (.cons (.int 2) .nil))) (.nm 3) (.over (.var 0)) .nil) .nil))) .nil))) [some (false, .tup L), none, none, none] D = some (.bl (!L.all p), D) := by
    have i0 : ev (sem DD (n + 2)) (.not_ (.isi .ttup (.var 0))) [some (false, .tup L), none, none, none] D = some (.bl false, D) := rfl
    rw [ev_or, evor_cons, i0, Option.bind_some, blOf_bl, Option.bind_some, if_neg (by simp), evor_one, ev_not, ev_bi, evs_cons, q1]
    simp only [evs_nil, Option.bind_some, Option.map_some, mapO_cons, mapO_nil, opd_lst]
    rw [al]; rfl
  by_cases c : L.all p = true
  case neg =>
    refine ⟨[some (false, .tup L), none, none, none], ?_⟩
    rw [exs_cons, ex_ife, t, Bool.eq_false_iff.mpr c]; rfl
  have s1 : ex (sem DD (n + 2)) (.ife (.or_ (.cons (.not_ (.isi .ttup (.var 0))) (.cons (.not_ (.bi .all (.cons (.lc1 [3] (.call 2 (.cons (.var 3) (.cons (.int 2) .nil))) (.nm 3) (.over (.var 0)) .nil) .nil))) .nil))) (.cons (.ret (.bl false)) .nil) .nil) [some (false, .tup L), none, none, none] D = some (.nx, [some (false, .tup L), none, none, none], D) := by
    rw [ex_ife, t, c]; rfl
  refine go_nx s1 ?_
  refine go_ret ?_
  have q2 := lcM (α := PV) (Φ := sem DD (n + 2)) (D := D) (ρ := [some (false, .tup L), none, none, none]) (own := [1, 2]) (ce := fE) (pt := .tp [(.nm 1), (.nm 2)]) (ci := .over (.var 0)) (ct := .nil) id L (fun y => .bl (q y)) (by rw [List.map_id]; rfl) fun y hy => h2 c y hy
  have al2 := all_bl q L
  rw [ev_bi, evs_cons, q2]
  simp only [evs_nil, Option.bind_some, Option.map_some, mapO_cons, mapO_nil, opd_lst]
  rw [al2, c]; rfl
theorem tup_of {L : List PV} : sem DD (n + 1) 2 [.tup L, .int 2] D = some (.bl (decide (L.length = 2)), D) := by
  rw [r_f_is_tuple_of]
  refine run_ex rfl ?_
  unfold c_f_is_tuple_of
  show ∃ ρ', exs _ _ [some (false, .tup L), vI 2] _ = _
  refine go_ret ?_
  by_cases h : L.length = 2
  · have : (L.length : Int) = 2 := by omega
    simp [getS, pIs, pCmp, h, this]
  · have : ¬ (L.length : Int) = 2 := by omega
    simp [getS, pIs, pCmp, h, this]
theorem tup_of_int {i : Int} : sem DD (n + 1) 2 [.int i, .int 2] D = some (.bl false, D) := by
  rw [r_f_is_tuple_of]
  refine run_ex rfl ?_
  unfold c_f_is_tuple_of
  exact ⟨_, rfl⟩
theorem nn_bl {b : Bool} : sem DD (n + 1) 0 [.bl b] D = some (.bl false, D) := by
  rw [r_f_is_number]
  exact run_ex rfl ⟨_, rfl⟩
theorem nn_non : sem DD (n + 1) 0 [.non] D = some (.bl false, D) := by
  rw [r_f_is_number]
  exact run_ex rfl ⟨_, rfl⟩
theorem nn_str {s : Str} : sem DD (n + 1) 0 [.str s] D = some (.bl false, D) := by
  rw [r_f_is_number]
  exact run_ex rfl ⟨_, rfl⟩
def p2 : PV → Bool
  | .tup L => decide (L.length = 2)
  | _ => false
def q2 : PV → Bool
  | .tup [.int a, .int b] => decide (0 ≤ a) && (decide (0 ≤ b) && decide (a < b))
  | _ => false
theorem st_int {L : List PV} {a b : Int} : st1 (sem DD (n + 2)) [1, 2] fE (.tp [(.nm 1), (.nm 2)]) .nil [some (false, .tup L), none, none, none] (.tup [.int a, .int b]) D = some ([.bl (decide (0 ≤ a) && (decide (0 ≤ b) && decide (a < b)))], D) := by
  have f := is_from_int (n := n) (D := D) (i := a)
  have h := is_from_int (n := n) (D := D) (i := b)
  by_cases a0 : 0 ≤ a
  · by_cases b0 : 0 ≤ b <;> simp [st1, bindP, bindPs, wipE, getS, f, h, pCmp, a0, b0]
  · simp [st1, bindP, bindPs, wipE, getS, f, h, pCmp, a0]
theorem are_yes (hB : Bs bs) : sem DD (n + 3) 4 [EB bs] D = some (.bl true, D) := by
  have := are_gen (n := n) (D := D) (bs.map pv2) p2 q2 (fun y hy => by
    obtain ⟨b, _, rfl⟩ := List.mem_map.mp hy
    exact tup_of) (fun _ y hy => by
    obtain ⟨b, _, rfl⟩ := List.mem_map.mp hy
    exact st_int)
  rw [this]
  have a : (bs.map pv2).all p2 = true := by rw [List.all_map, List.all_eq_true]; intro b _; rfl
  have b : (bs.map pv2).all q2 = true := by
    rw [List.all_map, List.all_eq_true]
    intro b hb
    have := hB.ok b hb
    show (decide (0 ≤ b.1) && (decide (0 ≤ b.2) && decide (b.1 < b.2))) = true
    rw [decide_eq_true (show 0 ≤ b.1 by omega), decide_eq_true (show 0 ≤ b.2 by omega), decide_eq_true (show b.1 < b.2 by omega)]; rfl
  rw [a, b]; rfl
theorem are_lst {L : List PV} : sem DD (n + 1) 4 [.lst L] D = some (.bl false, D) := by
  rw [r_f_are_bookings]
  refine run_ex rfl ?_
  unfold c_f_are_bookings
  show ∃ ρ', exs _ _ [some (false, .lst L), none, none, none] _ = _
  refine ⟨[some (false, .lst L), none, none, none], ?_⟩
  simp [getS, pIs]
theorem are_non : sem DD (n + 1) 4 [.non] D = some (.bl false, D) := by
  rw [r_f_are_bookings]
  exact run_ex rfl ⟨_, rfl⟩
/-- bookings and one that is none -/
theorem are_bad {x : PV} (h1 : ∀ D, sem DD (n + 2) 2 [x, .int 2] D = some (.bl (p2 x), D)) (h2 : p2 x = true → ∀ L D, st1 (sem DD (n + 2)) [1, 2] fE (.tp [(.nm 1), (.nm 2)]) .nil [some (false, .tup L), none, none, none] x D = some ([.bl (q2 x)], D)) (hq : p2 x = false ∨ q2 x = false) : sem DD (n + 3) 4 [.tup (bs.map pv2 ++ [x])] D = some (.bl false, D) := by
  have := are_gen (n := n) (D := D) (bs.map pv2 ++ [x]) p2 q2 (fun y hy => by
    rcases List.mem_append.mp hy with hy | hy
    · obtain ⟨b, _, rfl⟩ := List.mem_map.mp hy
      exact tup_of
    · rw [List.mem_singleton.mp hy]; exact h1 D) (fun c y hy => by
    rcases List.mem_append.mp hy with hy | hy
    · obtain ⟨b, _, rfl⟩ := List.mem_map.mp hy
      exact st_int
    · rw [List.mem_singleton.mp hy]
      exact h2 (List.all_eq_true.mp c x (by simp)) _ D)
  rw [this]
  rcases hq with h | h
  · rw [List.all_append, List.all_cons, h]; simp
  · have : (bs.map pv2 ++ [x]).all q2 = false := by rw [List.all_append, List.all_cons, h]; simp
    rw [this, Bool.and_false]
def bads (bs : List B) : List PV := [.lst (bs.map pv2), .non, .tup (bs.map pv2 ++ [.tup [.int 1, .int 1]]), .tup (bs.map pv2 ++ [.tup [.int 2, .int 1]]), .tup (bs.map pv2 ++ [.tup [.int (-1), .int 1]]), .tup (bs.map pv2 ++ [.tup [.int 1]]), .tup (bs.map pv2 ++ [.tup [.bl true, .int 3]]), .tup (bs.map pv2 ++ [.tup [.int 0, .non]]), .tup (bs.map pv2 ++ [.int 3])]
theorem bad_all (bs : List B) (D : DS) : ∀ x ∈ bads bs, sem DD (n + 3) 4 [x] D = some (.bl false, D) := by
  have tup : ∀ L D, sem DD (n + 2) 2 [.tup L, .int 2] D = some (.bl (p2 (.tup L)), D) := fun L D => tup_of
  intro x hx
  unfold bads at hx
  simp only [List.mem_cons, List.not_mem_nil, or_false] at hx
  rcases hx with rfl | rfl | rfl | rfl | rfl | rfl | rfl | rfl | rfl
  · exact are_lst
  · exact are_non
  · exact are_bad (tup _) (fun _ L D => st_int) (.inr rfl)
  · exact are_bad (tup _) (fun _ L D => st_int) (.inr rfl)
  · exact are_bad (tup _) (fun _ L D => st_int) (.inr rfl)
  · exact are_bad (tup _) (fun h => by cases h) (.inl rfl)
  · refine are_bad (tup _) (fun _ L D => ?_) (.inr rfl)
    have f := is_from_bad (n := n) (D := D) (x := .bl true) nn_bl
    simp [st1, bindP, bindPs, wipE, getS, f, q2]
  · refine are_bad (tup _) (fun _ L D => ?_) (.inr rfl)
    have f := is_from_bad (n := n) (D := D) (x := .non) nn_non
    have h := is_from_int (n := n) (D := D) (i := 0)
    simp [st1, bindP, bindPs, wipE, getS, f, h, q2]
  · exact are_bad (fun D => tup_of_int) (fun h => by cases h) (.inl rfl)
/-- a value is like itself -/
theorem alk {m : Nat} {w : PV} {k : Nat} (h : ag k w = true) (hk : k < m) : sem DD m 22 [w, w] D = some (.bl true, D) :=
  alike_ok (Fs := sem DD) (g := 22) (fun n args D => r_f__law_alike n args D) k m w h hk
end
end MP.K02

namespace MP.K02
open PySem MP
abbrev P40 : Fns := sem DD 40
def b0 : CS := (.par (nms [4, 17, 18]) [true, false, false] (.cons (.lst .nil) (.cons (.call 20 (.cons (.var 1) (.cons (.int 4) .nil))) (.cons (.call 20 (.cons (.var 1) (.cons (.int 9) .nil))) .nil))))
def b1 : CS := (.for_ (.nm 3) (.rng1 (.call 20 (.cons (.var 1) (.cons (.int 6) .nil)))) (.cons (.asg false 19 (.call 20 (.cons (.var 1) (.cons (.int 8) .nil)))) (.cons (.app 4 (.tup (.cons (.var 19) (.cons (.bin .add (.bin .add (.var 19) (.int 1)) (.call 20 (.cons (.var 1) (.cons (.int 5) .nil)))) .nil)))) .nil)))
def b2 : CS := (.asg false 4 (.bi .tuple (.cons (.bor 4) .nil)))
def b3 : CS := (.asg false 5 (.lc1 [28] (.var 28) (.nm 28) (.over (.call 23 (.cons (.bi .len (.cons (.bor 4) .nil)) (.cons (.var 17) .nil)))) (.cons (.call 25 (.cons (.var 4) (.cons (.var 28) .nil))) .nil)))
def b4 : CS := (.asg false 6 (.call 28 (.cons (.var 4) (.cons (.var 17) .nil))))
def b5 : CS := (.ife (.or_ (.cons (.cmp .ne (.cmp .eq (.idx (.var 6) (.int 0)) (.str "yes")) (.cmp .ne (.var 5) (.lst .nil))) (.cons (.not_ (.call 22 (.cons (.tup (.cons (.call 6 (.cons (.var 4) (.cons (.var 17) .nil))) (.cons (.call 5 (.cons (.var 4) (.cons (.var 18) .nil))) (.cons (.call 9 (.cons (.var 4) .nil)) .nil)))) (.cons (.tup (.cons (.var 6) (.cons (.bi .tuple (.cons (.call 24 (.cons (.var 4) (.cons (.var 18) .nil))) .nil)) (.cons (.call 26 (.cons (.var 4) .nil)) .nil)))) .nil)))) .nil))) (.cons (.ret (.bl false)) .nil) .nil)
def b6 : CS := (.asg false 7 (.ite (.cmp .ne (.var 5) (.lst .nil)) (.idx (.var 5) (.neg (.int 1))) (.bin .mul (.tup (.cons (.int 0) .nil)) (.bi .len (.cons (.bor 4) .nil)))))
def b7 : CS := (.for_ (.nm 8) (.over (.tup (.cons (.var 7) (.cons (.ite (.cmp .ne (.var 5) (.lst .nil)) (.idx (.var 6) (.int 1)) .non) (.cons (.rev (.var 7)) (.cons (.cut (.var 7) (.cons (.int 1) .nil) .nil) (.cons (.bi .list (.cons (.var 7) .nil)) (.cons (.bin .add (.var 7) (.tup (.cons (.int 0) .nil))) (.cons (.bin .add (.tup (.cons (.bl true) .nil)) (.cut (.var 7) (.cons (.int 1) .nil) .nil)) (.cons (.bin .add (.tup (.cons (.str "0") .nil)) (.cut (.var 7) (.cons (.int 1) .nil) .nil)) (.cons (.bin .add (.tup (.cons (.var 17) .nil)) (.cut (.var 7) (.cons (.int 1) .nil) .nil)) (.cons (.bin .add (.tup (.cons (.neg (.int 1)) .nil)) (.cut (.var 7) (.cons (.int 1) .nil) .nil)) .nil)))))))))))) (.cons (.asg false 20 (.and_ (.cons (.isi .ttup (.var 8)) (.cons (.cmp .eq (.lc1 [29] (.var 29) (.nm 29) (.over (.var 8)) (.cons (.or_ (.cons (.not_ (.isi .tint (.var 29))) (.cons (.isi .tbool (.var 29)) .nil))) .nil)) (.lst .nil)) (.cons (.cmp .in_ (.var 8) (.var 5)) .nil))))) (.frz [4] (.cons (.ife (.not_ (.call 22 (.cons (.call 7 (.cons (.var 4) (.cons (.var 17) (.cons (.var 8) .nil)))) (.cons (.var 20) .nil)))) (.cons (.ret (.bl false)) .nil) .nil) .nil))))
def b8 : CS := (.asg false 9 (.bi .dict (.cons (.lc1 [3] (.tup (.cons (.var 3) (.cons (.call 20 (.cons (.var 1) (.cons (.bi .max (.cons (.int 1) (.cons (.var 17) .nil))) .nil))) .nil))) (.nm 3) (.rng1 (.bi .len (.cons (.bor 4) .nil))) (.cons (.and_ (.cons (.cmp .gt (.var 17) (.int 0)) (.cons (.cmp .eq (.call 20 (.cons (.var 1) (.cons (.int 3) .nil))) (.int 0)) .nil))) .nil)) .nil)))
def b9 : CS := (.asg false 10 (.lc1 [28] (.var 28) (.nm 28) (.over (.var 5)) (.cons (.cmp .eq (.lc1 [3] (.var 3) (.nm 3) (.keys 9) (.cons (.cmp .ne (.idx (.var 28) (.var 3)) (.idx (.var 9) (.var 3))) .nil)) (.lst .nil)) .nil)))
def b10 : CS := (.ife (.not_ (.call 22 (.cons (.call 10 (.cons (.var 4) (.cons (.var 17) (.cons (.bi .dict (.cons (.var 9) .nil)) .nil)))) (.cons (.ite (.cmp .ne (.var 10) (.lst .nil)) (.idx (.var 10) (.int 0)) .non) .nil)))) (.cons (.ret (.bl false)) .nil) .nil)
def b11 : CS := (.asg false 11 (.lc1 [14] (.var 14) (.nm 14) (.over (.call 27 (.cons (.bi .len (.cons (.bor 4) .nil)) .nil))) (.cons (.cmp .le (.call 26 (.cons (.lc1 [3] (.idx (.bor 4) (.var 3)) (.nm 3) (.over (.var 14)) .nil) .nil)) (.var 17)) .nil)))
def b12 : CS := (.par (nms [21, 22]) [false, false] (.cons (.bi .min (.cons (.lc1 [14] (.tup (.cons (.bin .sub (.int 0) (.bi .len (.cons (.var 14) .nil))) (.cons (.var 14) .nil))) (.nm 14) (.over (.var 11)) .nil) .nil)) (.cons (.bi .min (.cons (.lc1 [14] (.tup (.cons (.bin .sub (.int 0) (.bi .sum (.cons (.lc1 [3] (.bin .sub (.idx (.idx (.bor 4) (.var 3)) (.int 1)) (.idx (.idx (.bor 4) (.var 3)) (.int 0))) (.nm 3) (.over (.var 14)) .nil) .nil))) (.cons (.var 14) .nil))) (.nm 14) (.over (.var 11)) .nil) .nil)) .nil)))
def b13 : CS := (.ife (.not_ (.call 22 (.cons (.tup (.cons (.call 12 (.cons (.var 4) (.cons (.var 17) .nil))) (.cons (.call 14 (.cons (.var 4) (.cons (.var 17) .nil))) .nil))) (.cons (.tup (.cons (.tup (.cons (.bin .sub (.int 0) (.idx (.var 21) (.int 0))) (.cons (.idx (.var 21) (.int 1)) .nil))) (.cons (.tup (.cons (.bin .sub (.int 0) (.idx (.var 22) (.int 0))) (.cons (.idx (.var 22) (.int 1)) .nil))) .nil))) .nil)))) (.cons (.ret (.bl false)) .nil) .nil)
def b14 : CS := (.asg false 12 (.lst .nil))
def b15 : CS := (.for_ (.nm 13) (.over (.bi .sorted (.cons (.lc1 [3] (.tup (.cons (.idx (.idx (.bor 4) (.var 3)) (.int 1)) (.cons (.var 3) .nil))) (.nm 3) (.rng1 (.bi .len (.cons (.bor 4) .nil))) .nil) .nil))) (.cons (.asg false 12 (.bin .add (.var 12) (.ite (.cmp .le (.call 26 (.cons (.lc1 [3] (.idx (.bor 4) (.var 3)) (.nm 3) (.over (.bin .add (.var 12) (.lst (.cons (.idx (.var 13) (.int 1)) .nil)))) .nil) .nil)) (.var 17)) (.lst (.cons (.idx (.var 13) (.int 1)) .nil)) (.lst .nil)))) .nil))
def b16 : CS := (.ife (.or_ (.cons (.cmp .ne (.bi .len (.cons (.var 12) .nil)) (.bin .sub (.int 0) (.idx (.var 21) (.int 0)))) (.cons (.not_ (.call 22 (.cons (.call 13 (.cons (.var 4) (.cons (.var 17) .nil))) (.cons (.bi .tuple (.cons (.bi .sorted (.cons (.var 12) .nil)) .nil)) .nil)))) .nil))) (.cons (.ret (.bl false)) .nil) .nil)
def b17 : CS := (.par (nms [23, 24, 25]) [false, false, false] (.cons (.bin .add (.var 18) (.call 20 (.cons (.var 1) (.cons (.int 6) .nil)))) (.cons (.lst .nil) (.cons (.bin .add (.int 1) (.call 20 (.cons (.var 1) (.cons (.int 4) .nil)))) .nil))))
def b18 : CS := (.for_ (.nm 14) (.over (.lc1 [29] (.var 29) (.nm 29) (.rng2 (.var 18) (.bin .add (.var 23) (.int 1))) (.cons (.cmp .lt (.bi .len (.cons (.call 24 (.cons (.var 4) (.cons (.var 29) .nil))) .nil)) (.var 17)) .nil))) (.cons (.asg false 24 (.ite (.and_ (.cons (.cmp .ne (.var 24) (.lst .nil)) (.cons (.cmp .eq (.idx (.idx (.var 24) (.neg (.int 1))) (.int 1)) (.var 14)) .nil))) (.bin .add (.cut (.var 24) .nil (.cons (.neg (.int 1)) .nil)) (.lst (.cons (.tup (.cons (.idx (.idx (.var 24) (.neg (.int 1))) (.int 0)) (.cons (.bin .add (.var 14) (.int 1)) .nil))) .nil))) (.bin .add (.var 24) (.lst (.cons (.tup (.cons (.var 14) (.cons (.bin .add (.var 14) (.int 1)) .nil))) .nil))))) .nil))
def b19 : CS := (.asg false 15 (.lc1 [14] (.var 14) (.nm 14) (.rng2 (.var 18) (.int 30)) (.cons (.and_ (.cons (.cmp .gt (.var 17) (.int 0)) (.cons (.cmp .eq (.lc1 [29] (.var 29) (.nm 29) (.rng2 (.var 14) (.bin .add (.var 14) (.var 25))) (.cons (.cmp .ge (.bi .len (.cons (.call 24 (.cons (.var 4) (.cons (.var 29) .nil))) .nil)) (.var 17)) .nil)) (.lst .nil)) .nil))) .nil)))
def b20 : CS := (.ife (.not_ (.call 22 (.cons (.tup (.cons (.call 15 (.cons (.var 4) (.cons (.var 17) (.cons (.var 18) (.cons (.var 23) .nil))))) (.cons (.call 16 (.cons (.var 4) (.cons (.var 17) (.cons (.var 18) (.cons (.var 25) .nil))))) .nil))) (.cons (.tup (.cons (.bi .tuple (.cons (.var 24) .nil)) (.cons (.ite (.cmp .gt (.var 17) (.int 0)) (.idx (.var 15) (.int 0)) .non) .nil))) .nil)))) (.cons (.ret (.bl false)) .nil) .nil)
def b21 : CS := (.ife (.cmp .ne (.var 5) (.lst .nil)) (.cons (.asg false 26 (.tup (.cons (.var 18) (.cons (.bin .add (.var 18) (.var 25)) .nil)))) (.cons (.asg false 27 (.lc1 [28] (.tup (.cons (.bi .len (.cons (.lc1 [3] (.var 3) (.nm 3) (.rng1 (.bi .len (.cons (.var 7) .nil))) (.cons (.cmp .ne (.idx (.var 28) (.var 3)) (.idx (.var 7) (.var 3))) .nil)) .nil)) (.cons (.var 28) .nil))) (.nm 28) (.over (.call 23 (.cons (.bin .add (.bi .len (.cons (.bor 4) .nil)) (.int 1)) (.cons (.var 17) .nil)))) (.cons (.call 25 (.cons (.bin .add (.bor 4) (.tup (.cons (.var 26) .nil))) (.cons (.var 28) .nil))) .nil))) (.frz [4] (.cons (.ife (.not_ (.call 22 (.cons (.call 17 (.cons (.var 4) (.cons (.var 7) (.cons (.var 17) (.cons (.var 26) .nil))))) (.cons (.ite (.cmp .ne (.var 27) (.lst .nil)) (.bi .min (.cons (.var 27) .nil)) .non) .nil)))) (.cons (.ret (.bl false)) .nil) .nil) (.cons (.ife (.cmp .ne (.bor 4) (.tup .nil)) (.cons (.par (nms [3, 22]) [false, false] (.cons (.call 20 (.cons (.var 1) (.cons (.bi .len (.cons (.bor 4) .nil)) .nil))) (.cons (.call 20 (.cons (.var 1) (.cons (.int 5) .nil))) .nil))) (.frz [4] (.cons (.ife (.not_ (.call 22 (.cons (.call 18 (.cons (.var 4) (.cons (.var 7) (.cons (.var 3) (.cons (.var 22) .nil))))) (.cons (.call 29 (.cons (.var 4) (.cons (.var 7) (.cons (.var 3) (.cons (.var 22) .nil))))) .nil)))) (.cons (.ret (.bl false)) .nil) .nil) .nil))) .nil) .nil))))) .nil)
def b22 : CS := (.ife (.and_ (.cons (.cmp .gt (.bi .len (.cons (.bor 4) .nil)) (.int 1)) (.cons (.not_ (.call 22 (.cons (.call 8 (.cons (.idx (.bor 4) (.int 0)) (.cons (.idx (.bor 4) (.int 1)) .nil))) (.cons (.cmp .ne (.lc1 [14] (.var 14) (.nm 14) (.rng1 (.int 16)) (.cons (.and_ (.cons (.cmp .in_ (.int 0) (.call 24 (.cons (.var 4) (.cons (.var 14) .nil)))) (.cons (.cmp .in_ (.int 1) (.call 24 (.cons (.var 4) (.cons (.var 14) .nil)))) .nil))) .nil)) (.lst .nil)) .nil)))) .nil))) (.cons (.ret (.bl false)) .nil) .nil)
def b23 : CS := (.for_ (.nm 16) (.over (.tup (.cons (.bi .list (.cons (.bor 4) .nil)) (.cons .non (.cons (.bin .add (.bor 4) (.tup (.cons (.tup (.cons (.int 1) (.cons (.int 1) .nil))) .nil))) (.cons (.bin .add (.bor 4) (.tup (.cons (.tup (.cons (.int 2) (.cons (.int 1) .nil))) .nil))) (.cons (.bin .add (.bor 4) (.tup (.cons (.tup (.cons (.neg (.int 1)) (.cons (.int 1) .nil))) .nil))) (.cons (.bin .add (.bor 4) (.tup (.cons (.tup (.cons (.int 1) .nil)) .nil))) (.cons (.bin .add (.bor 4) (.tup (.cons (.tup (.cons (.bl true) (.cons (.int 3) .nil))) .nil))) (.cons (.bin .add (.bor 4) (.tup (.cons (.tup (.cons (.int 0) (.cons .non .nil))) .nil))) (.cons (.bin .add (.bor 4) (.tup (.cons (.int 3) .nil))) .nil))))))))))) (.cons (.ife (.not_ (.call 22 (.cons (.call 4 (.cons (.var 16) .nil)) (.cons (.bl false) .nil)))) (.cons (.ret (.bl false)) .nil) .nil) .nil))
def b24 : CS := (.ife (.not_ (.call 22 (.cons (.call 4 (.cons (.var 4) .nil)) (.cons (.bl true) .nil)))) (.cons (.ret (.bl false)) .nil) .nil)
def bod : CSs := (.cons b0 (.cons b1 (.cons b2 (.frz [4] (.cons b3 (.frz [4] (.cons b4 (.frz [4] (.cons b5 (.cons b6 (.cons b7 (.cons b8 (.cons b9 (.frz [4] (.cons b10 (.cons b11 (.cons b12 (.frz [4] (.cons b13 (.cons b14 (.cons b15 (.frz [4] (.cons b16 (.cons b17 (.frz [4] (.cons b18 (.frz [4] (.cons b19 (.frz [4] (.cons b20 (.cons b21 (.frz [4] (.cons b22 (.cons b23 (.frz [4] (.cons b24 .nil))))))))))))))))))))))))))))))))))))
theorem law_eq : c_f_law = .cons (.asgS 1 (.dsp 0 (.cons (.str "draws") (.call 19 (.cons (.var 0) (.cons (.int 400) .nil))) (.cons (.str "at") (.int 0) .nil)))) (.cons (.for_ (.nm 2) (.rng1 (.int 6)) bod) (.cons (.ret (.bl true)) .nil)) := rfl
section
variable {ρ : Envi} {D : DS} {bs : List B} {T day : Int}
theorem next40 {m : Int} (h : Wst D) (hm : 0 < m) : ∃ r D', sem DD 40 20 [.shr 0, .int m] D = some (.int r, D') ∧ 0 ≤ r ∧ r < m ∧ Wst D' := by
  rw [r_f__law_next]
  exact next_ok h hm
/-- the slots that are kept -/
structure G (ρ : Envi) (bs : List B) (T day : Int) : Prop where
  len : ρ.length = 30
  s1 : getS ρ 1 = some (.shr 0)
  s4 : getS ρ 4 = some (EB bs)
  s17 : getS ρ 17 = some (.int T)
  s18 : getS ρ 18 = some (.int day)
theorem G.b4 (h : G ρ bs T day) : borS ρ 4 = some (EB bs) := bor_of h.s4
theorem G.kp {L : List Nat} {ρ' : Envi} (hg : G ρ bs T day) (h : Kp L ρ ρ') (hL : 1 ∉ L ∧ 4 ∉ L ∧ 17 ∉ L ∧ 18 ∉ L := by decide) : G ρ' bs T day :=
  ⟨by rw [h.1, hg.len], h.get hg.s1 hL.1, h.get hg.s4 hL.2.1, h.get hg.s17 hL.2.2.1, h.get hg.s18 hL.2.2.2⟩
theorem G.set (h : G ρ bs T day) {i : Nat} {x : PV} (hi : i ≠ 1 ∧ i ≠ 4 ∧ i ≠ 17 ∧ i ≠ 18 := by decide) : G (ρ.set i (some (false, x))) bs T day :=
  ⟨by rw [List.length_set, h.len], by rw [getS_set, if_neg hi.1]; exact h.s1, by rw [getS_set, if_neg hi.2.1]; exact h.s4, by rw [getS_set, if_neg hi.2.2.1]; exact h.s17, by rw [getS_set, if_neg hi.2.2.2]; exact h.s18⟩
/-- bookings, tools, a day are drawn -/
theorem x0 (hl : ρ.length = 30) (h1 : getS ρ 1 = some (.shr 0)) (hw : Wst D) : ∃ T day ρ' D', ex P40 b0 ρ D = some (.nx, ρ', D') ∧ Wst D' ∧ ρ'.length = 30 ∧ getS ρ' 1 = some (.shr 0) ∧ getS ρ' 17 = some (.int T) ∧ getS ρ' 18 = some (.int day) ∧ ρ'[4]? = some (some (true, .lst ([].map pv2))) ∧ 0 ≤ T ∧ T ≤ 3 ∧ 0 ≤ day ∧ day ≤ 8 := by
  obtain ⟨p, Dp, ep, p0, p1, wp⟩ := next40 (m := 4) hw (by decide)
  obtain ⟨q, Dq, eq, q0, q1, wq⟩ := next40 (m := 9) wp (by decide)
  refine ⟨p, q, ((ρ.set 4 (some (true, .lst []))).set 17 (some (false, .int p))).set 18 (some (false, .int q)), Dq, ?_, wq, by simp [hl], by simp [h1], by simp [hl], by simp [hl], by simp [hl], p0, by omega, q0, by omega⟩
  simp [b0, h1, ep, eq, nms, storeT]
theorem x1 (hl : ρ.length = 30) (h1 : getS ρ 1 = some (.shr 0)) (h17 : getS ρ 17 = some (.int T)) (h18 : getS ρ 18 = some (.int day)) (h4 : ρ[4]? = some (some (true, .lst ([].map pv2)))) (hw : Wst D) : ∃ (bs : List B) (ρ' : Envi) (D' : DS), ex P40 b1 ρ D = some (.nx, ρ', D') ∧ Wst D' ∧ ρ'.length = 30 ∧ getS ρ' 1 = some (.shr 0) ∧ getS ρ' 17 = some (.int T) ∧ getS ρ' 18 = some (.int day) ∧ ρ'[4]? = some (some (true, .lst (bs.map pv2))) ∧ bs.length ≤ 5 ∧ ∀ b ∈ bs, 0 ≤ b.1 ∧ b.1 < b.2 ∧ b.2 ≤ 12 := by
  obtain ⟨r, D1, e1, r0, r1, w1⟩ := next40 (m := 6) hw (by decide)
  have hi : evi P40 (.rng1 (.call 20 (.cons (.var 1) (.cons (.int 6) .nil)))) ρ D = some ((rg 0 r).map .int, D1) := evi_r1 (by simp [h1, e1]) (by omega) (by omega)
  obtain ⟨ρ', D', e2, bs, q1, q2, q3, q4, q5, q6, q7, q8⟩ := for_inv (f := fun x ρ D => (bindP (.nm 3) x ρ).bind fun ρ1 => exs P40 (.cons (.asg false 19 (.call 20 (.cons (.var 1) (.cons (.int 8) .nil)))) (.cons (.app 4 (.tup (.cons (.var 19) (.cons (.bin .add (.bin .add (.var 19) (.int 1)) (.call 20 (.cons (.var 1) (.cons (.int 5) .nil)))) .nil)))) .nil)) ρ1 D) (xs := (rg 0 r).map .int)
    (I := fun i ρ D => ∃ (bs : List B), Wst D ∧ ρ.length = 30 ∧ getS ρ 1 = some (.shr 0) ∧ getS ρ 17 = some (.int T) ∧ getS ρ 18 = some (.int day) ∧ ρ[4]? = some (some (true, .lst (bs.map pv2))) ∧ bs.length = i ∧ ∀ b ∈ bs, 0 ≤ b.1 ∧ b.1 < b.2 ∧ b.2 ≤ 12)
    (h0 := ⟨[], w1, hl, h1, h17, h18, h4, rfl, by simp⟩) (fun i x ρ D hx ⟨bs, w, l, g1, g17, g18, g4, ul, uo⟩ => by
      have hi5 : i < 5 := by
        have := (List.getElem?_eq_some_iff.mp hx).1
        rw [List.length_map, rg_len] at this
        omega
      obtain ⟨p, Dp, ep, p0, p1, wp⟩ := next40 (m := 8) w (by decide)
      obtain ⟨q, Dq, eq, q0, q1, wq⟩ := next40 (m := 5) wp (by decide)
      have ap' : pApp (.tup [.int p, .int (p + 1 + q)]) (.lst (bs.map pv2)) = some (.lst ((bs ++ [(p, p + 1 + q)]).map pv2)) := by
        rw [List.map_append]; exact app_ok (by simp; show _ < 1000000; omega)
      refine ⟨.nx, ((ρ.set 3 (some (false, x))).set 19 (some (false, .int p))).set 4 (some (true, .lst ((bs ++ [(p, p + 1 + q)]).map pv2))), Dq, ?_, .inl rfl, bs ++ [(p, p + 1 + q)], wq, by simp [l], by simp [g1], by simp [g17], by simp [g18], by simp [l], by simp [ul], ?_⟩
      · have c : chgO (pApp (.tup [.int p, .int (p + 1 + q)])) 4 ((ρ.set 3 (some (false, x))).set 19 (some (false, .int p))) Dq = some (((ρ.set 3 (some (false, x))).set 19 (some (false, .int p))).set 4 (some (true, .lst ((bs ++ [(p, p + 1 + q)]).map pv2))), Dq) := by
          rw [chgO_of (x := .lst (bs.map pv2)) (by simp [g4]), ap']; rfl
        simp [bindP, g1, ep, eq, l, c]
      · intro u hu
        rcases List.mem_append.mp hu with hu | hu
        · exact uo u hu
        · rw [List.mem_singleton] at hu
          subst hu
          simp only; omega)
  have hlen : ((rg 0 r).map PV.int).length ≤ 5 := by rw [List.length_map, rg_len]; omega
  refine ⟨bs, ρ', D', ?_, q1, q2, q3, q4, q5, q6, by omega, q8⟩
  unfold b1
  rw [ex_for, hi, Option.bind_some, e2]
theorem x2 (hl : ρ.length = 30) (h1 : getS ρ 1 = some (.shr 0)) (h17 : getS ρ 17 = some (.int T)) (h18 : getS ρ 18 = some (.int day)) (h4 : ρ[4]? = some (some (true, .lst (bs.map pv2)))) : ex P40 b2 ρ D = some (.nx, ρ.set 4 (some (false, EB bs)), D) ∧ G (ρ.set 4 (some (false, EB bs))) bs T day := by
  refine ⟨ex_as (ev_b1 (ev_br (bor_own h4)) rfl rfl), ⟨by simp [hl], by simp [h1], by simp [hl], by simp [h17], by simp [h18]⟩⟩
/-- the law's rows -/
theorem ev_len4 (h : G ρ bs T day) : ev P40 (.bi .len (.cons (.bor 4) .nil)) ρ D = some (.int bs.length, D) := by
  have := ev_b1 (Φ := P40) (D := D) (f := .len) (ev_br h.b4) rfl rfl
  rw [this, List.length_map]
theorem x3 (h : G ρ bs T day) (hB : Bs bs) (hT0 : 0 ≤ T) (hT : T ≤ 3) : ex P40 b3 ρ D = some (.nx, ρ.set 5 (some (false, .lst ((rows bs T).map ET))), D) := by
  have lr := law_rows_ok (n := 39) (D := D) (m := bs.length) hB.len hT hT0
  have q := lcP (Φ := P40) (D := D) (ρ := ρ) (own := [28]) (ce := .var 28) (pt := .nm 28) (ci := .over (.call 23 (.cons (.bi .len (.cons (.bor 4) .nil)) (.cons (.var 17) .nil)))) (ct := .cons (.call 25 (.cons (.var 4) (.cons (.var 28) .nil))) .nil) ET (rws bs.length T) (lgd bs) ET (evi_ov (ev_c2 (ev_len4 h) (ev_vr h.s17) lr)) fun r hr => by
    have lg := law_good_ok (n := 38) (D := D) (bs := bs) (r := r) hB.len (mem_rws.mp hr).1
    cases e : lgd bs r <;> simp [st1, bindP, wipE, h.s4, h.len, lg, e]
  exact ex_as q
theorem x4 (h : G ρ bs T day) (hB : Bs bs) (hT0 : 0 ≤ T) (hT : T ≤ 3) : ex P40 b4 ρ D = some (.nx, ρ.set 6 (some (false, hans bs T)), D) :=
  ex_as (ev_c2 (ev_vr h.s4) (ev_vr h.s17) (law_handed_ok (n := 38) (D := D) hB hT0 hT))
theorem str_ok : PySem.PyData.strOk "no" = true ∧ PySem.PyData.strOk "yes" = true := by decide +kernel
theorem hans_ag : bs.length ≤ 6 → ag 2 (hans bs T) = true := fun hl => by
  unfold hans
  cases (bar bs T).head? with
  | none =>
    show (decide _ && (PySem.PyData.strOk "yes" && (ag 1 (ET (hrow bs T)) && true))) = true
    have : (hrow bs T).length ≤ 100000 := by unfold hrow; rw [List.length_map, rg_len]; omega
    rw [str_ok.2, ag_ints this]; rfl
  | some d =>
    show (decide _ && (PySem.PyData.strOk "no" && (true && (ag 1 (ET (th bs d)) && true)))) = true
    have : (th bs d).length ≤ 100000 := by have := th_len (bs := bs) (d := d); omega
    rw [str_ok.1, ag_ints this]; rfl
theorem ev_t2' {Φ : Fns} {a b : CE} {x y : PV} (h : ev Φ a ρ D = some (x, D)) (h2 : ev Φ b ρ D = some (y, D)) : ev Φ (.tup (.cons a (.cons b .nil))) ρ D = some (.tup [x, y], D) := ev_t2 h h2
theorem pNe_rows {L : List (List Int)} : pCmp .ne (.lst (L.map ET)) (.lst []) = some (!decide (L = [])) := by
  show (pEq _ _).map _ = _
  rw [pEq_rows]; rfl
/-- are there rows -/
theorem ev_ner {i : Nat} {L : List (List Int)} (h : getS ρ i = some (.lst (L.map ET))) : ev P40 (.cmp .ne (.var i) (.lst .nil)) ρ D = some (.bl (!decide (L = [])), D) := ev_cm (ev_vr h) rfl rfl pNe_rows
theorem x5 (h : G ρ bs T day) (hB : Bs bs) (hT0 : 0 ≤ T) (hT : T ≤ 3) (h5 : getS ρ 5 = some (.lst ((rows bs T).map ET))) (h6 : getS ρ 6 = some (hans bs T)) : ex P40 b5 ρ D = some (.nx, ρ, D) := by
  have oh : opd D (hans bs T) = some (hans bs T) := by
    unfold hans
    cases (bar bs T).head? <;> rfl
  have i6 : ∃ s, ev P40 (.idx (.var 6) (.int 0)) ρ D = some (.str s, D) ∧ pCmp .eq (.str s) (.str "yes") = some (!decide (rows bs T = [])) := by
    have yi := yes_iff hB hT0
    cases e : bar bs T with
    | nil =>
      have : rows bs T ≠ [] := yi.mp e
      refine ⟨"yes", ev_ix (ev_vr h6) rfl oh ?_, ?_⟩
      · unfold hans; rw [e]; rfl
      · rw [decide_eq_false this]; exact yy
    | cons x t =>
      have : rows bs T = [] := Classical.byContradiction fun c => by have := yi.mpr c; rw [e] at this; cases this
      refine ⟨"no", ev_ix (ev_vr h6) rfl oh ?_, ?_⟩
      · unfold hans; rw [e]; rfl
      · rw [decide_eq_true this]; exact ny
  obtain ⟨s, s1, s2⟩ := i6
  have c1 : ev P40 (.cmp .ne (.cmp .eq (.idx (.var 6) (.int 0)) (.str "yes")) (.cmp .ne (.var 5) (.lst .nil))) ρ D = some (.bl false, D) := by
    refine ev_cm (ev_cm s1 rfl rfl s2) (ev_ner h5) rfl ?_
    simp [pCmp, pEq_bl]
  have v : ag 3 (.tup [hans bs T, ET (th bs day), .int (mst bs)]) = true := by
    show (decide _ && (ag 2 (hans bs T) && (ag 2 (ET (th bs day)) && (true && true)))) = true
    have : (th bs day).length ≤ 100000 := by have := th_len (bs := bs) (d := day); have := hB.len; omega
    rw [hans_ag hB.len, ag_ints this]; rfl
  have c2 := chkE (Φ := P40) (ρ := ρ) (D := D) (c := 22) (alk (m := 40) v (by decide))
    (a := .tup (.cons (.call 6 (.cons (.var 4) (.cons (.var 17) .nil))) (.cons (.call 5 (.cons (.var 4) (.cons (.var 18) .nil))) (.cons (.call 9 (.cons (.var 4) .nil)) .nil))))
    (b := .tup (.cons (.var 6) (.cons (.bi .tuple (.cons (.call 24 (.cons (.var 4) (.cons (.var 18) .nil))) .nil)) (.cons (.call 26 (.cons (.var 4) .nil)) .nil))))
    (ev_t3 (ev_c2 (ev_vr h.s4) (ev_vr h.s17) (handed_ok (n := 38) hB hT0 hT)) (ev_c2 (ev_vr h.s4) (ev_vr h.s18) (there_on_ok (n := 39) hB.len)) (ev_c1 (ev_vr h.s4) (fewest_ok (n := 38) hB.len hB.ok)))
    (ev_t3 (ev_vr h6) (ev_b1 (ev_c2 (ev_vr h.s4) (ev_vr h.s18) (law_there_ok (n := 39) (.inl rfl) hB.len)) rfl rfl) (ev_c1 (ev_vr h.s4) (law_most_ok (n := 38) (.inl rfl) hB.len)))
  exact ex_no (ev_o2 c1 c2)
/-! ### the rows that are right -/
def base (bs : List B) (T : Int) : List Int := match (rows bs T).getLast? with
  | some r => r
  | none => List.replicate bs.length 0
theorem base_len : (base bs T).length = bs.length := by
  unfold base
  cases e : (rows bs T).getLast? with
  | none => simp
  | some r =>
    have := List.mem_of_getLast? e
    exact (mem_rws.mp (List.mem_filter.mp this).1).1
theorem x6 (h : G ρ bs T day) (hB : Bs bs) (hT0 : 0 ≤ T) (h5 : getS ρ 5 = some (.lst ((rows bs T).map ET))) : ex P40 b6 ρ D = some (.nx, ρ.set 7 (some (false, ET (base bs T))), D) := by
  refine ex_as (ev_it (ev_ner h5) ?_)
  unfold base
  cases e : (rows bs T).getLast? with
  | some r =>
    have : rows bs T ≠ [] := fun z => by rw [z] at e; cases e
    rw [decide_eq_false this]
    show ev P40 (.idx (.var 5) (.neg (.int 1))) ρ D = _
    exact ev_ix (ev_vr h5) rfl rfl (ix_last ET e)
  | none =>
    have hr : rows bs T = [] := List.getLast?_eq_none_iff.mp e
    rw [decide_eq_true hr]
    show ev P40 (.bin .mul (.tup (.cons (.int 0) .nil)) (.bi .len (.cons (.bor 4) .nil))) ρ D = _
    have hn : bs.length ≠ 0 := fun z => by
      have hb : bar bs T = [] := by
        unfold bar
        refine List.filter_eq_nil_iff.mpr fun d _ => ?_
        have : th bs d = [] := List.eq_nil_of_length_eq_zero (by have := th_len (bs := bs) (d := d); omega)
        unfold cnt
        rw [this]
        simp; omega
      exact (yes_iff hB hT0).mp hb hr
    have hl := hB.len
    refine ev_bn rfl (ev_len4 h) ?_
    show (if [PV.int 0].length ≠ 0 ∧ 1 ≤ (bs.length : Int) ∧ (bs.length : Int) ≤ 1000 ∧ [PV.int 0].length ≤ 1000 then some (PV.tup (List.replicate ((bs.length : Int)).toNat [PV.int 0]).flatten) else none) = _
    rw [if_pos ⟨by simp, by omega, by omega, by simp⟩, Int.toNat_natCast]
    congr 2
    simp
end
section
variable {ρ : Envi} {D : DS} {bs : List B} {T day : Int}
theorem peqs_rows {r s : List Int} : peq (ET r) (ET s) = decide (r = s) := by
  rw [Bool.eq_iff_iff, decide_eq_true_iff]
  rw [peq_gd (ET r) (ET s) (gdL_ints r) (gdL_ints s)]
  constructor
  · exact fun e => ints_inj (by injection e)
  · rintro rfl; rfl
theorem pIn_rows {L : List (List Int)} {r : List Int} : pIn (ET r) (.lst (L.map ET)) = some (decide (r ∈ L)) := by
  show (if (shp DEP (ET r) && (L.map ET).all (shp DEP)) = true then some ((L.map ET).any fun y => peq y (ET r)) else none) = _
  have : (L.map ET).all (shp DEP) = true := by rw [List.all_map, List.all_eq_true]; exact fun r _ => shp_ET
  rw [this, shp_ET, if_pos (show (true && true) = true from rfl)]
  congr 1
  rw [List.any_map, Bool.eq_iff_iff, List.any_eq_true, decide_eq_true_iff]
  constructor
  · rintro ⟨s, hs, e⟩
    have e : peq (ET s) (ET r) = true := e
    rw [peqs_rows, decide_eq_true_iff] at e
    rw [← e]; exact hs
  · intro hr
    refine ⟨r, hr, ?_⟩
    show peq (ET r) (ET r) = true
    rw [peqs_rows]; simp
abbrev eR : CE := .and_ (.cons (.isi .ttup (.var 8)) (.cons (.cmp .eq (.lc1 [29] (.var 29) (.nm 29) (.over (.var 8)) (.cons (.or_ (.cons (.not_ (.isi .tint (.var 29))) (.cons (.isi .tbool (.var 29)) .nil))) .nil)) (.lst .nil)) (.cons (.cmp .in_ (.var 8) (.var 5)) .nil)))
/-- what the thing is: right or not, and the program says the same -/
def Th (bs : List B) (T : Int) (x : PV) : Prop := ∀ ρ D, ρ.length = 30 → getS ρ 8 = some x → getS ρ 5 = some (.lst ((rows bs T).map ET)) → ∃ b, ev P40 eR ρ D = some (.bl b, D) ∧ sem DD 40 7 [EB bs, .int T, x] D = some (.bl b, D)
theorem th_lst {L : List PV} : Th bs T (.lst L) := fun ρ D hl h8 h5 => by
  refine ⟨false, ?_, hd_lst (n := 39)⟩
  have i : ev P40 (.isi .ttup (.var 8)) ρ D = some (.bl false, D) := by simp [h8, pIs]
  rw [ev_and, evand_cons, i]; rfl
theorem th_non : Th bs T .non := fun ρ D hl h8 h5 => by
  refine ⟨false, ?_, hd_non (n := 39)⟩
  have i : ev P40 (.isi .ttup (.var 8)) ρ D = some (.bl false, D) := by simp [h8, pIs]
  rw [ev_and, evand_cons, i]; rfl
theorem th_int {r : List Int} (hB : Bs bs) (hr : r.length ≤ 1000) : Th bs T (ET r) := fun ρ D hl h8 h5 => by
  refine ⟨hdd bs T r, ?_, hd_int (n := 37) hB.len hr⟩
  have i : ev P40 (.isi .ttup (.var 8)) ρ D = some (.bl true, D) := by simp [h8, pIs]
  have q := lcP (Φ := P40) (D := D) (ρ := ρ) (own := [29]) (ce := .var 29) (pt := .nm 29) (ci := .over (.var 8)) (ct := .cons (.or_ (.cons (.not_ (.isi .tint (.var 29))) (.cons (.isi .tbool (.var 29)) .nil))) .nil) PV.int r (fun _ => false) PV.int (evi_ovT (ev_vr h8)) fun k _ => by
    simp [st1, bindP, wipE, hl, pIs]
  rw [filt_none fun _ _ => rfl] at q
  have n0 : pEq (.lst []) (.lst []) = some true := rfl
  have c : ev P40 (.cmp .eq (.lc1 [29] (.var 29) (.nm 29) (.over (.var 8)) (.cons (.or_ (.cons (.not_ (.isi .tint (.var 29))) (.cons (.isi .tbool (.var 29)) .nil))) .nil)) (.lst .nil)) ρ D = some (.bl true, D) := ev_cm q rfl rfl n0
  have m : ev P40 (.cmp .in_ (.var 8) (.var 5)) ρ D = some (.bl (hdd bs T r), D) := by
    refine ev_cm (ev_vr h8) (ev_vr h5) rfl ?_
    show pIn (ET r) (.lst ((rows bs T).map ET)) = some (hdd bs T r)
    rw [pIn_rows]
    congr 1
    rw [Bool.eq_iff_iff, decide_eq_true_iff]
    exact mem_rows hB
  rw [ev_and, evand_cons, i, Option.bind_some, blOf_bl, Option.bind_some, if_pos rfl, evand_cons, c, Option.bind_some, blOf_bl, Option.bind_some, if_pos rfl, evand_one, m]
def oddF : PV → List PV
  | .int _ => []
  | y => [y]
theorem oddF_ints : ∀ r : List Int, (r.map PV.int).flatMap oddF = []
  | [] => rfl
  | a :: t => by rw [List.map_cons, List.flatMap_cons, oddF_ints t]; rfl
theorem th_odd {x : PV} {r : List Int} (hr : r.length ≤ 1000) (hx : ∀ n D, sem DD (n + 1) 0 [x] D = some (.bl false, D)) (hs : ∀ ρ : Envi, ∀ D, ρ.length = 30 → st1 P40 [29] (.var 29) (.nm 29) (.cons (.or_ (.cons (.not_ (.isi .tint (.var 29))) (.cons (.isi .tbool (.var 29)) .nil))) .nil) ρ x D = some ([x], D)) (he : pEq (.lst [x]) (.lst []) = some false) : Th bs T (.tup (x :: r.map .int)) := fun ρ D hl h8 h5 => by
  refine ⟨false, ?_, hd_odd (n := 37) hx hr⟩
  have i : ev P40 (.isi .ttup (.var 8)) ρ D = some (.bl true, D) := by simp [h8, pIs]
  have q := lcG (α := PV) (Φ := P40) (D := D) (ρ := ρ) (own := [29]) (ce := .var 29) (pt := .nm 29) (ci := .over (.var 8)) (ct := .cons (.or_ (.cons (.not_ (.isi .tint (.var 29))) (.cons (.isi .tbool (.var 29)) .nil))) .nil) id (x :: r.map .int) oddF (by rw [List.map_id]; exact evi_ovT (ev_vr h8)) fun y hy => by
    rcases List.mem_cons.mp hy with e | hy
    · rw [e]
      have := hs ρ D hl
      cases x with
      | int i => have := hx 0 []; rw [is_number_int] at this; cases this
      | _ => exact this
    · obtain ⟨k, _, rfl⟩ := List.mem_map.mp hy
      simp [st1, bindP, wipE, hl, pIs, oddF]
  have e2 : (x :: r.map PV.int).flatMap oddF = [x] := by
    rw [List.flatMap_cons, oddF_ints, List.append_nil]
    cases x with
    | int i => have := hx 0 []; rw [is_number_int] at this; cases this
    | _ => rfl
  rw [e2] at q
  have c : ev P40 (.cmp .eq (.lc1 [29] (.var 29) (.nm 29) (.over (.var 8)) (.cons (.or_ (.cons (.not_ (.isi .tint (.var 29))) (.cons (.isi .tbool (.var 29)) .nil))) .nil)) (.lst .nil)) ρ D = some (.bl false, D) := ev_cm q rfl rfl he
  rw [ev_and, evand_cons, i, Option.bind_some, blOf_bl, Option.bind_some, if_pos rfl, evand_cons, c]; rfl
def things (bs : List B) (T : Int) (w : PV) : List PV := [ET (base bs T), w, ET (base bs T).reverse, ET ((base bs T).drop 1), .lst ((base bs T).map .int), ET (base bs T ++ [0]), .tup (.bl true :: ((base bs T).drop 1).map .int), .tup (.str "0" :: ((base bs T).drop 1).map .int), ET (T :: (base bs T).drop 1), ET (-1 :: (base bs T).drop 1)]
theorem x7 (h : G ρ bs T day) (hB : Bs bs) (hT0 : 0 ≤ T) (h5 : getS ρ 5 = some (.lst ((rows bs T).map ET))) (h6 : getS ρ 6 = some (hans bs T)) (h7 : getS ρ 7 = some (ET (base bs T))) : ∃ ρ', ex P40 b7 ρ D = some (.nx, ρ', D) ∧ Kp [8, 20] ρ ρ' := by
  have hl := hB.len
  have bl := base_len (bs := bs) (T := T)
  have oh : opd D (hans bs T) = some (hans bs T) := by
    unfold hans
    cases (bar bs T).head? <;> rfl
  obtain ⟨w, ew, hw⟩ : ∃ w, ev P40 (.ite (.cmp .ne (.var 5) (.lst .nil)) (.idx (.var 6) (.int 1)) .non) ρ D = some (w, D) ∧ Th bs T w := by
    by_cases c : rows bs T = []
    · refine ⟨.non, ev_it (ev_ner h5) ?_, th_non⟩
      rw [decide_eq_true c]; rfl
    · refine ⟨ET (hrow bs T), ev_it (ev_ner h5) ?_, th_int hB (by unfold hrow; rw [List.length_map, rg_len]; omega)⟩
      rw [decide_eq_false c]
      have hb := (yes_iff hB hT0).mpr c
      refine ev_ix (ev_vr h6) rfl oh ?_
      unfold hans
      rw [hb]; rfl
  have v7 : ev P40 (.var 7) ρ D = some (ET (base bs T), D) := ev_vr h7
  generalize hb : base bs T = b at *
  have cu : ev P40 (.cut (.var 7) (.cons (.int 1) .nil) .nil) ρ D = some (ET (b.drop 1), D) := by
    have : cutL (b.map PV.int) (some 1) none = (b.drop 1).map .int := by
      unfold cutL cutN
      simp only
      rw [if_neg (by decide), ← List.map_drop]
      by_cases c : 1 ≤ b.length
      · rw [show min (1 : Int).toNat (b.map PV.int).length = 1 by simp; omega]
        rw [List.take_of_length_le (by simp)]
      · have : b = [] := List.eq_nil_of_length_eq_zero (by omega)
        rw [this]; rfl
    rw [ev_cut, v7]
    simp only [Option.bind_some, evo_nil, evo_one, ev_int, Option.map_some, intOf_int, pCut_tup, this]
  have rv : ev P40 (.rev (.var 7)) ρ D = some (ET b.reverse, D) := by
    rw [ev_rev, v7]
    show some (PV.tup (b.map PV.int).reverse, D) = some (PV.tup (b.reverse.map PV.int), D)
    rw [List.map_reverse]
  have ls : ev P40 (.bi .list (.cons (.var 7) .nil)) ρ D = some (.lst (b.map .int), D) := ev_b1 v7 rfl rfl
  have a0 : ev P40 (.bin .add (.var 7) (.tup (.cons (.int 0) .nil))) ρ D = some (ET (b ++ [0]), D) := by
    refine ev_bn v7 rfl ?_
    exact row_add (by omega)
  have a1 : ∀ (e : CE) (x : PV), ev P40 e ρ D = some (x, D) → ev P40 (.bin .add (.tup (.cons e .nil)) (.cut (.var 7) (.cons (.int 1) .nil) .nil)) ρ D = some (.tup (x :: (b.drop 1).map .int), D) := fun e x he => by
    refine ev_bn (x := .tup [x]) ?_ cu ?_
    · rw [ev_tup, evs_cons, he]; rfl
    · rw [tup_add (by simp; omega)]; rfl
  have hi : evi P40 (.over (.tup (.cons (.var 7) (.cons (.ite (.cmp .ne (.var 5) (.lst .nil)) (.idx (.var 6) (.int 1)) .non) (.cons (.rev (.var 7)) (.cons (.cut (.var 7) (.cons (.int 1) .nil) .nil) (.cons (.bi .list (.cons (.var 7) .nil)) (.cons (.bin .add (.var 7) (.tup (.cons (.int 0) .nil))) (.cons (.bin .add (.tup (.cons (.bl true) .nil)) (.cut (.var 7) (.cons (.int 1) .nil) .nil)) (.cons (.bin .add (.tup (.cons (.str "0") .nil)) (.cut (.var 7) (.cons (.int 1) .nil) .nil)) (.cons (.bin .add (.tup (.cons (.var 17) .nil)) (.cut (.var 7) (.cons (.int 1) .nil) .nil)) (.cons (.bin .add (.tup (.cons (.neg (.int 1)) .nil)) (.cut (.var 7) (.cons (.int 1) .nil) .nil)) .nil)))))))))))) ρ D = some (things bs T w, D) := by
    refine evi_ovT ?_
    rw [ev_tup, evs_cons, v7, Option.bind_some, evs_cons, ew, Option.bind_some, evs_cons, rv, Option.bind_some, evs_cons, cu, Option.bind_some, evs_cons, ls, Option.bind_some, evs_cons, a0, Option.bind_some, evs_cons, a1 (.bl true) (.bl true) rfl, Option.bind_some, evs_cons, a1 (.str "0") (.str "0") rfl, Option.bind_some, evs_cons, a1 (.var 17) (.int T) (ev_vr h.s17), Option.bind_some, evs_cons, a1 (.neg (.int 1)) (.int (-1)) rfl]
    unfold things
    rw [hb]
    rfl
  have bdl : (b.drop 1).length ≤ 1000 := by rw [List.length_drop]; omega
  have all : ∀ x ∈ things bs T w, Th bs T x := fun x hx => by
    unfold things at hx
    rw [hb] at hx
    simp only [List.mem_cons, List.not_mem_nil, or_false] at hx
    rcases hx with rfl | rfl | rfl | rfl | rfl | rfl | rfl | rfl | rfl | rfl
    · exact th_int hB (by omega)
    · exact hw
    · exact th_int hB (by rw [List.length_reverse]; omega)
    · exact th_int hB bdl
    · exact th_lst
    · exact th_int hB (by simp; omega)
    · exact th_odd bdl (fun n D => nn_bl) (fun ρ D hl => by simp [st1, bindP, wipE, hl, pIs]) (by rfl)
    · exact th_odd bdl (fun n D => nn_str) (fun ρ D hl => by simp [st1, bindP, wipE, hl, pIs]) (by decide +kernel)
    · exact th_int hB (by rw [List.length_cons, List.length_drop]; omega)
    · exact th_int hB (by rw [List.length_cons, List.length_drop]; omega)
  obtain ⟨ρ', e, hk⟩ := ex_forP (Φ := P40) (D := D) (ρ := ρ) (α := PV) (p := .nm 8) (it := .over (.tup (.cons (.var 7) (.cons (.ite (.cmp .ne (.var 5) (.lst .nil)) (.idx (.var 6) (.int 1)) .non) (.cons (.rev (.var 7)) (.cons (.cut (.var 7) (.cons (.int 1) .nil) .nil) (.cons (.bi .list (.cons (.var 7) .nil)) (.cons (.bin .add (.var 7) (.tup (.cons (.int 0) .nil))) (.cons (.bin .add (.tup (.cons (.bl true) .nil)) (.cut (.var 7) (.cons (.int 1) .nil) .nil)) (.cons (.bin .add (.tup (.cons (.str "0") .nil)) (.cut (.var 7) (.cons (.int 1) .nil) .nil)) (.cons (.bin .add (.tup (.cons (.var 17) .nil)) (.cut (.var 7) (.cons (.int 1) .nil) .nil)) (.cons (.bin .add (.tup (.cons (.neg (.int 1)) .nil)) (.cut (.var 7) (.cons (.int 1) .nil) .nil)) .nil))))))))))))
    (b := .cons (.asg false 20 eR) (.frz [4] (.cons (.ife (.not_ (.call 22 (.cons (.call 7 (.cons (.var 4) (.cons (.var 17) (.cons (.var 8) .nil)))) (.cons (.var 20) .nil)))) (.cons (.ret (.bl false)) .nil) .nil) .nil))) id (things bs T w) (fun (_ : Unit) ρ' => Kp [8, 20] ρ ρ') (fun _ _ => ()) () (by rw [List.map_id]; exact hi) (Kp.refl _ ρ) (fun pre x post ρ1 hx hk => by
      have hT := all x (by rw [hx]; simp)
      have hk2 : Kp [8, 20] ρ (ρ1.set 8 (some (false, x))) := hk.set
      have g8 : getS (ρ1.set 8 (some (false, x))) 8 = some x := by rw [getS_set, if_pos rfl, if_pos (by rw [hk.1, h.len]; decide)]
      obtain ⟨b, e1, e2⟩ := hT _ D (by rw [hk2.1, h.len]) g8 (hk2.get h5)
      have hk3 : Kp [8, 20] ρ ((ρ1.set 8 (some (false, x))).set 20 (some (false, .bl b))) := hk2.set
      have hg := h.kp hk3
      have g8' : getS ((ρ1.set 8 (some (false, x))).set 20 (some (false, .bl b))) 8 = some x := by rw [getS_set, if_neg (by decide)]; exact g8
      have g20 : getS ((ρ1.set 8 (some (false, x))).set 20 (some (false, .bl b))) 20 = some (.bl b) := by rw [getS_set, if_pos rfl, if_pos (by rw [hk2.1, h.len]; decide)]
      refine ⟨.nx, (ρ1.set 8 (some (false, x))).set 20 (some (false, .bl b)), ?_, .inl rfl, hk3⟩
      show exs P40 _ (ρ1.set 8 (some (false, x))) D = _
      rw [xs_nx (ex_as e1), exs_frz, frz_of hg.s4, xs_nx (chkS (alk (m := 40) (k := 0) (w := .bl b) rfl (by decide)) (ev_c3 (ev_vr hg.s4) (ev_vr hg.s17) (ev_vr g8') e2) (ev_vr g20))]
      rfl)
  exact ⟨ρ', e, hk⟩
end
section
variable {ρ : Envi} {D : DS} {bs : List B} {T day : Int}
/-! ### some fixed -/
theorem x8 (h : G ρ bs T day) (hB : Bs bs) (hT0 : 0 ≤ T) (hw : Wst D) : ∃ fx D', ex P40 b8 ρ D = some (.nx, ρ.set 9 (some (false, .dct 0 (kvI fx))), D') ∧ Wst D' ∧ Fx bs T fx := by
  have hl := hB.len
  obtain ⟨fx, D', e, w, s, q⟩ := lcK (Φ := P40) (D := D) (D0 := D) (ρ := ρ) (own := [3]) (ce := .tup (.cons (.var 3) (.cons (.call 20 (.cons (.var 1) (.cons (.bi .max (.cons (.int 1) (.cons (.var 17) .nil))) .nil))) .nil))) (pt := .nm 3) (ci := .rng1 (.bi .len (.cons (.bor 4) .nil))) (ct := .cons (.and_ (.cons (.cmp .gt (.var 17) (.int 0)) (.cons (.cmp .eq (.call 20 (.cons (.var 1) (.cons (.int 3) .nil))) (.int 0)) .nil))) .nil) (ns := rg 0 bs.length)
    (fun p => (0 ≤ p.1 ∧ p.1 < bs.length) ∧ 0 ≤ p.2 ∧ p.2 < T) hw (evi_r1 (ev_len4 h) (by omega) (by omega)) fun k hk D hw => by
      by_cases c : 0 < T
      · obtain ⟨p, Dp, ep, p0, p1, wp⟩ := next40 (m := 3) hw (by decide)
        by_cases c2 : p = 0
        · obtain ⟨t, Dt, et, t0, t1, wt⟩ := next40 (m := if T > 1 then T else 1) wp (by split <;> omega)
          refine ⟨[(k, t)], Dt, ?_, wt, .inr ⟨t, rfl, mem_rg.mp hk, t0, by split at t1 <;> omega⟩⟩
          have mx : pBi .max [.int 1, .int T] = some (.int (if T > 1 then T else 1)) := rfl
          subst c2
          simp [st1, bindP, wipE, h.s1, h.s17, h.len, ep, pCmp, c, mx, et, pv2]
        · refine ⟨[], Dp, ?_, wp, .inl rfl⟩
          simp [st1, bindP, wipE, h.s1, h.s17, h.len, ep, pCmp, c, c2]
      · refine ⟨[], D, ?_, hw, .inl rfl⟩
        simp [st1, bindP, wipE, h.s17, h.len, pCmp, c]
  have nd : (fx.map (·.1)).Nodup := (srt_nodup (srt_rg _ _)).sublist s
  exact ⟨fx, D', ex_as (ev_b1 e rfl (dict_I nd)), w, nd, q⟩
theorem x9 {fx : List (Int × Int)} (h : G ρ bs T day) (hB : Bs bs) (hF : Fx bs T fx) (h5 : getS ρ 5 = some (.lst ((rows bs T).map ET))) (h9 : getS ρ 9 = some (.dct 0 (kvI fx))) : ex P40 b9 ρ D = some (.nx, ρ.set 10 (some (false, .lst ((abl bs T fx).map ET))), D) := by
  have q := lcP (Φ := P40) (D := D) (ρ := ρ) (own := [28]) (ce := .var 28) (pt := .nm 28) (ci := .over (.var 5)) (ct := .cons (.cmp .eq (.lc1 [3] (.var 3) (.nm 3) (.keys 9) (.cons (.cmp .ne (.idx (.var 28) (.var 3)) (.idx (.var 9) (.var 3))) .nil)) (.lst .nil)) .nil) ET (rows bs T) (fun r => (fx.filter fun p => !decide (v r p.1 = p.2)) = []) ET (evi_ov (ev_vr h5)) fun r hr => by
    have rl : r.length = bs.length := (mem_rws.mp (List.mem_filter.mp hr).1).1
    have g28 : getS (ρ.set 28 (some (false, ET r))) 28 = some (ET r) := by simp [h.len]
    have g9 : getS (ρ.set 28 (some (false, ET r))) 9 = some (.dct 0 (kvI fx)) := by simp [h9]
    have gl : (ρ.set 28 (some (false, ET r))).length = 30 := by simp [h.len]
    have s : st1 P40 [28] (.var 28) (.nm 28) (.cons (.cmp .eq (.lc1 [3] (.var 3) (.nm 3) (.keys 9) (.cons (.cmp .ne (.idx (.var 28) (.var 3)) (.idx (.var 9) (.var 3))) .nil)) (.lst .nil)) .nil) ρ (ET r) D = (evt P40 (.cons (.cmp .eq (.lc1 [3] (.var 3) (.nm 3) (.keys 9) (.cons (.cmp .ne (.idx (.var 28) (.var 3)) (.idx (.var 9) (.var 3))) .nil)) (.lst .nil)) .nil) (ρ.set 28 (some (false, ET r))) D).bind fun c => if c.1 then (ev P40 (.var 28) (ρ.set 28 (some (false, ET r))) c.2).map fun y => ([y.1], y.2) else some ([], c.2) := by
      simp [st1, bindP, wipE]
    rw [s]
    generalize ρ.set 28 (some (false, ET r)) = τ at *
    have ky : evi P40 (.keys 9) τ D = some (fx.map fun p => .int p.1, D) := by
      rw [evi_keys, bor_of g9, Option.bind_some]
      have : keysOf (.dct 0 (kvI fx)) = some (fx.map fun p => .int p.1) := by
        show (if (kvI fx).length ≤ LIM then some ((kvI fx).map (·.1)) else none) = _
        have hn := nodup_len (ks := fx.map (·.1)) (ns := rg 0 bs.length) hF.nd fun x hx => by
          obtain ⟨p, hp, rfl⟩ := List.mem_map.mp hx
          exact mem_rg.mpr (hF.ok p hp).1
        rw [if_pos]
        · unfold kvI; rw [List.map_map]; rfl
        · unfold kvI
          rw [List.length_map]
          rw [List.length_map, rg_len] at hn
          show _ ≤ 1000000
          have := hB.len

          omega
      rw [this]; rfl
    have q2 := lcP (Φ := P40) (D := D) (ρ := τ) (own := [3]) (ce := .var 3) (pt := .nm 3) (ci := .keys 9) (ct := .cons (.cmp .ne (.idx (.var 28) (.var 3)) (.idx (.var 9) (.var 3))) .nil) (fun p : Int × Int => PV.int p.1) fx (fun p => !decide (v r p.1 = p.2)) (fun p => .int p.1) ky fun p hp => by
      have hk := (hF.ok p hp).1
      have a := ixv (r := r) (k := p.1) hk.1 (by omega)
      have b : pIdx (.dct 0 (kvI fx)) (.int p.1) = some (.int p.2) := by
        show (if isKey 0 (.int p.1) then dGet (.int p.1) (kvI fx) else none) = _
        rw [if_pos (show isKey 0 (.int p.1) = true from rfl), dGet_I, lk_of_mem hF.nd (t := p.2) hp]; rfl
      by_cases e : v r p.1 = p.2 <;> simp [st1, bindP, wipE, gl, g28, g9, a, b, pCmp, e]
    have em : ((fx.filter fun p => !decide (v r p.1 = p.2)).map fun p => PV.int p.1) = ((fx.filter fun p => !decide (v r p.1 = p.2)).map (·.1)).map .int := by rw [List.map_map]; rfl
    rw [em] at q2
    have c : ev P40 (.cmp .eq (.lc1 [3] (.var 3) (.nm 3) (.keys 9) (.cons (.cmp .ne (.idx (.var 28) (.var 3)) (.idx (.var 9) (.var 3))) .nil)) (.lst .nil)) τ D = some (.bl (decide ((fx.filter fun p => !decide (v r p.1 = p.2)) = [])), D) := by
      refine ev_cm q2 rfl rfl ?_
      show pEq _ _ = _
      rw [pEq_lstN]
      congr 1
      rw [Bool.eq_iff_iff, decide_eq_true_iff, decide_eq_true_iff, List.map_eq_nil_iff]
    rw [evt_one, c]
    by_cases e : (fx.filter fun p => !decide (v r p.1 = p.2)) = []
    · rw [decide_eq_true e]; simp [g28]
    · rw [decide_eq_false e]; rfl
  exact ex_as q
end
section
variable {ρ : Envi} {D : DS} {bs : List B} {T day : Int}
theorem wans_ag {L : List (List Int)} (h : ∀ r ∈ L, r.length ≤ 1000) : ag 1 (wans L) = true := by
  unfold wans
  cases L with
  | nil => rfl
  | cons r L => exact ag_ints (by have := h r List.mem_cons_self; omega)
theorem x10 {fx : List (Int × Int)} (h : G ρ bs T day) (hB : Bs bs) (hT0 : 0 ≤ T) (hT : T ≤ 3) (hF : Fx bs T fx) (h9 : getS ρ 9 = some (.dct 0 (kvI fx))) (h10 : getS ρ 10 = some (.lst ((abl bs T fx).map ET))) : ex P40 b10 ρ D = some (.nx, ρ, D) := by
  have hl := hB.len
  have rl : ∀ r ∈ abl bs T fx, r.length ≤ 1000 := fun r hr => by
    have := (mem_rws.mp (List.mem_filter.mp (List.mem_filter.mp hr).1).1).1
    omega
  refine chkS (alk (m := 40) (wans_ag rl) (by decide)) (ev_c3 (ev_vr h.s4) (ev_vr h.s17) (ev_b1 (ev_vr h9) rfl rfl) (fixed_ok (n := 37) hB hT0 hT hF)) (ev_it (ev_ner h10) ?_)
  unfold wans
  cases e : abl bs T fx with
  | nil => rfl
  | cons r L =>
    rw [e] at h10
    show ev P40 (.idx (.var 10) (.int 0)) ρ D = _
    exact ev_ix (ev_vr h10) rfl rfl (ix_lst ET (by decide) rfl)
/-! ### sets that so many tools keep -/
theorem x11 (h : G ρ bs T day) (hB : Bs bs) : ex P40 b11 ρ D = some (.nx, ρ.set 11 (some (false, .lst ((fs bs T).map ET))), D) := by
  have hl := hB.len
  have ls := law_sets_ok (n := 39) (D := D) hl
  have q := lcP (Φ := P40) (D := D) (ρ := ρ) (own := [14]) (ce := .var 14) (pt := .nm 14) (ci := .over (.call 27 (.cons (.bi .len (.cons (.bor 4) .nil)) .nil))) (ct := .cons (.cmp .le (.call 26 (.cons (.lc1 [3] (.idx (.bor 4) (.var 3)) (.nm 3) (.over (.var 14)) .nil) .nil)) (.var 17)) .nil) ET (subs (rg 0 bs.length)) (fun r => decide (mst (r.map (g bs)) ≤ T)) ET (evi_ov (ev_c1 (ev_len4 h) ls)) fun r hr => by
    have hs := (mem_subs _).mp hr
    have hr' : ∀ k ∈ r, 0 ≤ k ∧ k < bs.length := fun k hk => mem_rg.mp (hs.subset hk)
    have hrl := hs.length_le
    rw [rg_len] at hrl
    have g14 : getS (ρ.set 14 (some (false, ET r))) 14 = some (ET r) := by simp [h.len]
    have hg : G (ρ.set 14 (some (false, ET r))) bs T day := h.set
    have s : st1 P40 [14] (.var 14) (.nm 14) (.cons (.cmp .le (.call 26 (.cons (.lc1 [3] (.idx (.bor 4) (.var 3)) (.nm 3) (.over (.var 14)) .nil) .nil)) (.var 17)) .nil) ρ (ET r) D = (evt P40 (.cons (.cmp .le (.call 26 (.cons (.lc1 [3] (.idx (.bor 4) (.var 3)) (.nm 3) (.over (.var 14)) .nil) .nil)) (.var 17)) .nil) (ρ.set 14 (some (false, ET r))) D).bind fun c => if c.1 then (ev P40 (.var 14) (ρ.set 14 (some (false, ET r))) c.2).map fun y => ([y.1], y.2) else some ([], c.2) := by
      simp [st1, bindP, wipE]
    rw [s]
    generalize ρ.set 14 (some (false, ET r)) = τ at *
    have o := lcM (Φ := P40) (D := D) (ρ := τ) (own := [3]) (ce := .idx (.bor 4) (.var 3)) (pt := .nm 3) (ci := .over (.var 14)) (ct := .nil) PV.int r (fun i => pv2 (g bs i)) (evi_ovT (ev_vr g14)) fun i hi => by
      have := ixb (hr' i hi).1 (hr' i hi).2
      simp [st1, bindP, wipE, hg.len, hg.b4, this]
    have o2 : (r.map fun i => pv2 (g bs i)) = (r.map (g bs)).map pv2 := by rw [List.map_map]; rfl
    rw [o2] at o
    have m := law_most_ok (n := 38) (D := D) (X := LB (r.map (g bs))) (.inr rfl) (by rw [List.length_map]; omega)
    have c : ev P40 (.cmp .le (.call 26 (.cons (.lc1 [3] (.idx (.bor 4) (.var 3)) (.nm 3) (.over (.var 14)) .nil) .nil)) (.var 17)) τ D = some (.bl (decide (mst (r.map (g bs)) ≤ T)), D) := ev_cm (ev_c1 o m) (ev_vr hg.s17) rfl rfl
    rw [evt_one, c]
    by_cases e : mst (r.map (g bs)) ≤ T
    · rw [decide_eq_true e]; simp [g14]
    · rw [decide_eq_false e]; rfl
  exact ex_as q
theorem x12 {q1 q2 : Int × List Int} (h : G ρ bs T day) (hB : Bs bs) (h11 : getS ρ 11 = some (.lst ((fs bs T).map ET))) (e1 : pMin (((fs bs T).map many).map kc) = some (kc q1)) (e2 : pMin (((fs bs T).map (dsum bs)).map kc) = some (kc q2)) : ex P40 b12 ρ D = some (.nx, (ρ.set 21 (some (false, kc q1))).set 22 (some (false, kc q2)), D) := by
  have l1 := lcM (Φ := P40) (D := D) (ρ := ρ) (own := [14]) (ce := .tup (.cons (.bin .sub (.int 0) (.bi .len (.cons (.var 14) .nil))) (.cons (.var 14) .nil))) (pt := .nm 14) (ci := .over (.var 11)) (ct := .nil) ET (fs bs T) (fun r => kc (many r)) (evi_ov (ev_vr h11)) fun r _ => by
    simp [st1, bindP, wipE, h.len, kc, many]
  have l2 := lcM (Φ := P40) (D := D) (ρ := ρ) (own := [14]) (ce := .tup (.cons (.bin .sub (.int 0) (.bi .sum (.cons (.lc1 [3] (.bin .sub (.idx (.idx (.bor 4) (.var 3)) (.int 1)) (.idx (.idx (.bor 4) (.var 3)) (.int 0))) (.nm 3) (.over (.var 14)) .nil) .nil))) (.cons (.var 14) .nil))) (pt := .nm 14) (ci := .over (.var 11)) (ct := .nil) ET (fs bs T) (fun r => kc (dsum bs r)) (evi_ov (ev_vr h11)) fun r hr => by
    have hs := (mem_subs _).mp (List.mem_filter.mp hr).1
    have g14 : getS (ρ.set 14 (some (false, ET r))) 14 = some (ET r) := by simp [h.len]
    have hg : G (ρ.set 14 (some (false, ET r))) bs T day := h.set
    have o := lcM (Φ := P40) (D := D) (ρ := ρ.set 14 (some (false, ET r))) (own := [3]) (ce := .bin .sub (.idx (.idx (.bor 4) (.var 3)) (.int 1)) (.idx (.idx (.bor 4) (.var 3)) (.int 0))) (pt := .nm 3) (ci := .over (.var 14)) (ct := .nil) PV.int r (fun i => .int ((g bs i).2 - (g bs i).1)) (evi_ovT (ev_vr g14)) fun i hi => by
      have hi := mem_rg.mp (hs.subset hi)
      have := ixb hi.1 hi.2
      simp [st1, bindP, wipE, hg.len, hg.b4, this]
    have su := pSum_lst (fun i : Int => (g bs i).2 - (g bs i).1) r
    have t : ev P40 (.tup (.cons (.bin .sub (.int 0) (.bi .sum (.cons (.lc1 [3] (.bin .sub (.idx (.idx (.bor 4) (.var 3)) (.int 1)) (.idx (.idx (.bor 4) (.var 3)) (.int 0))) (.nm 3) (.over (.var 14)) .nil) .nil))) (.cons (.var 14) .nil))) (ρ.set 14 (some (false, ET r))) D = some (kc (dsum bs r), D) := by
      refine (ev_t2 (ev_bn (x := .int 0) rfl (ev_b1 o rfl su) rfl) (ev_vr g14)).trans ?_
      rw [Int.zero_sub]; rfl
    show ((bindP (.nm 14) (ET r) (wipE ρ [14])).bind _) = _
    rw [show bindP (.nm 14) (ET r) (wipE ρ [14]) = some (ρ.set 14 (some (false, ET r))) by simp [bindP, wipE], Option.bind_some, evt_nil, Option.bind_some]
    simp only [if_true, t, Option.map_some]
  have m1 : ((fs bs T).map fun r => kc (many r)) = ((fs bs T).map many).map kc := by rw [List.map_map]; rfl
  have m2 : ((fs bs T).map fun r => kc (dsum bs r)) = ((fs bs T).map (dsum bs)).map kc := by rw [List.map_map]; rfl
  rw [m1] at l1
  rw [m2] at l2
  have v1 := ev_b1 (Φ := P40) (f := .min) l1 rfl e1
  have v2 := ev_b1 (Φ := P40) (f := .min) l2 rfl e2
  unfold b12
  rw [ex_par, evs_cons, v1, Option.bind_some, evs_cons, v2]
  rfl
theorem kc_ag {q : Int × List Int} (h : q.2.length ≤ 1000) : ag 2 (kc q) = true := by
  show (decide _ && (true && (ag 1 (ET q.2) && true))) = true
  rw [ag_ints (by omega)]; rfl
theorem x13 {q1 q2 : Int × List Int} (h : G ρ bs T day) (hB : Bs bs) (h21 : getS ρ 21 = some (kc q1)) (h22 : getS ρ 22 = some (kc q2)) (l1 : q1.2.length ≤ 1000) (l2 : q2.2.length ≤ 1000) (e1 : pMin (((fs bs T).map many).map kc) = some (kc q1)) (e2 : pMin (((fs bs T).map (dsum bs)).map kc) = some (kc q2)) : ex P40 b13 ρ D = some (.nx, ρ, D) := by
  have ag1 : ag 3 (.tup [.tup [.int (-q1.1), ET q1.2], .tup [.int (-q2.1), ET q2.2]]) = true := by
    have a := kc_ag (q := (-q1.1, q1.2)) l1
    have b := kc_ag (q := (-q2.1, q2.2)) l2
    show (decide _ && (ag 2 (kc (-q1.1, q1.2)) && (ag 2 (kc (-q2.1, q2.2)) && true))) = true
    rw [a, b]; rfl
  have part : ∀ {i : Nat} {q : Int × List Int}, getS ρ i = some (kc q) → ev P40 (.tup (.cons (.bin .sub (.int 0) (.idx (.var i) (.int 0))) (.cons (.idx (.var i) (.int 1)) .nil))) ρ D = some (.tup [.int (-q.1), ET q.2], D) := fun {i q} hi => by
    refine (ev_t2 (ev_bn (x := .int 0) rfl (ev_ix (ev_vr hi) rfl okc kc0) rfl) (ev_ix (ev_vr hi) rfl okc kc1)).trans ?_
    rw [Int.zero_sub]
  exact chkS (alk (m := 40) ag1 (by decide)) (ev_t2 (ev_c2 (ev_vr h.s4) (ev_vr h.s17) (most_ok (n := 37) hB e1)) (ev_c2 (ev_vr h.s4) (ev_vr h.s17) (days_ok (n := 37) hB e2))) (ev_t2 (part h21) (part h22))
/-! ### by ends -/
theorem x1415 (h : G ρ bs T day) (hB : Bs bs) : ∃ ρ', ex P40 b14 ρ D = some (.nx, ρ.set 12 (some (false, .lst [])), D) ∧ ex P40 b15 (ρ.set 12 (some (false, .lst []))) D = some (.nx, ρ', D) ∧ Kp [12, 13] ρ ρ' ∧ getS ρ' 12 = some (.lst ((kept bs T).map .int)) := by
  have hl := hB.len
  have hk0 : Kp [12, 13] ρ (ρ.set 12 (some (false, .lst []))) := (Kp.refl _ ρ).set
  have g0 : getS (ρ.set 12 (some (false, .lst []))) 12 = some (.lst ([].map .int)) := by simp [h.len]
  have hg0 := h.kp hk0
  have e14 : ex P40 b14 ρ D = some (.nx, ρ.set 12 (some (false, .lst [])), D) := rfl
  generalize ρ.set 12 (some (false, PV.lst [])) = τ at *
  have q := lcM (Φ := P40) (D := D) (ρ := τ) (own := [3]) (ce := .tup (.cons (.idx (.idx (.bor 4) (.var 3)) (.int 1)) (.cons (.var 3) .nil))) (pt := .nm 3) (ci := .rng1 (.bi .len (.cons (.bor 4) .nil))) (ct := .nil) PV.int (rg 0 bs.length) (fun k => pv2 ((g bs k).2, k)) (evi_r1 (ev_len4 hg0) (by omega) (by omega)) fun k hk => by
    obtain ⟨k0, k1⟩ := mem_rg.mp hk
    have := ixb k0 k1
    simp [st1, bindP, wipE, hg0.len, hg0.b4, this]
    rfl
  have e : ((rg 0 (bs.length : Int)).map fun k => pv2 ((g bs k).2, k)) = (keysE bs).map pv2 := by
    unfold keysE; rw [List.map_map]; rfl
  rw [e] at q
  obtain ⟨ρ', e, r1, r2⟩ := ex_forP (Φ := P40) (D := D) (ρ := τ) (p := .nm 13) (it := .over (.bi .sorted (.cons (.lc1 [3] (.tup (.cons (.idx (.idx (.bor 4) (.var 3)) (.int 1)) (.cons (.var 3) .nil))) (.nm 3) (.rng1 (.bi .len (.cons (.bor 4) .nil))) .nil) .nil))) (b := .cons (.asg false 12 (.bin .add (.var 12) (.ite (.cmp .le (.call 26 (.cons (.lc1 [3] (.idx (.bor 4) (.var 3)) (.nm 3) (.over (.bin .add (.var 12) (.lst (.cons (.idx (.var 13) (.int 1)) .nil)))) .nil) .nil)) (.var 17)) (.lst (.cons (.idx (.var 13) (.int 1)) .nil)) (.lst .nil)))) .nil) pv2 (ke bs)
    (fun (L : List Int) ρ' => Kp [12, 13] ρ ρ' ∧ getS ρ' 12 = some (.lst (L.map .int))) (bst bs T) [] (evi_ov (ev_b1 q rfl (pSorted_pairs _))) ⟨hk0, g0⟩ (fun pre p post ρ1 hx ⟨hk1, g12⟩ => by
      have hp := ke_mem (bs := bs) (q := p) (by rw [hx]; simp)
      have hsub := bst_sub bs T pre
      have hFr : ∀ k ∈ pre.foldl (bst bs T) [] ++ [p.2], 0 ≤ k ∧ k < bs.length := fun k hk => by
        rcases List.mem_append.mp hk with hk | hk
        · obtain ⟨w, hw, rfl⟩ := List.mem_map.mp (hsub.subset hk)
          exact (ke_mem (bs := bs) (q := w) (by rw [hx]; exact List.mem_append_left _ hw)).1
        · rw [List.mem_singleton.mp hk]; exact hp.1
      have hln : (pre.foldl (bst bs T) [] ++ [p.2]).length ≤ 6 := by
        have h1 := hsub.length_le
        have h2 := (ke_snd (bs := bs)).length_eq
        rw [hx, rg_len] at h2
        simp at h1 h2 ⊢
        omega
      have hbst : bst bs T (pre.foldl (bst bs T) []) p = if mst ((pre.foldl (bst bs T) [] ++ [p.2]).map (g bs)) ≤ T then pre.foldl (bst bs T) [] ++ [p.2] else pre.foldl (bst bs T) [] := rfl
      rw [hbst]
      generalize pre.foldl (bst bs T) [] = L at *
      have ad : pBin .add (.lst (L.map .int)) (.lst [.int p.2]) = some (.lst ((L ++ [p.2]).map .int)) := by
        rw [lst_add (by simp at hln ⊢; omega)]; simp
      have ad0 : pBin .add (.lst (L.map .int)) (.lst []) = some (.lst (L.map .int)) := by
        rw [lst_add (by simp at hln ⊢; omega)]; simp
      have hk2 : Kp [12, 13] ρ (ρ1.set 13 (some (false, pv2 p))) := hk1.set
      have hg := h.kp hk2
      have g13 : getS (ρ1.set 13 (some (false, pv2 p))) 13 = some (pv2 p) := by rw [getS_set, if_pos rfl, if_pos (by rw [hk1.1, h.len]; decide)]
      have g12' : getS (ρ1.set 13 (some (false, pv2 p))) 12 = some (.lst (L.map .int)) := by rw [getS_set, if_neg (by decide)]; exact g12
      refine ⟨.nx, (ρ1.set 13 (some (false, pv2 p))).set 12 (some (false, .lst ((if mst ((L ++ [p.2]).map (g bs)) ≤ T then L ++ [p.2] else L).map .int))), ?_, .inl rfl, hk2.set, by rw [getS_set, if_pos rfl, if_pos (by rw [hk2.1, h.len]; decide)]⟩
      show exs P40 _ (ρ1.set 13 (some (false, pv2 p))) D = _
      generalize ρ1.set 13 (some (false, pv2 p)) = υ at *
      have iv : ev P40 (.idx (.var 13) (.int 1)) υ D = some (.int p.2, D) := ev_ix (ev_vr g13) rfl rfl rfl
      have lv : ev P40 (.lst (.cons (.idx (.var 13) (.int 1)) .nil)) υ D = some (.lst [.int p.2], D) := by rw [ev_lst, evs_cons, iv]; rfl
      have o := lcM (Φ := P40) (D := D) (ρ := υ) (own := [3]) (ce := .idx (.bor 4) (.var 3)) (pt := .nm 3) (ci := .over (.bin .add (.var 12) (.lst (.cons (.idx (.var 13) (.int 1)) .nil)))) (ct := .nil) PV.int (L ++ [p.2]) (fun i => pv2 (g bs i)) (evi_ov (ev_bn (ev_vr g12') lv ad)) fun i hi => by
        have := ixb (hFr i hi).1 (hFr i hi).2
        simp [st1, bindP, wipE, hg.len, hg.b4, this]
      have o2 : ((L ++ [p.2]).map fun i => pv2 (g bs i)) = ((L ++ [p.2]).map (g bs)).map pv2 := by rw [List.map_map]; rfl
      rw [o2] at o
      have m := law_most_ok (n := 38) (D := D) (X := LB ((L ++ [p.2]).map (g bs))) (.inr rfl) (by rw [List.length_map]; exact hln)
      have c : ev P40 (.cmp .le (.call 26 (.cons (.lc1 [3] (.idx (.bor 4) (.var 3)) (.nm 3) (.over (.bin .add (.var 12) (.lst (.cons (.idx (.var 13) (.int 1)) .nil)))) .nil) .nil)) (.var 17)) υ D = some (.bl (decide (mst ((L ++ [p.2]).map (g bs)) ≤ T)), D) := ev_cm (ev_c1 o m) (ev_vr hg.s17) rfl rfl
      have fin : ev P40 (.bin .add (.var 12) (.ite (.cmp .le (.call 26 (.cons (.lc1 [3] (.idx (.bor 4) (.var 3)) (.nm 3) (.over (.bin .add (.var 12) (.lst (.cons (.idx (.var 13) (.int 1)) .nil)))) .nil) .nil)) (.var 17)) (.lst (.cons (.idx (.var 13) (.int 1)) .nil)) (.lst .nil))) υ D = some (.lst ((if mst ((L ++ [p.2]).map (g bs)) ≤ T then L ++ [p.2] else L).map .int), D) := by
        by_cases e : mst ((L ++ [p.2]).map (g bs)) ≤ T
        · rw [if_pos e]
          rw [decide_eq_true e] at c
          exact ev_bn (ev_vr g12') (ev_it c lv) ad
        · rw [if_neg e]
          rw [decide_eq_false e] at c
          exact ev_bn (ev_vr g12') (ev_it c (v := .lst []) rfl) ad0
      rw [xs_nx (ex_as fin)]; rfl)
  exact ⟨ρ', e14, e, r1, r2⟩
theorem x16 {q1 : Int × List Int} (h : G ρ bs T day) (hB : Bs bs) (hT0 : 0 ≤ T) (h12 : getS ρ 12 = some (.lst ((kept bs T).map .int))) (h21 : getS ρ 21 = some (kc q1)) (hq : q1 ∈ (fs bs T).map many) (hm : ∀ y ∈ (fs bs T).map many, q1.1 ≤ y.1) : ex P40 b16 ρ D = some (.nx, ρ, D) := by
  have hl := hB.len
  have kb := by_ends_best hB hT0 hq hm
  have kn := kept_nd (bs := bs) (T := T)
  have kl : (sset (kept bs T)).length ≤ 100000 := by
    have := srt_len (a := 0) (b := bs.length) (srt_sset (kept bs T)) (fun x hx => kept_rg x (mem_sset.mp hx)) (by omega)
    omega
  have c1 : ev P40 (.cmp .ne (.bi .len (.cons (.var 12) .nil)) (.bin .sub (.int 0) (.idx (.var 21) (.int 0)))) ρ D = some (.bl false, D) := by
    refine ev_cm (ev_b1 (ev_vr h12) rfl rfl) (ev_bn (x := .int 0) rfl (ev_ix (ev_vr h21) rfl okc kc0) rfl) rfl ?_
    rw [List.length_map, Int.zero_sub, kb]
    simp [pCmp]
  exact ex_no (ev_o2 c1 (chkE (alk (m := 40) (ag_ints kl : ag 1 (ET (sset (kept bs T))) = true) (by decide)) (ev_c2 (ev_vr h.s4) (ev_vr h.s17) (by_ends_ok (n := 37) hB)) (ev_b1 (ev_b1 (ev_vr h12) rfl (sorted_ints kn)) rfl rfl)))
end
section
variable {ρ : Envi} {D : DS} {bs : List B} {T day last long : Int}
/-! ### spans -/
theorem x17 (h : G ρ bs T day) (d0 : 0 ≤ day) (hw : Wst D) : ∃ last long D', ex P40 b17 ρ D = some (.nx, ((ρ.set 23 (some (false, .int last))).set 24 (some (false, .lst []))).set 25 (some (false, .int long)), D') ∧ Wst D' ∧ day ≤ last ∧ last ≤ day + 5 ∧ 1 ≤ long ∧ long ≤ 4 := by
  obtain ⟨p, Dp, ep, p0, p1, wp⟩ := next40 (m := 6) hw (by decide)
  obtain ⟨q, Dq, eq, q0, q1, wq⟩ := next40 (m := 4) wp (by decide)
  refine ⟨day + p, 1 + q, Dq, ?_, wq, by omega, by omega, by omega, by omega⟩
  simp [b17, h.s1, h.s18, ep, eq, nms, storeT]
theorem ev_cnt {a : CE} {d : Int} (h : G ρ bs T day) (hB : Bs bs) (ha : ev P40 a ρ D = some (.int d, D)) : ev P40 (.bi .len (.cons (.call 24 (.cons (.var 4) (.cons a .nil))) .nil)) ρ D = some (.int (cnt bs d), D) := by
  have := ev_b1 (Φ := P40) (f := .len) (ev_c2 (ev_vr h.s4) ha (law_there_ok (n := 39) (D := D) (d := d) (.inl rfl) hB.len)) rfl rfl
  rw [this, List.length_map]; rfl
theorem x18 (h : G ρ bs T day) (hB : Bs bs) (d0 : 0 ≤ day) (d1 : day ≤ 8) (l0 : day ≤ last) (l1 : last ≤ day + 5) (h23 : getS ρ 23 = some (.int last)) (h24 : getS ρ 24 = some (.lst [])) : ∃ ρ', ex P40 b18 ρ D = some (.nx, ρ', D) ∧ Kp [14, 24] ρ ρ' ∧ getS ρ' 24 = some (.lst ((spn bs T day last).map pv2)) := by
  have q := lcP (Φ := P40) (D := D) (ρ := ρ) (own := [29]) (ce := .var 29) (pt := .nm 29) (ci := .rng2 (.var 18) (.bin .add (.var 23) (.int 1))) (ct := .cons (.cmp .lt (.bi .len (.cons (.call 24 (.cons (.var 4) (.cons (.var 29) .nil))) .nil)) (.var 17)) .nil) PV.int (rg day (last + 1)) (fun d => decide (cnt bs d < T)) PV.int (evi_r2 (ev_vr h.s18) (ev_bn (ev_vr h23) (y := .int 1) rfl rfl) (by omega) (by omega) (by omega) (by omega)) fun d hd => by
    have hg : G (ρ.set 29 (some (false, .int d))) bs T day := h.set
    have g29 : getS (ρ.set 29 (some (false, .int d))) 29 = some (.int d) := by simp [h.len]
    have c : ev P40 (.cmp .lt (.bi .len (.cons (.call 24 (.cons (.var 4) (.cons (.var 29) .nil))) .nil)) (.var 17)) (ρ.set 29 (some (false, .int d))) D = some (.bl (decide (cnt bs d < T)), D) := ev_cm (ev_cnt hg hB (ev_vr g29)) (ev_vr hg.s17) rfl (by simp [pCmp])
    show ((bindP (.nm 29) (.int d) (wipE ρ [29])).bind _) = _
    rw [show bindP (.nm 29) (.int d) (wipE ρ [29]) = some (ρ.set 29 (some (false, .int d))) by simp [bindP, wipE], Option.bind_some, evt_one, c]
    by_cases e : cnt bs d < T
    · rw [decide_eq_true e]; simp [g29, h.len]
    · rw [decide_eq_false e]; rfl
  generalize hL : (rg day (last + 1)).filter (fun d => decide (cnt bs d < T)) = L at *
  have hLl : L.length ≤ 30 := by
    rw [← hL]
    refine Nat.le_trans (List.length_filter_le _ _) ?_
    rw [rg_len]; omega
  obtain ⟨ρ', e, hr⟩ := ex_forP (Φ := P40) (D := D) (ρ := ρ) (p := .nm 14) (it := .over (.lc1 [29] (.var 29) (.nm 29) (.rng2 (.var 18) (.bin .add (.var 23) (.int 1))) (.cons (.cmp .lt (.bi .len (.cons (.call 24 (.cons (.var 4) (.cons (.var 29) .nil))) .nil)) (.var 17)) .nil))) (b := .cons (.asg false 24 (.ite (.and_ (.cons (.cmp .ne (.var 24) (.lst .nil)) (.cons (.cmp .eq (.idx (.idx (.var 24) (.neg (.int 1))) (.int 1)) (.var 14)) .nil))) (.bin .add (.cut (.var 24) .nil (.cons (.neg (.int 1)) .nil)) (.lst (.cons (.tup (.cons (.idx (.idx (.var 24) (.neg (.int 1))) (.int 0)) (.cons (.bin .add (.var 14) (.int 1)) .nil))) .nil))) (.bin .add (.var 24) (.lst (.cons (.tup (.cons (.var 14) (.cons (.bin .add (.var 14) (.int 1)) .nil))) .nil))))) .nil)
    PV.int L (fun (f : List (Int × Int)) ρ' => Kp [14, 24] ρ ρ' ∧ getS ρ' 24 = some (.lst (f.map pv2))) (fun f d => jst f (d, d + 1)) [] (evi_ov q) ⟨Kp.refl _ ρ, h24⟩ (fun pre d post ρ1 hx ⟨hk, h4⟩ => by
      have hl : (pre.foldl (fun f d => jst f (d, d + 1)) []).length ≤ 1000 := by
        have := jst_lens (pre.map fun d => (d, d + 1)) []
        rw [List.foldl_map] at this
        have h2 := congrArg List.length hx
        rw [List.length_append] at h2
        simp at this
        omega
      generalize pre.foldl (fun f d => jst f (d, d + 1)) [] = f at *
      have hl1 : ρ1.length = 30 := by rw [hk.1, h.len]
      have e := ev_jst (Φ := P40) (D := D) (ρ := ρ1.set 14 (some (false, .int d))) (a := .var 24) (b := .var 14) (c := .bin .add (.var 14) (.int 1)) (f := f) (x := d) (y := d + 1) hl (by simp [h4]) (by simp [hl1]) (by simp [hl1])
      refine ⟨.nx, (ρ1.set 14 (some (false, .int d))).set 24 (some (false, .lst ((jst f (d, d + 1)).map pv2))), ?_, .inl rfl, hk.set.set, by simp [hl1]⟩
      show exs P40 _ (ρ1.set 14 (some (false, .int d))) D = _
      rw [exs_cons, ex_asg, e]; rfl)
  refine ⟨ρ', e, hr.1, ?_⟩
  rw [hr.2]
  unfold spn
  rw [hL, List.foldl_map]
/-- the days on which one more can begin -/
def bgn (bs : List B) (T day long : Int) : List Int := (rg day 30).filter fun y => decide (0 < T) && !busy bs T long y
theorem x19 (h : G ρ bs T day) (hB : Bs bs) (d0 : 0 ≤ day) (d1 : day ≤ 8) (l0 : 1 ≤ long) (l1 : long ≤ 4) (h25 : getS ρ 25 = some (.int long)) : ex P40 b19 ρ D = some (.nx, ρ.set 15 (some (false, .lst ((bgn bs T day long).map .int))), D) := by
  have q := lcP (Φ := P40) (D := D) (ρ := ρ) (own := [14]) (ce := .var 14) (pt := .nm 14) (ci := .rng2 (.var 18) (.int 30)) (ct := .cons (.and_ (.cons (.cmp .gt (.var 17) (.int 0)) (.cons (.cmp .eq (.lc1 [29] (.var 29) (.nm 29) (.rng2 (.var 14) (.bin .add (.var 14) (.var 25))) (.cons (.cmp .ge (.bi .len (.cons (.call 24 (.cons (.var 4) (.cons (.var 29) .nil))) .nil)) (.var 17)) .nil)) (.lst .nil)) .nil))) .nil) PV.int (rg day 30) (fun y => decide (0 < T) && !busy bs T long y) PV.int (evi_r2 (ev_vr h.s18) rfl (by omega) (by omega) (by omega) (by omega)) fun y hy => by
    obtain ⟨y0, y1⟩ := mem_rg.mp hy
    have hg : G (ρ.set 14 (some (false, .int y))) bs T day := h.set
    have g14 : getS (ρ.set 14 (some (false, .int y))) 14 = some (.int y) := by simp [h.len]
    have g25 : getS (ρ.set 14 (some (false, .int y))) 25 = some (.int long) := by simp [h25]
    show ((bindP (.nm 14) (.int y) (wipE ρ [14])).bind _) = _
    rw [show bindP (.nm 14) (.int y) (wipE ρ [14]) = some (ρ.set 14 (some (false, .int y))) by simp [bindP, wipE], Option.bind_some, evt_one]
    generalize ρ.set 14 (some (false, PV.int y)) = τ at *
    have q2 := lcP (Φ := P40) (D := D) (ρ := τ) (own := [29]) (ce := .var 29) (pt := .nm 29) (ci := .rng2 (.var 14) (.bin .add (.var 14) (.var 25))) (ct := .cons (.cmp .ge (.bi .len (.cons (.call 24 (.cons (.var 4) (.cons (.var 29) .nil))) .nil)) (.var 17)) .nil) PV.int (rg y (y + long)) (fun d => decide (T ≤ cnt bs d)) PV.int (evi_r2 (ev_vr g14) (ev_bn (ev_vr g14) (ev_vr g25) rfl) (by omega) (by omega) (by omega) (by omega)) fun d hd => by
      have hg : G (τ.set 29 (some (false, .int d))) bs T day := hg.set
      have g29 : getS (τ.set 29 (some (false, .int d))) 29 = some (.int d) := by have := hg.len; simp at this; simp [this]
      have c : ev P40 (.cmp .ge (.bi .len (.cons (.call 24 (.cons (.var 4) (.cons (.var 29) .nil))) .nil)) (.var 17)) (τ.set 29 (some (false, .int d))) D = some (.bl (decide (T ≤ cnt bs d)), D) := ev_cm (ev_cnt hg hB (ev_vr g29)) (ev_vr hg.s17) rfl rfl
      show ((bindP (.nm 29) (.int d) (wipE τ [29])).bind _) = _
      rw [show bindP (.nm 29) (.int d) (wipE τ [29]) = some (τ.set 29 (some (false, .int d))) by simp [bindP, wipE], Option.bind_some, evt_one, c]
      by_cases e : T ≤ cnt bs d
      · rw [decide_eq_true e]; simp only [Option.map_some, blOf_bl, Option.bind_some, if_true, ev_vr g29]
      · rw [decide_eq_false e]; rfl
    have c2 : ev P40 (.cmp .eq (.lc1 [29] (.var 29) (.nm 29) (.rng2 (.var 14) (.bin .add (.var 14) (.var 25))) (.cons (.cmp .ge (.bi .len (.cons (.call 24 (.cons (.var 4) (.cons (.var 29) .nil))) .nil)) (.var 17)) .nil)) (.lst .nil)) τ D = some (.bl (!busy bs T long y), D) := by
      refine ev_cm q2 rfl rfl ?_
      show pEq _ _ = _
      rw [pEq_lstN]
      congr 1
      unfold busy
      rw [Bool.eq_iff_iff, decide_eq_true_iff, List.filter_eq_nil_iff, Bool.not_eq_true', List.any_eq_false]
    have c1 : ev P40 (.cmp .gt (.var 17) (.int 0)) τ D = some (.bl (decide (0 < T)), D) := ev_cm (ev_vr hg.s17) rfl rfl (by simp [pCmp])
    have ca : ev P40 (.and_ (.cons (.cmp .gt (.var 17) (.int 0)) (.cons (.cmp .eq (.lc1 [29] (.var 29) (.nm 29) (.rng2 (.var 14) (.bin .add (.var 14) (.var 25))) (.cons (.cmp .ge (.bi .len (.cons (.call 24 (.cons (.var 4) (.cons (.var 29) .nil))) .nil)) (.var 17)) .nil)) (.lst .nil)) .nil))) τ D = some (.bl (decide (0 < T) && !busy bs T long y), D) := by
      rw [ev_and, evand_cons, c1, Option.bind_some, blOf_bl, Option.bind_some]
      by_cases e : 0 < T
      · rw [decide_eq_true e, if_pos rfl, evand_one, c2]; rfl
      · rw [decide_eq_false e]; rfl
    rw [ca]
    cases (decide (0 < T) && !busy bs T long y)
    · rfl
    · simp only [Option.map_some, blOf_bl, Option.bind_some, if_true, ev_vr g14]
  exact ex_as q
theorem ag_prs {k : Nat} {L : List (Int × Int)} (h : L.length ≤ 100000) : ag (k + 2) (.tup (L.map pv2)) = true := by
  unfold ag
  rw [List.length_map, List.all_map, Bool.and_eq_true, List.all_eq_true]
  exact ⟨decide_eq_true h, fun x _ => by
    show ag (k + 1) (.tup ([x.1, x.2].map .int)) = true
    exact ag_ints (by simp)⟩
theorem x20 (h : G ρ bs T day) (hB : Bs bs) (hT0 : 0 ≤ T) (d0 : 0 ≤ day) (d1 : day ≤ 8) (a0 : day ≤ last) (a1 : last ≤ day + 5) (l0 : 1 ≤ long) (l1 : long ≤ 4) (h23 : getS ρ 23 = some (.int last)) (h24 : getS ρ 24 = some (.lst ((spn bs T day last).map pv2))) (h25 : getS ρ 25 = some (.int long)) (h15 : getS ρ 15 = some (.lst ((bgn bs T day long).map .int))) : ex P40 b20 ρ D = some (.nx, ρ, D) := by
  have sl : (spn bs T day last).length ≤ 100000 := by
    unfold spn
    have := jst_lens (((rg day (last + 1)).filter fun d => decide (cnt bs d < T)).map fun d => (d, d + 1)) []
    have h2 := List.length_filter_le (fun d => decide (cnt bs d < T)) (rg day (last + 1))
    rw [rg_len] at h2
    simp at this
    omega
  have c1 : ev P40 (.cmp .gt (.var 17) (.int 0)) ρ D = some (.bl (decide (0 < T)), D) := ev_cm (ev_vr h.s17) rfl rfl (by simp [pCmp])
  obtain ⟨w, w1, w2, w3⟩ : ∃ w, sem DD 40 16 [EB bs, .int T, .int day, .int long] D = some (w, D) ∧ ev P40 (.ite (.cmp .gt (.var 17) (.int 0)) (.idx (.var 15) (.int 0)) .non) ρ D = some (w, D) ∧ ag 2 w = true := by
    by_cases c : 0 < T
    · obtain ⟨x, x1, x2⟩ := first_ok hB c d0 (by omega : day ≤ 20) (by omega : 0 ≤ long) (by omega : long ≤ 10)
      refine ⟨.int x, x2 38 D, ev_it c1 ?_, rfl⟩
      rw [decide_eq_true c]
      show ev P40 (.idx (.var 15) (.int 0)) ρ D = _
      refine ev_ix (ev_vr h15) rfl rfl (ix_lst PV.int (by decide) ?_)
      have : bgn bs T day long = (rg day 30).filter fun y => !busy bs T long y := by
        unfold bgn
        rw [decide_eq_true c]; rfl
      rw [this]; exact x1
    · have : T = 0 := by omega
      refine ⟨.non, ?_, ev_it c1 ?_, rfl⟩
      · rw [this]; exact first_none (n := 39)
      · rw [decide_eq_false c]; rfl
  have ag1 : ag 3 (.tup [.tup ((spn bs T day last).map pv2), w]) = true := by
    show (decide _ && (ag 2 (.tup ((spn bs T day last).map pv2)) && (ag 2 w && true))) = true
    rw [ag_prs sl, w3]; rfl
  exact chkS (alk (m := 40) ag1 (by decide)) (ev_t2 (ev_c4 (ev_vr h.s4) (ev_vr h.s17) (ev_vr h.s18) (ev_vr h23) (spans_ok (n := 38) hB.len d0 a0 (by omega))) (ev_c4 (ev_vr h.s4) (ev_vr h.s17) (ev_vr h.s18) (ev_vr h25) w1)) (ev_t2 (ev_b1 (ev_vr h24) rfl rfl) w2)
end
section
variable {ρ : Envi} {D : DS} {bs : List B} {T day last long : Int}
/-! ### one more -/
theorem getLast_base (hne : rows bs T ≠ []) : base bs T ∈ rows bs T := by
  unfold base
  cases e : (rows bs T).getLast? with
  | none => exact absurd (List.getLast?_eq_none_iff.mp e) hne
  | some r => exact List.mem_of_getLast? e
abbrev eW : CE := .lc1 [28] (.tup (.cons (.bi .len (.cons (.lc1 [3] (.var 3) (.nm 3) (.rng1 (.bi .len (.cons (.var 7) .nil))) (.cons (.cmp .ne (.idx (.var 28) (.var 3)) (.idx (.var 7) (.var 3))) .nil)) .nil)) (.cons (.var 28) .nil))) (.nm 28) (.over (.call 23 (.cons (.bin .add (.bi .len (.cons (.bor 4) .nil)) (.int 1)) (.cons (.var 17) .nil)))) (.cons (.call 25 (.cons (.bin .add (.bor 4) (.tup (.cons (.var 26) .nil))) (.cons (.var 28) .nil))) .nil)
theorem ev_ways {more : B} (h : G ρ bs T day) (hB2 : Bs (bs ++ [more])) (hT0 : 0 ≤ T) (hT : T ≤ 3) (h7 : getS ρ 7 = some (ET (base bs T))) (h26 : getS ρ 26 = some (pv2 more)) : ev P40 eW ρ D = some (.lst ((ways (bs ++ [more]) T (base bs T)).map kc), D) := by
  have hl := hB2.len
  have hol : (bs ++ [more]).length = bs.length + 1 := by simp
  have bl := base_len (bs := bs) (T := T)
  have lr := law_rows_ok (n := 39) (D := D) (m := bs.length + 1) (by omega) hT hT0
  have ln : ev P40 (.bin .add (.bi .len (.cons (.bor 4) .nil)) (.int 1)) ρ D = some (.int ((bs.length + 1 : Nat) : Int), D) := (ev_bn (ev_len4 h) (y := .int 1) rfl rfl).trans (by rw [Int.natCast_add]; rfl)
  have q := lcP (Φ := P40) (D := D) (ρ := ρ) (own := [28]) (ce := .tup (.cons (.bi .len (.cons (.lc1 [3] (.var 3) (.nm 3) (.rng1 (.bi .len (.cons (.var 7) .nil))) (.cons (.cmp .ne (.idx (.var 28) (.var 3)) (.idx (.var 7) (.var 3))) .nil)) .nil)) (.cons (.var 28) .nil))) (pt := .nm 28) (ci := .over (.call 23 (.cons (.bin .add (.bi .len (.cons (.bor 4) .nil)) (.int 1)) (.cons (.var 17) .nil)))) (ct := .cons (.call 25 (.cons (.bin .add (.bor 4) (.tup (.cons (.var 26) .nil))) (.cons (.var 28) .nil))) .nil)
    ET (rws (bs.length + 1) T) (lgd (bs ++ [more])) (fun r => kc (mvd (base bs T) r)) (evi_ov (ev_c2 ln (ev_vr h.s17) lr)) fun r hr => by
    have rl := (mem_rws.mp hr).1
    have hg : G (ρ.set 28 (some (false, ET r))) bs T day := h.set
    have g28 : getS (ρ.set 28 (some (false, ET r))) 28 = some (ET r) := by simp [h.len]
    have g7 : getS (ρ.set 28 (some (false, ET r))) 7 = some (ET (base bs T)) := by simp [h7]
    have g26 : getS (ρ.set 28 (some (false, ET r))) 26 = some (pv2 more) := by simp [h26]
    show ((bindP (.nm 28) (ET r) (wipE ρ [28])).bind _) = _
    rw [show bindP (.nm 28) (ET r) (wipE ρ [28]) = some (ρ.set 28 (some (false, ET r))) by simp [bindP, wipE], Option.bind_some, evt_one]
    generalize ρ.set 28 (some (false, ET r)) = τ at *
    have ad : pBin .add (.tup (bs.map pv2)) (.tup [pv2 more]) = some (EB (bs ++ [more])) := by
      rw [tup_add (by simp; omega)]; simp
    have eo : ev P40 (.bin .add (.bor 4) (.tup (.cons (.var 26) .nil))) τ D = some (EB (bs ++ [more]), D) := by
      refine ev_bn (ev_br hg.b4) (y := .tup [pv2 more]) ?_ ad
      rw [ev_tup, evs_cons, ev_vr g26]; rfl
    have lg := law_good_ok (n := 38) (D := D) (bs := bs ++ [more]) (r := r) (by omega) (by omega)
    rw [ev_c2 eo (ev_vr g28) lg]
    have q2 := lcP (Φ := P40) (D := D) (ρ := τ) (own := [3]) (ce := .var 3) (pt := .nm 3) (ci := .rng1 (.bi .len (.cons (.var 7) .nil))) (ct := .cons (.cmp .ne (.idx (.var 28) (.var 3)) (.idx (.var 7) (.var 3))) .nil) PV.int (rg 0 (base bs T).length) (fun k => !decide (v r k = v (base bs T) k)) PV.int (evi_r1 (by simp [g7]) (by omega) (by omega)) fun k hk => by
      obtain ⟨k0, k1⟩ := mem_rg.mp hk
      have a := ixv (r := r) (k := k) k0 (by omega)
      have b := ixv (r := base bs T) (k := k) k0 (by omega)
      by_cases e : v r k = v (base bs T) k <;> simp [st1, bindP, wipE, hg.len, g7, g28, a, b, pCmp, e]
    cases e : lgd (bs ++ [more]) r with
    | false => rfl
    | true =>
      have l1 : ev P40 (.bi .len (.cons (.lc1 [3] (.var 3) (.nm 3) (.rng1 (.bi .len (.cons (.var 7) .nil))) (.cons (.cmp .ne (.idx (.var 28) (.var 3)) (.idx (.var 7) (.var 3))) .nil)) .nil)) τ D = some (.int (mvd (base bs T) r).1, D) := by
        refine (ev_b1 q2 rfl rfl).trans ?_
        rw [List.length_map]; rfl
      simp only [Option.map_some, blOf_bl, Option.bind_some, if_true]
      rw [ev_t2 l1 (ev_vr g28)]
      rfl
  have em : ((rws (bs.length + 1) T).filter (lgd (bs ++ [more]))).map (fun r => kc (mvd (base bs T) r)) = (ways (bs ++ [more]) T (base bs T)).map kc := by
    unfold ways rows
    rw [hol, List.map_map]; rfl
  rw [em] at q
  exact q
theorem mans_ag {L : List (Int × List Int)} (h : ∀ q ∈ L, q.2.length ≤ 1000) : ag 2 (mans L) = true := by
  cases L with
  | nil => rfl
  | cons q L =>
    obtain ⟨w, h1, h2, _⟩ := min_kc (L := q :: L) (by simp)
    have := pMin_mans (L := q :: L) (by simp)
    have e : mans (q :: L) = kc w := by rw [this] at h2; exact Option.some.inj h2
    rw [e]
    exact kc_ag (h w h1)
theorem x21 (h : G ρ bs T day) (hB : Bs bs) (hl5 : bs.length ≤ 5) (hT0 : 0 ≤ T) (hT : T ≤ 3) (d0 : 0 ≤ day) (d1 : day ≤ 8) (l0 : 1 ≤ long) (l1 : long ≤ 4) (hw : Wst D) (h5 : getS ρ 5 = some (.lst ((rows bs T).map ET))) (h7 : getS ρ 7 = some (ET (base bs T))) (h25 : getS ρ 25 = some (.int long)) : ∃ ρ' D', ex P40 b21 ρ D = some (.nx, ρ', D') ∧ Wst D' ∧ Kp [3, 22, 26, 27] ρ ρ' := by
  by_cases c : rows bs T = []
  · refine ⟨ρ, D, ?_, hw, Kp.refl _ _⟩
    have := ev_ner (D := D) h5
    rw [decide_eq_true c] at this
    exact ex_no this
  have bl := base_len (bs := bs) (T := T)
  have tst := ev_ner (D := D) h5
  rw [decide_eq_false c] at tst
  have hB2 : Bs (bs ++ [(day, day + long)]) := ⟨by simp; omega, fun b hb => by
    rcases List.mem_append.mp hb with hb | hb
    · exact hB.ok b hb
    · rw [List.mem_singleton.mp hb]; simp only; omega⟩
  have e26 : ev P40 (.tup (.cons (.var 18) (.cons (.bin .add (.var 18) (.var 25)) .nil))) ρ D = some (pv2 (day, day + long), D) := ev_t2 (ev_vr h.s18) (ev_bn (ev_vr h.s18) (ev_vr h25) rfl)
  have k1 : Kp [3, 22, 26, 27] ρ (ρ.set 26 (some (false, pv2 (day, day + long)))) := (Kp.refl _ ρ).set
  have g26 : getS (ρ.set 26 (some (false, pv2 (day, day + long)))) 26 = some (pv2 (day, day + long)) := by simp [h.len]
  have hg1 := h.kp k1
  have e27 := ev_ways (D := D) hg1 hB2 hT0 hT (k1.get h7) g26
  have ml := moved_ok (n := 36) (D := D) (old := base bs T) (more := (day, day + long)) hB2 bl hT0 hT
  have wl : ∀ q ∈ ways (bs ++ [(day, day + long)]) T (base bs T), q.2.length ≤ 1000 := fun q hq => by
    obtain ⟨r, hr, rfl⟩ := List.mem_map.mp hq
    have := (mem_rws.mp (List.mem_filter.mp hr).1).1
    have hl2 := hB2.len
    show r.length ≤ 1000
    omega
  generalize hW : ways (bs ++ [(day, day + long)]) T (base bs T) = W at *
  have k2 : Kp [3, 22, 26, 27] ρ ((ρ.set 26 (some (false, pv2 (day, day + long)))).set 27 (some (false, .lst (W.map kc)))) := k1.set
  have hg2 := h.kp k2
  have g27 : getS ((ρ.set 26 (some (false, pv2 (day, day + long)))).set 27 (some (false, .lst (W.map kc)))) 27 = some (.lst (W.map kc)) := by simp [h.len]
  have g26' : getS ((ρ.set 26 (some (false, pv2 (day, day + long)))).set 27 (some (false, .lst (W.map kc)))) 26 = some (pv2 (day, day + long)) := by rw [getS_set, if_neg (by decide)]; exact g26
  have g7 := k2.get h7
  have go1 : ∀ r : CSs, exs P40 (.cons (.asg false 26 (.tup (.cons (.var 18) (.cons (.bin .add (.var 18) (.var 25)) .nil)))) (.cons (.asg false 27 eW) (.frz [4] r))) ρ D = exs P40 r ((ρ.set 26 (some (false, pv2 (day, day + long)))).set 27 (some (false, .lst (W.map kc)))) D := fun r => by
    rw [xs_nx (ex_as e26), xs_nx (ex_as e27), exs_frz, frz_of hg2.s4]
  generalize (ρ.set 26 (some (false, pv2 (day, day + long)))).set 27 (some (false, PV.lst (W.map kc))) = τ at *
  have pw : pCmp .ne (.lst (W.map kc)) (.lst []) = some (!decide (W = [])) := by
    have : pEq (.lst (W.map kc)) (.lst []) = some (decide (W = [])) := by
      show (if (shp DEP (.lst (W.map kc)) && shp DEP (.lst [])) = true then some (peq (.lst (W.map kc)) (.lst [])) else none) = _
      have : shp DEP (.lst (W.map kc)) = true := by
        show (W.map kc).all (shp 19) = true
        rw [List.all_map, List.all_eq_true]
        intro q _
        show (shp 18 (.int q.1) && (shp 18 (ET q.2) && true)) = true
        rw [shp_ET]; simp
      rw [this]
      cases W <;> simp [peq, peqs, shp]
    show (pEq _ _).map _ = _
    rw [this]; rfl
  have c2 : ex P40 (.ife (.not_ (.call 22 (.cons (.call 17 (.cons (.var 4) (.cons (.var 7) (.cons (.var 17) (.cons (.var 26) .nil))))) (.cons (.ite (.cmp .ne (.var 27) (.lst .nil)) (.bi .min (.cons (.var 27) .nil)) .non) .nil)))) (.cons (.ret (.bl false)) .nil) .nil) τ D = some (.nx, τ, D) := by
    refine chkS (alk (m := 40) (mans_ag wl) (by decide)) (ev_c4 (ev_vr hg2.s4) (ev_vr g7) (ev_vr hg2.s17) (ev_vr g26') ml) (ev_it (ev_cm (ev_vr g27) rfl rfl pw) ?_)
    by_cases e : W = []
    · rw [decide_eq_true e, e]; rfl
    · rw [decide_eq_false e]
      show ev P40 (.bi .min (.cons (.var 27) .nil)) τ D = _
      exact ev_b1 (ev_vr g27) rfl (pMin_mans e)
  have pe : pCmp .ne (.tup (bs.map pv2)) (.tup []) = some (!decide (bs = [])) := by
    have : pEq (.tup (bs.map pv2)) (.tup []) = some (decide (bs = [])) := by
      show (if (shp DEP (.tup (bs.map pv2)) && shp DEP (.tup [])) = true then some (peq (.tup (bs.map pv2)) (.tup [])) else none) = _
      have : shp DEP (.tup (bs.map pv2)) = true := by
        show (bs.map pv2).all (shp 19) = true
        rw [List.all_map, List.all_eq_true]
        intro q _
        show (shp 18 (.int q.1) && (shp 18 (.int q.2) && true)) = true
        simp
      rw [this]
      cases bs <;> simp [peq, peqs, shp]
    show (pEq _ _).map _ = _
    rw [this]; rfl
  have c3 : ev P40 (.cmp .ne (.bor 4) (.tup .nil)) τ D = some (.bl (!decide (bs = [])), D) := ev_cm (ev_br hg2.b4) rfl rfl pe
  unfold b21
  rw [ex_ife, tst]
  simp only [Option.bind_some, blOf_bl, Bool.not_false, if_true]
  rw [go1, xs_nx c2]
  by_cases e : bs = []
  · rw [decide_eq_true e] at c3
    rw [xs_nx (ex_no c3)]
    exact ⟨τ, D, rfl, hw, k2⟩
  · rw [decide_eq_false e] at c3
    have hn : 0 < bs.length := List.length_pos_iff.mpr e
    obtain ⟨p, Dp, ep, p0, p1, wp⟩ := next40 (m := bs.length) hw (by omega)
    obtain ⟨q, Dq, eq, q0, q1, wq⟩ := next40 (m := 5) wp (by decide)
    have k3 : Kp [3, 22, 26, 27] ρ ((τ.set 3 (some (false, .int p))).set 22 (some (false, .int q))) := k2.set.set
    have hg3 := h.kp k3
    have g3 : getS ((τ.set 3 (some (false, .int p))).set 22 (some (false, .int q))) 3 = some (.int p) := by simp [hg2.len]
    have g22 : getS ((τ.set 3 (some (false, .int p))).set 22 (some (false, .int q))) 22 = some (.int q) := by simp [hg2.len]
    have s1 : ex P40 (.par (nms [3, 22]) [false, false] (.cons (.call 20 (.cons (.var 1) (.cons (.bi .len (.cons (.bor 4) .nil)) .nil))) (.cons (.call 20 (.cons (.var 1) (.cons (.int 5) .nil))) .nil))) τ D = some (.nx, (τ.set 3 (some (false, .int p))).set 22 (some (false, .int q)), Dq) := by
      rw [ex_par, evs_cons, ev_c2 (ev_vr hg2.s1) (ev_len4 hg2) ep, Option.bind_some, evs_cons, ev_c2 (ev_vr hg2.s1) (y := .int 5) rfl eq]
      rfl
    have g7' := k3.get h7
    have sl : (sset (lates bs (base bs T) p q)).length ≤ 100000 := by
      have := srt_len (a := 0) (b := bs.length) (srt_sset (lates bs (base bs T) p q)) (fun x hx => by
        have hx := mem_sset.mp hx
        unfold lates at hx
        obtain ⟨M, e, hs⟩ := lst2_sub bs (srtP (keysL bs (base bs T) p)) ([], (g bs p).2 + q)
        rw [e, List.nil_append] at hx
        obtain ⟨w, hw, rfl⟩ := List.mem_map.mp (hs.subset hx)
        exact keysL_mem hw) (by omega)
      omega
    refine ⟨(τ.set 3 (some (false, .int p))).set 22 (some (false, .int q)), Dq, ?_, wq, k3⟩
    rw [exs_cons, ex_ife, c3]
    simp only [Option.bind_some, blOf_bl, Bool.not_false, if_true]
    rw [xs_nx s1, exs_frz, frz_of hg3.s4]
    generalize (τ.set 3 (some (false, PV.int p))).set 22 (some (false, PV.int q)) = υ at *
    rw [xs_nx (chkS (alk (m := 40) (ag_ints sl : ag 1 (ET (sset (lates bs (base bs T) p q))) = true) (by decide)) (ev_c4 (ev_vr hg3.s4) (ev_vr g7') (ev_vr g3) (ev_vr g22) (spread_ok (n := 39) hB.len bl p0 p1)) (ev_c4 (ev_vr hg3.s4) (ev_vr g7') (ev_vr g3) (ev_vr g22) (law_spread_ok (n := 39) hB.len bl p0 p1)))]
    rfl
end
section
variable {ρ : Envi} {D : DS} {bs : List B} {T day last long : Int}
theorem x22 (h : G ρ bs T day) (hB : Bs bs) : ex P40 b22 ρ D = some (.nx, ρ, D) := by
  have hl := hB.len
  have c1 : ev P40 (.cmp .gt (.bi .len (.cons (.bor 4) .nil)) (.int 1)) ρ D = some (.bl (decide (1 < (bs.length : Int))), D) := ev_cm (ev_len4 h) rfl rfl (by simp [pCmp])
  refine ex_no ?_
  by_cases c : 1 < (bs.length : Int)
  case neg =>
    rw [decide_eq_false c] at c1
    rw [ev_and, evand_cons, c1]; rfl
  rw [decide_eq_true c] at c1
  rw [ev_and, evand_cons, c1, Option.bind_some, blOf_bl, Option.bind_some, if_pos rfl, evand_one]
  have i0 : ev P40 (.idx (.bor 4) (.int 0)) ρ D = some (pv2 (g bs 0), D) := ev_ix (ev_br h.b4) rfl rfl (ixb (by decide) (by omega))
  have i1 : ev P40 (.idx (.bor 4) (.int 1)) ρ D = some (pv2 (g bs 1), D) := ev_ix (ev_br h.b4) rfl rfl (ixb (by decide) (by omega))
  have q := lcP (Φ := P40) (D := D) (ρ := ρ) (own := [14]) (ce := .var 14) (pt := .nm 14) (ci := .rng1 (.int 16)) (ct := .cons (.and_ (.cons (.cmp .in_ (.int 0) (.call 24 (.cons (.var 4) (.cons (.var 14) .nil)))) (.cons (.cmp .in_ (.int 1) (.call 24 (.cons (.var 4) (.cons (.var 14) .nil)))) .nil))) .nil) PV.int (rg 0 16) (fun d => decide (0 ∈ th bs d) && decide (1 ∈ th bs d)) PV.int (evi_r1 rfl (by decide) (by decide)) fun d _ => by
    have t := law_there_ok (n := 39) (D := D) (d := d) (.inl rfl) hl
    by_cases e0 : (0 : Int) ∈ th bs d
    · by_cases e1 : (1 : Int) ∈ th bs d <;> simp [st1, bindP, wipE, h.s4, h.len, t, pCmp, e0, e1]
    · simp [st1, bindP, wipE, h.s4, h.len, t, pCmp, e0]
  have rr : ev P40 (.cmp .ne (.lc1 [14] (.var 14) (.nm 14) (.rng1 (.int 16)) (.cons (.and_ (.cons (.cmp .in_ (.int 0) (.call 24 (.cons (.var 4) (.cons (.var 14) .nil)))) (.cons (.cmp .in_ (.int 1) (.call 24 (.cons (.var 4) (.cons (.var 14) .nil)))) .nil))) .nil)) (.lst .nil)) ρ D = some (.bl (ov (g bs 0) (g bs 1)), D) := by
    refine ev_cm q rfl rfl ?_
    show (pEq _ _).map _ = _
    rw [pEq_lstN, Option.map_some]
    congr 1
    have n0 := hB.nn (k := 0) (by decide) (by omega)
    have n1 := hB.nn (k := 1) (by decide) (by omega)
    unfold ov
    rw [Bool.eq_iff_iff, Bool.not_eq_true', decide_eq_false_iff_not, decide_eq_true_iff]
    constructor
    · intro hne
      obtain ⟨d, hd⟩ := List.exists_mem_of_ne_nil _ hne
      rw [List.mem_filter, Bool.and_eq_true, decide_eq_true_iff, decide_eq_true_iff] at hd
      have a := on_iff.mp (mem_th.mp hd.2.1).2
      have b := on_iff.mp (mem_th.mp hd.2.2).2
      omega
    · intro ho hz
      have : ∃ d, (0 ≤ d ∧ d < 16) ∧ ((g bs 0).1 ≤ d ∧ d < (g bs 0).2) ∧ (g bs 1).1 ≤ d ∧ d < (g bs 1).2 := by
        by_cases c : (g bs 0).1 ≤ (g bs 1).1
        · exact ⟨(g bs 1).1, by omega⟩
        · exact ⟨(g bs 0).1, by omega⟩
      obtain ⟨d, d0, d1, d2⟩ := this
      have hm : d ∈ (rg 0 16).filter fun d => decide (0 ∈ th bs d) && decide (1 ∈ th bs d) := by
        rw [List.mem_filter, Bool.and_eq_true, decide_eq_true_iff, decide_eq_true_iff]
        exact ⟨mem_rg.mpr d0, mem_th.mpr ⟨by omega, on_iff.mpr d1⟩, mem_th.mpr ⟨by omega, on_iff.mpr d2⟩⟩
      rw [hz] at hm; cases hm
  exact chkE (alk (m := 40) (w := .bl (ov (g bs 0) (g bs 1))) (k := 0) rfl (by decide)) (ev_c2 i0 i1 (overlap_ok (n := 39))) rr
theorem x23 (h : G ρ bs T day) (hB : Bs bs) : ∃ ρ', ex P40 b23 ρ D = some (.nx, ρ', D) ∧ Kp [16] ρ ρ' := by
  have hl := hB.len
  have v4 : ev P40 (.bor 4) ρ D = some (EB bs, D) := ev_br h.b4
  have ad : ∀ (e : CE) (x : PV), ev P40 e ρ D = some (x, D) → ev P40 (.bin .add (.bor 4) (.tup (.cons e .nil))) ρ D = some (.tup (bs.map pv2 ++ [x]), D) := fun e x he => by
    refine ev_bn v4 (y := .tup [x]) ?_ (tup_add (by simp; omega))
    rw [ev_tup, evs_cons, he]; rfl
  have ls : ev P40 (.bi .list (.cons (.bor 4) .nil)) ρ D = some (.lst (bs.map pv2), D) := ev_b1 v4 rfl rfl
  have hi : evi P40 (.over (.tup (.cons (.bi .list (.cons (.bor 4) .nil)) (.cons .non (.cons (.bin .add (.bor 4) (.tup (.cons (.tup (.cons (.int 1) (.cons (.int 1) .nil))) .nil))) (.cons (.bin .add (.bor 4) (.tup (.cons (.tup (.cons (.int 2) (.cons (.int 1) .nil))) .nil))) (.cons (.bin .add (.bor 4) (.tup (.cons (.tup (.cons (.neg (.int 1)) (.cons (.int 1) .nil))) .nil))) (.cons (.bin .add (.bor 4) (.tup (.cons (.tup (.cons (.int 1) .nil)) .nil))) (.cons (.bin .add (.bor 4) (.tup (.cons (.tup (.cons (.bl true) (.cons (.int 3) .nil))) .nil))) (.cons (.bin .add (.bor 4) (.tup (.cons (.tup (.cons (.int 0) (.cons .non .nil))) .nil))) (.cons (.bin .add (.bor 4) (.tup (.cons (.int 3) .nil))) .nil))))))))))) ρ D = some ((bads bs).map id, D) := by
    rw [List.map_id]
    refine evi_ovT ?_
    rw [ev_tup, evs_cons, ls, Option.bind_some, evs_cons, ev_non, Option.bind_some, evs_cons, ad _ (.tup [.int 1, .int 1]) rfl, Option.bind_some, evs_cons, ad _ (.tup [.int 2, .int 1]) rfl, Option.bind_some, evs_cons, ad _ (.tup [.int (-1), .int 1]) rfl, Option.bind_some, evs_cons, ad _ (.tup [.int 1]) rfl, Option.bind_some, evs_cons, ad _ (.tup [.bl true, .int 3]) rfl, Option.bind_some, evs_cons, ad _ (.tup [.int 0, .non]) rfl, Option.bind_some, evs_cons, ad _ (.int 3) rfl]
    rfl
  obtain ⟨ρ', e, hk⟩ := ex_forP (Φ := P40) (D := D) (ρ := ρ) (α := PV) (p := .nm 16) (b := .cons (.ife (.not_ (.call 22 (.cons (.call 4 (.cons (.var 16) .nil)) (.cons (.bl false) .nil)))) (.cons (.ret (.bl false)) .nil) .nil) .nil) id (bads bs) (fun (_ : Unit) ρ' => Kp [16] ρ ρ') (fun _ _ => ()) () hi (Kp.refl _ ρ) (fun pre x post ρ1 hx hk => by
      have hb := bad_all (n := 37) bs D x (by rw [hx]; simp)
      have g16 : getS (ρ1.set 16 (some (false, x))) 16 = some x := by rw [getS_set, if_pos rfl, if_pos (by rw [hk.1, h.len]; decide)]
      refine ⟨.nx, ρ1.set 16 (some (false, x)), ?_, .inl rfl, hk.set⟩
      show exs P40 _ (ρ1.set 16 (some (false, x))) D = _
      rw [xs_nx (chkS (alk (m := 40) (k := 0) (w := .bl false) rfl (by decide)) (ev_c1 (ev_vr g16) hb) rfl)]
      rfl)
  exact ⟨ρ', e, hk⟩
theorem x24 (h : G ρ bs T day) (hB : Bs bs) : ex P40 b24 ρ D = some (.nx, ρ, D) := chkS (alk (m := 40) (k := 0) (w := .bl true) rfl (by decide)) (ev_c1 (ev_vr h.s4) (are_yes (n := 37) hB)) rfl
theorem turn_ok (hl : ρ.length = 30) (hw : Wst D) (h1 : getS ρ 1 = some (.shr 0)) : ∃ ρ' D', exs P40 bod ρ D = some (.nx, ρ', D') ∧ (ρ'.length = 30 ∧ getS ρ' 1 = some (.shr 0) ∧ Wst D') := by
  unfold bod
  obtain ⟨T, day, ρ1, D1, e0, w1, l1, g1, g17, g18, g4, T0, T3, d0, d8⟩ := x0 hl h1 hw
  refine go e0 ?_
  obtain ⟨bs, ρ2, D2, e1, w2, l2, g1', g17', g18', g4', hl5, hb⟩ := x1 l1 g1 g17 g18 g4 w1
  refine go e1 ?_
  obtain ⟨e2, hg⟩ := x2 (D := D2) l2 g1' g17' g18' g4'
  have hB : Bs bs := ⟨by omega, hb⟩
  refine go e2 (gof hg.s4 ?_)
  generalize ρ2.set 4 (some (false, EB bs)) = τ at *
  refine go (x3 hg hB T0 T3) ?_
  have hg3 : G (τ.set 5 (some (false, .lst ((rows bs T).map ET)))) bs T day := hg.set
  have h5 : getS (τ.set 5 (some (false, .lst ((rows bs T).map ET)))) 5 = some (.lst ((rows bs T).map ET)) := by simp [hg.len]
  generalize τ.set 5 (some (false, PV.lst ((rows bs T).map ET))) = τ3 at *
  refine gof hg3.s4 (go (x4 hg3 hB T0 T3) ?_)
  have hg4 : G (τ3.set 6 (some (false, hans bs T))) bs T day := hg3.set
  have h6 : getS (τ3.set 6 (some (false, hans bs T))) 6 = some (hans bs T) := by simp [hg3.len]
  have h5a : getS (τ3.set 6 (some (false, hans bs T))) 5 = some (.lst ((rows bs T).map ET)) := by simp [h5]
  generalize τ3.set 6 (some (false, hans bs T)) = τ4 at *
  refine gof hg4.s4 (go (x5 hg4 hB T0 T3 h5a h6) (go (x6 hg4 hB T0 h5a) ?_))
  have hg6 : G (τ4.set 7 (some (false, ET (base bs T)))) bs T day := hg4.set
  have h7 : getS (τ4.set 7 (some (false, ET (base bs T)))) 7 = some (ET (base bs T)) := by simp [hg4.len]
  have h5b : getS (τ4.set 7 (some (false, ET (base bs T)))) 5 = some (.lst ((rows bs T).map ET)) := by simp [h5a]
  have h6b : getS (τ4.set 7 (some (false, ET (base bs T)))) 6 = some (hans bs T) := by simp [h6]
  generalize τ4.set 7 (some (false, ET (base bs T))) = τ6 at *
  obtain ⟨τ7, e7, k7⟩ := x7 (D := D2) hg6 hB T0 h5b h6b h7
  refine go e7 ?_
  have hg7 := hg6.kp k7
  have h5c := k7.get h5b
  have h7c := k7.get h7
  obtain ⟨fx, D3, e8, w3, hF⟩ := x8 hg7 hB T0 w2
  refine go e8 ?_
  have hg8 : G (τ7.set 9 (some (false, .dct 0 (kvI fx)))) bs T day := hg7.set
  have h9 : getS (τ7.set 9 (some (false, .dct 0 (kvI fx)))) 9 = some (.dct 0 (kvI fx)) := by simp [hg7.len]
  have h5d : getS (τ7.set 9 (some (false, .dct 0 (kvI fx)))) 5 = some (.lst ((rows bs T).map ET)) := by simp [h5c]
  have h7d : getS (τ7.set 9 (some (false, .dct 0 (kvI fx)))) 7 = some (ET (base bs T)) := by simp [h7c]
  generalize τ7.set 9 (some (false, PV.dct 0 (kvI fx))) = τ8 at *
  refine go (x9 hg8 hB hF h5d h9) ?_
  have hg9 : G (τ8.set 10 (some (false, .lst ((abl bs T fx).map ET)))) bs T day := hg8.set
  have h10 : getS (τ8.set 10 (some (false, .lst ((abl bs T fx).map ET)))) 10 = some (.lst ((abl bs T fx).map ET)) := by simp [hg8.len]
  have h9e : getS (τ8.set 10 (some (false, .lst ((abl bs T fx).map ET)))) 9 = some (.dct 0 (kvI fx)) := by simp [h9]
  have h5e : getS (τ8.set 10 (some (false, .lst ((abl bs T fx).map ET)))) 5 = some (.lst ((rows bs T).map ET)) := by simp [h5d]
  have h7e : getS (τ8.set 10 (some (false, .lst ((abl bs T fx).map ET)))) 7 = some (ET (base bs T)) := by simp [h7d]
  generalize τ8.set 10 (some (false, PV.lst ((abl bs T fx).map ET))) = τ9 at *
  refine gof hg9.s4 (go (x10 hg9 hB T0 T3 hF h9e h10) (go (x11 hg9 hB) ?_))
  have hg10 : G (τ9.set 11 (some (false, .lst ((fs bs T).map ET)))) bs T day := hg9.set
  have h11 : getS (τ9.set 11 (some (false, .lst ((fs bs T).map ET)))) 11 = some (.lst ((fs bs T).map ET)) := by simp [hg9.len]
  have h5f : getS (τ9.set 11 (some (false, .lst ((fs bs T).map ET)))) 5 = some (.lst ((rows bs T).map ET)) := by simp [h5e]
  have h7f : getS (τ9.set 11 (some (false, .lst ((fs bs T).map ET)))) 7 = some (ET (base bs T)) := by simp [h7e]
  generalize τ9.set 11 (some (false, PV.lst ((fs bs T).map ET))) = τ10 at *
  obtain ⟨q1, m1, p1, n1⟩ := fs_min hB T0 many
  obtain ⟨q2, m2, p2, n2⟩ := fs_min hB T0 (dsum bs)
  have ln : ∀ r ∈ fs bs T, r.length ≤ 1000 := fun r hr => by
    have := ((mem_subs _).mp (List.mem_filter.mp hr).1).length_le
    rw [rg_len] at this
    omega
  have lq1 : q1.2.length ≤ 1000 := by
    obtain ⟨r, hr, rfl⟩ := List.mem_map.mp m1
    exact ln r hr
  have lq2 : q2.2.length ≤ 1000 := by
    obtain ⟨r, hr, rfl⟩ := List.mem_map.mp m2
    exact ln r hr
  refine go (x12 hg10 hB h11 p1 p2) ?_
  have hg11 : G ((τ10.set 21 (some (false, kc q1))).set 22 (some (false, kc q2))) bs T day := hg10.set.set
  have h21 : getS ((τ10.set 21 (some (false, kc q1))).set 22 (some (false, kc q2))) 21 = some (kc q1) := by simp [hg10.len]
  have h22 : getS ((τ10.set 21 (some (false, kc q1))).set 22 (some (false, kc q2))) 22 = some (kc q2) := by simp [hg10.len]
  have h5g : getS ((τ10.set 21 (some (false, kc q1))).set 22 (some (false, kc q2))) 5 = some (.lst ((rows bs T).map ET)) := by simp [h5f]
  have h7g : getS ((τ10.set 21 (some (false, kc q1))).set 22 (some (false, kc q2))) 7 = some (ET (base bs T)) := by simp [h7f]
  generalize (τ10.set 21 (some (false, kc q1))).set 22 (some (false, kc q2)) = τ11 at *
  refine gof hg11.s4 (go (x13 hg11 hB h21 h22 lq1 lq2 p1 p2) ?_)
  obtain ⟨τ12, e14, e15, k15, h12⟩ := x1415 (D := D3) hg11 hB
  refine go e14 (go e15 ?_)
  have hg12 := hg11.kp k15
  have h5h := k15.get h5g
  have h7h := k15.get h7g
  refine gof hg12.s4 (go (x16 hg12 hB T0 h12 (k15.get h21) m1 n1) ?_)
  obtain ⟨last, long, D4, e17, w4, a0, a1, b0, b1⟩ := x17 hg12 d0 w3
  refine go e17 ?_
  have hg13 : G (((τ12.set 23 (some (false, .int last))).set 24 (some (false, .lst []))).set 25 (some (false, .int long))) bs T day := hg12.set.set.set
  have h23 : getS (((τ12.set 23 (some (false, .int last))).set 24 (some (false, .lst []))).set 25 (some (false, .int long))) 23 = some (.int last) := by simp [hg12.len]
  have h24 : getS (((τ12.set 23 (some (false, .int last))).set 24 (some (false, .lst []))).set 25 (some (false, .int long))) 24 = some (.lst []) := by simp [hg12.len]
  have h25 : getS (((τ12.set 23 (some (false, .int last))).set 24 (some (false, .lst []))).set 25 (some (false, .int long))) 25 = some (.int long) := by simp [hg12.len]
  have h5i : getS (((τ12.set 23 (some (false, .int last))).set 24 (some (false, .lst []))).set 25 (some (false, .int long))) 5 = some (.lst ((rows bs T).map ET)) := by simp [h5h]
  have h7i : getS (((τ12.set 23 (some (false, .int last))).set 24 (some (false, .lst []))).set 25 (some (false, .int long))) 7 = some (ET (base bs T)) := by simp [h7h]
  generalize ((τ12.set 23 (some (false, PV.int last))).set 24 (some (false, PV.lst []))).set 25 (some (false, PV.int long)) = τ13 at *
  obtain ⟨τ14, e18, k18, h24'⟩ := x18 (D := D4) hg13 hB d0 d8 a0 a1 h23 h24
  refine gof hg13.s4 (go e18 ?_)
  have hg14 := hg13.kp k18
  have h25j := k18.get h25
  refine gof hg14.s4 (go (x19 hg14 hB d0 d8 b0 b1 h25j) ?_)
  have h23j := k18.get h23
  have h5j := k18.get h5i
  have h7j := k18.get h7i
  have hg15 : G (τ14.set 15 (some (false, .lst ((bgn bs T day long).map .int)))) bs T day := hg14.set
  have h15 : getS (τ14.set 15 (some (false, .lst ((bgn bs T day long).map .int)))) 15 = some (.lst ((bgn bs T day long).map .int)) := by simp [hg14.len]
  have h23k : getS (τ14.set 15 (some (false, .lst ((bgn bs T day long).map .int)))) 23 = some (.int last) := by simp [h23j]
  have h24k : getS (τ14.set 15 (some (false, .lst ((bgn bs T day long).map .int)))) 24 = some (.lst ((spn bs T day last).map pv2)) := by simp [h24']
  have h25k : getS (τ14.set 15 (some (false, .lst ((bgn bs T day long).map .int)))) 25 = some (.int long) := by simp [h25j]
  have h5k : getS (τ14.set 15 (some (false, .lst ((bgn bs T day long).map .int)))) 5 = some (.lst ((rows bs T).map ET)) := by simp [h5j]
  have h7k : getS (τ14.set 15 (some (false, .lst ((bgn bs T day long).map .int)))) 7 = some (ET (base bs T)) := by simp [h7j]
  generalize τ14.set 15 (some (false, PV.lst ((bgn bs T day long).map .int))) = τ15 at *
  refine gof hg15.s4 (go (x20 hg15 hB T0 d0 d8 a0 a1 b0 b1 h23k h24k h25k h15) ?_)
  obtain ⟨τ16, D5, e21, w5, k21⟩ := x21 hg15 hB hl5 T0 T3 d0 d8 b0 b1 w4 h5k h7k h25k
  refine go e21 ?_
  have hg16 := hg15.kp k21
  refine gof hg16.s4 (go (x22 hg16 hB) ?_)
  obtain ⟨τ17, e23, k23⟩ := x23 (D := D5) hg16 hB
  refine go e23 ?_
  have hg17 := hg16.kp k23
  refine gof hg17.s4 (go (x24 hg17 hB) ?_)
  exact ⟨τ17, D5, rfl, hg17.len, hg17.s1, w5⟩
end
end MP.K02

namespace MP.K02
open PySem MP
theorem law_true : ∀ ns : List Int, ns.length ≤ 63 → ∃ D, sem DD 41 30 [.scr ns] [] = some (.bl true, D) := by
  intro ns hn
  obtain ⟨ds, e1, hd⟩ := draws_ok (q0 := 400) (Φ := sem DD 39) (D0 := []) hn
  have e1 : sem DD 40 19 [.scr ns, .int 400] [] = some (.lst (ds.map .int), []) := by
    rw [r_f__law_draws]
    exact e1
  have w0 : Wst [wD ds 0] := ⟨ds, 0, rfl, by decide, hd⟩
  have s1 : ex P40 (.asgS 1 (.dsp 0 (.cons (.str "draws") (.call 19 (.cons (.var 0) (.cons (.int 400) .nil))) (.cons (.str "at") (.int 0) .nil)))) (some (false, .scr ns) :: List.replicate 29 none) [] = some (.nx, (some (false, .scr ns) :: List.replicate 29 none).set 1 (some (false, .shr 0)), [wD ds 0]) := by
    have v0 : ev P40 (.var 0) (some (false, .scr ns) :: List.replicate 29 none) [] = some (.scr ns, []) := rfl
    have dm : dMerge [] [(PV.str "draws", PV.lst (ds.map .int)), (PV.str "at", PV.int 0)] = [(PV.str "draws", PV.lst (ds.map .int)), (PV.str "at", PV.int 0)] := by
      rw [dMerge, dMerge, dMerge]
      simp [dPut, k1]
    rw [ex_asgS, ev_dsp, evd_cons, ev_str, Option.bind_some, ev_call, evs_cons, v0, Option.bind_some, evs_cons, ev_int, Option.bind_some, evs_nil, Option.map_some, Option.map_some, Option.bind_some]
    show ((((sem DD 40 19 [.scr ns, .int 400] []).bind _).bind _).map _) = _
    rw [e1, Option.bind_some, evd_cons, ev_str, Option.bind_some, ev_int, Option.bind_some, evd_nil, Option.map_some, Option.map_some, Option.bind_some]
    rw [if_pos (by rfl), dm]
    rfl
  obtain ⟨ρ', D', e2, hl, h1, hw⟩ := for_inv (f := fun x ρ D => (bindP (.nm 2) x ρ).bind fun ρ1 => exs P40 bod ρ1 D) (xs := rngL 0 6) (ρ := (some (false, .scr ns) :: List.replicate 29 none).set 1 (some (false, .shr 0))) (D := [wD ds 0])
    (I := fun i ρ' D' => ρ'.length = 30 ∧ getS ρ' 1 = some (.shr 0) ∧ Wst D') (h0 := ⟨rfl, rfl, w0⟩)
    (fun i x ρ D hx ⟨hl, h1, hw⟩ => by
      obtain ⟨ρ', D', e, h⟩ := turn_ok (ρ := ρ.set 2 (some (false, x))) (D := D) (by rw [List.length_set, hl]) hw (by rw [getS_set, if_neg (by decide)]; exact h1)
      refine ⟨.nx, ρ', D', ?_, .inl rfl, h⟩
      show (bindP (.nm 2) x ρ).bind (fun ρ1 => exs P40 bod ρ1 D) = _
      rw [show bindP (.nm 2) x ρ = some (ρ.set 2 (some (false, x))) from rfl, Option.bind_some]
      exact e)
  have s2 : ex P40 (.for_ (.nm 2) (.rng1 (.int 6)) bod) ((some (false, .scr ns) :: List.replicate 29 none).set 1 (some (false, .shr 0))) [wD ds 0] = some (.nx, ρ', D') := by
    rw [ex_for, show evi P40 (.rng1 (.int 6)) ((some (false, .scr ns) :: List.replicate 29 none).set 1 (some (false, .shr 0))) [wD ds 0] = some (rngL 0 6, [wD ds 0]) from rfl, Option.bind_some]
    exact e2
  obtain ⟨ds', at', rfl, _⟩ := hw
  refine ⟨[], ?_⟩
  rw [r_f_law]
  unfold Def.run
  rw [if_pos (show [PV.scr ns].length = 1 from rfl)]
  have ee : exs (sem DD 40) c_f_law (some (false, .scr ns) :: List.replicate 29 none) [] = some (.rt (.bl true), ρ', [wD ds' at']) := by
    rw [law_eq, xs_nx s1, xs_nx s2]
    rfl
  show ((exs (sem DD 40) c_f_law (some (false, .scr ns) :: List.replicate 29 none) []).bind _) = _
  rw [ee]
  rfl
end MP.K02

open PySem PySem.W PySem.Calls PyProof.Rows
theorem PySem.Challenge.cw_toolslent_k02_bookings_kept_holds : PySem.Challenge.rw_toolslent_k02_bookings_kept.Holds := by
  w_on; o_law
  refine HandSHeadRun.head_any (r := OpenLaw.row PySem.Challenge.rw_toolslent_k02_bookings_kept) (q := view (OpenLaw.row PySem.Challenge.rw_toolslent_k02_bookings_kept).prog [33]) (H := MP.K02.hk) (ob := MP.K02.ob) (M := 4000) (loose := MP.K02.loose) (d := HandSHeadRun.topDef (OpenLaw.row PySem.Challenge.rw_toolslent_k02_bookings_kept).prog 33) (kwd := []) MP.K02.ob_eq
    (by kernel_rfl) (fun s => by kernel_rfl) MP.K02.run (by kernel_rfl) (by kernel_rfl) (by kernel_rfl) (by rfl) (by first | assumption | decide +kernel) (by decide +kernel) ⟨rfl, rfl, rfl, rfl, rfl, by decide +kernel⟩ ?hw ?hc
  case hw => w_witness2
  case hc =>
    refine L2.walk_ofE (l := PySem.Challenge.rw_toolslent_k02_bookings_kept) (n := 63) (k := 41) (x := "script") (CX := L2.CX0) rfl (by decide) (by kernel_rfl) ⟨rfl, by decide, by decide⟩ ?F (fun _ _ _ _ z => z)
    intro w mg fa h Y G hmg0
    obtain ⟨K, KX, c⟩ := Y
    have hmg : mg ("law" : PySem.Str) = some (.ref fa) := by
      have e : (HandSHeadRun.topDef (OpenLaw.row PySem.Challenge.rw_toolslent_k02_bookings_kept).prog 33).name = ("law" : PySem.Str) := by kernel_rfl
      rw [← e]
      exact hmg0
    obtain ⟨fd, hb, hF⟩ := MP.K02.facts (P := (PySem.Challenge.rw_toolslent_k02_bookings_kept).prog) (w := w) KX G hmg c
    exact ⟨K, fd, _, KX, hb, MP.law_sp MP.K02.law_true, hF⟩

